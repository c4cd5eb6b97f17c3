import PyProof.Rows.All
import Wide.All
import OpenK.AllK
import Wide.FinOn
import Lean
import PySem.Challenge.RW_nz0281_01
open PySem PySem.W PyProof.Rows
open PySem.Calls
set_option Elab.async false
set_option maxRecDepth 100000
set_option maxHeartbeats 4000000
set_option linter.unusedVariables false
set_option linter.unusedSimpArgs false
set_option rowWalk.seconds 0
namespace Mine

namespace hd
noncomputable def view_39 : Program := let_mvar% ?s0 := (_ : Stmt); let_mvar% ?s1 := (_ : Stmt); let_mvar% ?s2 := (_ : Stmt); let_mvar% ?s3 := (_ : Stmt); let_mvar% ?s4 := (_ : Stmt); let_mvar% ?s5 := (_ : Stmt); let_mvar% ?s6 := (_ : Stmt); let_mvar% ?s7 := (_ : Stmt); let_mvar% ?s8 := (_ : Stmt); let_mvar% ?s9 := (_ : Stmt); let_mvar% ?s10 := (_ : Stmt); let_mvar% ?s11 := (_ : Stmt); let_mvar% ?s12 := (_ : Stmt); let_mvar% ?s13 := (_ : Stmt); let_mvar% ?s14 := (_ : Stmt); let_mvar% ?s15 := (_ : Stmt); let_mvar% ?s16 := (_ : Stmt); let_mvar% ?s17 := (_ : Stmt); let_mvar% ?s18 := (_ : Stmt); let_mvar% ?s19 := (_ : Stmt); let_mvar% ?s20 := (_ : Stmt); let_mvar% ?s21 := (_ : Stmt); let_mvar% ?s22 := (_ : Stmt); let_mvar% ?s23 := (_ : Stmt); let_mvar% ?s24 := (_ : Stmt); let_mvar% ?s25 := (_ : Stmt); let_mvar% ?s26 := (_ : Stmt); let_mvar% ?s27 := (_ : Stmt); let_mvar% ?s28 := (_ : Stmt); let_mvar% ?h := (rfl : PySem.Challenge.pw_nz0281_01.main.body = [?s0, ?s1, ?s2, ?s3, ?s4, ?s5, ?s6, ?s7, ?s8, ?s9, ?s10, ?s11, ?s12, ?s13, ?s14, ?s15, ?s16, ?s17, ?s18, ?s19, ?s20, ?s21, ?s22, ?s23, ?s24, ?s25, ?s26, ?s27, ?s28]); { PySem.Challenge.rw_nz0281_01.row.toRowW.1 with main := { PySem.Challenge.rw_nz0281_01.row.toRowW.1.main with body := [?s0, ?s2, ?s3, ?s5, ?s6, ?s7, ?s8, ?s9, ?s10, ?s11, ?s12, ?s13, ?s14, ?s15, ?s16, ?s17, ?s18, ?s19, ?s20, ?s22, ?s23, ?s24, ?s25, ?s26, ?s27, ?s28] } }
noncomputable def o_43 : Params → Obj := fun P => ⟨(.type "tuple"), none, (.seq (List.toArray []) 0), (List.toArray [])⟩
noncomputable def o_44 : Params → Obj := fun P => ⟨.none, none, (.fields (List.toArray [])), (List.toArray [])⟩
noncomputable def o_45 : Params → Obj := fun P => ⟨(.type "code"), none, (.fields (List.toArray ((.str (.ofString "<module>") 182) :: (.str (.ofString "<module>") 183) :: (.str (.ofString "/claim/cut.py") 184) :: (.int 1 0) :: (.int 0 0) :: (.int 0 0) :: (.int 0 0) :: (.int 0 0) :: (.ref 11) :: (.bool false) :: (.int 181 0) :: (.ref 12) :: .none :: .none :: .none :: .none :: (.int 185 0) :: (.int 1 0) :: (.str (.ofString "/claim/cut.py") 186) :: []))), (List.toArray [])⟩
noncomputable def o_46 : Params → Obj := fun P => ⟨(.type "frame"), none, .plain, (List.toArray [(some (.ref 13)), (some (.ref 3)), (some (.ref 3)), none, (some (.str (.ofString "__main__") 164)), none, (some (.ref 0))])⟩
noncomputable def o_49 : Params → Obj := fun P => ⟨.none, none, (.dict (List.toArray [⟨(PySem.PyData.keyHash P (.ofString "type.__subclasses__.Exception.0")), (.str (.ofString "type.__subclasses__.Exception.0") 232), (.int 46 0)⟩, ⟨(PySem.PyData.keyHash P (.ofString "type.__subclasses__.Exception.n")), (.str (.ofString "type.__subclasses__.Exception.n") 233), (.int 1 0)⟩]) 2), (List.toArray [])⟩
noncomputable def o_50 : Params → Obj := fun P => ⟨(.type "dict"), none, (.dict (List.toArray [⟨(PySem.PyData.keyHash P (.ofString "__name__")), (.str (.ofString "__name__") 165), (.str (.ofString "postkeep.errors") 194)⟩, ⟨(PySem.PyData.keyHash P (.ofString "__doc__")), (.str (.ofString "__doc__") 166), .none⟩, ⟨(PySem.PyData.keyHash P (.ofString "__package__")), (.str (.ofString "__package__") 167), .none⟩, ⟨(PySem.PyData.keyHash P (.ofString "__loader__")), (.str (.ofString "__loader__") 168), (.builtin "__main__.__loader__#opaque")⟩, ⟨(PySem.PyData.keyHash P (.ofString "__spec__")), (.str (.ofString "__spec__") 169), .none⟩, ⟨(PySem.PyData.keyHash P (.ofString "__annotations__")), (.str (.ofString "__annotations__") 170), (.ref 6)⟩, ⟨(PySem.PyData.keyHash P (.ofString "__builtins__")), (.str (.ofString "__builtins__") 171), (.ref 4)⟩, ⟨(PySem.PyData.keyHash P (.ofString "__file__")), (.str (.ofString "__file__") 173), (.str (.ofString "/claim/cut.py") 172)⟩, ⟨(PySem.PyData.keyHash P (.ofString "__cached__")), (.str (.ofString "__cached__") 174), .none⟩, ⟨(PySem.PyData.keyHash P (.ofString "_wall")), (.str (.ofString "_wall") 193), (.ref 21)⟩, ⟨(PySem.PyData.keyHash P (.ofString "PostError")), (.str (.ofString "PostError") 235), (.ref 46)⟩]) 11), (List.toArray [])⟩
noncomputable def o_51 : Params → Obj := fun P => ⟨.none, none, (.fields (List.toArray [(.int 1 0), (.int 0 0), (.ref 20), (.int 5 0), (.int 0 0), (.ref 27)])), (List.toArray [])⟩
noncomputable def o_52 : Params → Obj := fun P => ⟨(.type "tuple"), none, (.seq (List.toArray []) 0), (List.toArray [])⟩
noncomputable def o_53 : Params → Obj := fun P => ⟨.none, none, (.fields (List.toArray [])), (List.toArray [])⟩
noncomputable def o_54 : Params → Obj := fun P => ⟨(.type "tuple"), none, (.seq (List.toArray [(.str (.ofString "k") 190)]) 0), (List.toArray [])⟩
noncomputable def o_55 : Params → Obj := fun P => ⟨(.type "tuple"), none, (.seq (List.toArray []) 0), (List.toArray [])⟩
noncomputable def o_56 : Params → Obj := let_mvar% ?a := (_ : Arguments); let_mvar% ?b := (_ : List Stmt); let_mvar% ?s := (_ : Scope); let_mvar% ?h := (rfl : PySem.Challenge.pw_nz0281_01.main.body[0]? = some (.FunctionDef _ ?a ?b _ _ _ ?s _ _ _)); fun P => ⟨.none, none, (.func ⟨(.ofString "_wall"), (.ofString "_wall"), ?a, .stmts ?b, ?s, 0, [], .none, .none, .none, .none, none, .none, .none, 0⟩), (List.toArray [])⟩
noncomputable def o_57 : Params → Obj := fun P => ⟨(.type "code"), none, (.fields (List.toArray ((.str (.ofString "_wall") 187) :: (.str (.ofString "_wall") 188) :: (.str (.ofString "/claim/cut.py") 189) :: (.int 1 0) :: (.int 1 0) :: (.int 0 0) :: (.int 0 0) :: (.int 3 0) :: (.ref 15) :: (.bool true) :: (.int 181 0) :: (.ref 16) :: .none :: (.ref 17) :: (.ref 18) :: (.ref 19) :: (.int 191 0) :: (.int 1 0) :: (.str (.ofString "/claim/cut.py") 192) :: []))), (List.toArray [])⟩
noncomputable def o_58 : Params → Obj := let_mvar% ?a := (_ : Arguments); let_mvar% ?b := (_ : List Stmt); let_mvar% ?s := (_ : Scope); let_mvar% ?h := (rfl : PySem.Challenge.pw_nz0281_01.main.body[0]? = some (.FunctionDef _ ?a ?b _ _ _ ?s _ _ _)); fun P => ⟨(.type "function"), none, (.func ⟨(.ofString "_wall"), (.ofString "_wall"), ?a, .stmts ?b, ?s, 3, [], .none, .none, .none, (.str (.ofString "__main__") 164), none, (.ref 20), .none, 0⟩), (List.toArray [])⟩
noncomputable def o_59 : Params → Obj := fun P => ⟨(.type "tuple"), none, (.seq (List.toArray [(.type "Exception")]) 0), (List.toArray [])⟩
noncomputable def o_60 : Params → Obj := fun P => ⟨(.type "builtin_function_or_method"), none, (.fields (List.toArray [(.builtin "type.__prepare__"), (.type "type")])), (List.toArray [])⟩
noncomputable def o_61 : Params → Obj := fun P => ⟨(.type "dict"), none, (.dict (List.toArray [⟨(PySem.PyData.keyHash P (.ofString "__module__")), (.str (.ofString "__module__") 203), (.str (.ofString "postkeep.errors") 194)⟩, ⟨(PySem.PyData.keyHash P (.ofString "__qualname__")), (.str (.ofString "__qualname__") 205), (.str (.ofString "PostError") 204)⟩, ⟨(PySem.PyData.keyHash P (.ofString "__firstlineno__")), (.str (.ofString "__firstlineno__") 207), (.int 5 206)⟩, ⟨(PySem.PyData.keyHash P (.ofString "__init__")), (.str (.ofString "__init__") 218), (.ref 36)⟩, ⟨(PySem.PyData.keyHash P (.ofString "told")), (.str (.ofString "told") 225), (.ref 43)⟩, ⟨(PySem.PyData.keyHash P (.ofString "__static_attributes__")), (.str (.ofString "__static_attributes__") 228), (.ref 44)⟩]) 6), (List.toArray [])⟩
noncomputable def o_62 : Params → Obj := fun P => ⟨(.type "tuple"), none, (.seq (List.toArray []) 0), (List.toArray [])⟩
noncomputable def o_63 : Params → Obj := fun P => ⟨.none, none, (.fields (List.toArray [(.int 7 0), (.int 4 0), (.ref 35), (.int 12 0), (.int 4 0), (.ref 42)])), (List.toArray [])⟩
noncomputable def o_64 : Params → Obj := fun P => ⟨(.type "code"), none, (.fields (List.toArray ((.str (.ofString "PostError") 198) :: (.str (.ofString "PostError") 199) :: (.str (.ofString "/claim/cut.py") 200) :: (.int 5 0) :: (.int 0 0) :: (.int 0 0) :: (.int 0 0) :: (.int 0 0) :: (.ref 25) :: (.bool false) :: (.int 181 0) :: (.ref 26) :: .none :: .none :: .none :: .none :: (.int 201 0) :: (.int 5 0) :: (.str (.ofString "/claim/cut.py") 202) :: []))), (List.toArray [])⟩
noncomputable def o_65 : Params → Obj := fun P => ⟨(.type "frame"), none, .plain, (List.toArray [(some (.ref 27)), (some (.ref 3)), (some (.ref 24)), none, (some (.str (.ofString "postkeep.errors") 194)), none, (some (.ref 0))])⟩
noncomputable def o_66 : Params → Obj := fun P => ⟨(.type "tuple"), none, (.seq (List.toArray [(.int (-1) 209)]) 0), (List.toArray [])⟩
noncomputable def o_67 : Params → Obj := fun P => ⟨(.type "tuple"), none, (.seq (List.toArray []) 0), (List.toArray [])⟩
noncomputable def o_68 : Params → Obj := fun P => ⟨.none, none, (.fields (List.toArray [])), (List.toArray [])⟩
noncomputable def o_69 : Params → Obj := fun P => ⟨(.type "tuple"), none, (.seq (List.toArray [(.str (.ofString "self") 213), (.str (.ofString "what") 214), (.str (.ofString "at") 215)]) 0), (List.toArray [])⟩
noncomputable def o_70 : Params → Obj := fun P => ⟨(.type "tuple"), none, (.seq (List.toArray []) 0), (List.toArray [])⟩
noncomputable def o_71 : Params → Obj := let_mvar% ?c := (_ : List Stmt); let_mvar% ?g := (rfl : PySem.Challenge.pw_nz0281_01.main.body[2]? = some (.ClassDef _ _ _ ?c _ _ _ _ _ _ _)); let_mvar% ?a := (_ : Arguments); let_mvar% ?b := (_ : List Stmt); let_mvar% ?s := (_ : Scope); let_mvar% ?h := (rfl : ?c[0]? = some (.FunctionDef _ ?a ?b _ _ _ ?s _ _ _)); fun P => ⟨.none, none, (.func ⟨(.ofString "__init__"), (.ofString "PostError.__init__"), ?a, .stmts ?b, ?s, 0, [], .none, .none, .none, .none, none, .none, .none, 0⟩), (List.toArray [])⟩
noncomputable def o_72 : Params → Obj := fun P => ⟨(.type "code"), none, (.fields (List.toArray ((.str (.ofString "__init__") 210) :: (.str (.ofString "PostError.__init__") 211) :: (.str (.ofString "/claim/cut.py") 212) :: (.int 7 0) :: (.int 3 0) :: (.int 0 0) :: (.int 0 0) :: (.int 3 0) :: (.ref 30) :: (.bool true) :: (.int 181 0) :: (.ref 31) :: .none :: (.ref 32) :: (.ref 33) :: (.ref 34) :: (.int 216 0) :: (.int 7 0) :: (.str (.ofString "/claim/cut.py") 217) :: []))), (List.toArray [])⟩
noncomputable def o_73 : Params → Obj := let_mvar% ?c := (_ : List Stmt); let_mvar% ?g := (rfl : PySem.Challenge.pw_nz0281_01.main.body[2]? = some (.ClassDef _ _ _ ?c _ _ _ _ _ _ _)); let_mvar% ?a := (_ : Arguments); let_mvar% ?b := (_ : List Stmt); let_mvar% ?s := (_ : Scope); let_mvar% ?h := (rfl : ?c[0]? = some (.FunctionDef _ ?a ?b _ _ _ ?s _ _ _)); fun P => ⟨(.type "function"), none, (.func ⟨(.ofString "__init__"), (.ofString "PostError.__init__"), ?a, .stmts ?b, ?s, 3, [], (.ref 29), .none, .none, (.str (.ofString "postkeep.errors") 194), none, (.ref 35), .none, 0⟩), (List.toArray [])⟩
noncomputable def o_74 : Params → Obj := fun P => ⟨(.type "tuple"), none, (.seq (List.toArray []) 0), (List.toArray [])⟩
noncomputable def o_75 : Params → Obj := fun P => ⟨.none, none, (.fields (List.toArray [])), (List.toArray [])⟩
noncomputable def o_76 : Params → Obj := fun P => ⟨(.type "tuple"), none, (.seq (List.toArray [(.str (.ofString "self") 222)]) 0), (List.toArray [])⟩
noncomputable def o_77 : Params → Obj := fun P => ⟨(.type "tuple"), none, (.seq (List.toArray []) 0), (List.toArray [])⟩
noncomputable def o_78 : Params → Obj := let_mvar% ?c := (_ : List Stmt); let_mvar% ?g := (rfl : PySem.Challenge.pw_nz0281_01.main.body[2]? = some (.ClassDef _ _ _ ?c _ _ _ _ _ _ _)); let_mvar% ?a := (_ : Arguments); let_mvar% ?b := (_ : List Stmt); let_mvar% ?s := (_ : Scope); let_mvar% ?h := (rfl : ?c[1]? = some (.FunctionDef _ ?a ?b _ _ _ ?s _ _ _)); fun P => ⟨.none, none, (.func ⟨(.ofString "told"), (.ofString "PostError.told"), ?a, .stmts ?b, ?s, 0, [], .none, .none, .none, .none, none, .none, .none, 0⟩), (List.toArray [])⟩
noncomputable def o_79 : Params → Obj := fun P => ⟨(.type "code"), none, (.fields (List.toArray ((.str (.ofString "told") 219) :: (.str (.ofString "PostError.told") 220) :: (.str (.ofString "/claim/cut.py") 221) :: (.int 12 0) :: (.int 1 0) :: (.int 0 0) :: (.int 0 0) :: (.int 3 0) :: (.ref 37) :: (.bool true) :: (.int 181 0) :: (.ref 38) :: .none :: (.ref 39) :: (.ref 40) :: (.ref 41) :: (.int 223 0) :: (.int 12 0) :: (.str (.ofString "/claim/cut.py") 224) :: []))), (List.toArray [])⟩
noncomputable def o_80 : Params → Obj := let_mvar% ?c := (_ : List Stmt); let_mvar% ?g := (rfl : PySem.Challenge.pw_nz0281_01.main.body[2]? = some (.ClassDef _ _ _ ?c _ _ _ _ _ _ _)); let_mvar% ?a := (_ : Arguments); let_mvar% ?b := (_ : List Stmt); let_mvar% ?s := (_ : Scope); let_mvar% ?h := (rfl : ?c[1]? = some (.FunctionDef _ ?a ?b _ _ _ ?s _ _ _)); fun P => ⟨(.type "function"), none, (.func ⟨(.ofString "told"), (.ofString "PostError.told"), ?a, .stmts ?b, ?s, 3, [], .none, .none, .none, (.str (.ofString "postkeep.errors") 194), none, (.ref 42), .none, 0⟩), (List.toArray [])⟩
noncomputable def o_81 : Params → Obj := fun P => ⟨(.type "tuple"), none, (.seq (List.toArray [(.str (.ofString "at") 226), (.str (.ofString "what") 227)]) 0), (List.toArray [])⟩
noncomputable def o_82 : Params → Obj := fun P => ⟨(.type "dict"), none, (.dict (List.toArray [⟨(PySem.PyData.keyHash P (.ofString "__module__")), (.str (.ofString "__module__") 203), (.str (.ofString "postkeep.errors") 194)⟩, ⟨(PySem.PyData.keyHash P (.ofString "__firstlineno__")), (.str (.ofString "__firstlineno__") 207), (.int 5 206)⟩, ⟨(PySem.PyData.keyHash P (.ofString "__init__")), (.str (.ofString "__init__") 218), (.ref 36)⟩, ⟨(PySem.PyData.keyHash P (.ofString "told")), (.str (.ofString "told") 225), (.ref 43)⟩, ⟨(PySem.PyData.keyHash P (.ofString "__static_attributes__")), (.str (.ofString "__static_attributes__") 228), (.ref 44)⟩, ⟨(PySem.PyData.keyHash P (.ofString "__weakref__")), (.str (.ofString "__weakref__") 230), (.ref 47)⟩, ⟨(PySem.PyData.keyHash P (.ofString "__doc__")), (.str (.ofString "__doc__") 231), .none⟩]) 3), (List.toArray [])⟩
noncomputable def o_83 : Params → Obj := fun P => ⟨(.type "type"), none, (.cls ⟨(.ofString "PostError"), [(.type "Exception")], [(.ref 46), (.type "Exception"), (.type "BaseException"), (.type "object")], 45, (.ofString "PostError"), true, [], [], false, none, false⟩), (List.toArray [(some (.ref 22)), none, (some (.str (.ofString "PostError") 196)), (some (.str (.ofString "PostError") 204)), (some (.builtin "Exception.__new__")), (some (.bool true))])⟩
noncomputable def o_84 : Params → Obj := fun P => ⟨(.type "getset_descriptor"), none, (.fields (List.toArray [(.str (.ofString "__weakref__") 229), (.ref 46), (.builtin "ExceptionGroup.__weakref__"), .none])), (List.toArray [])⟩
noncomputable def o_85 : Params → Obj := fun P => ⟨(.type "super"), none, (.fields (List.toArray [(.ref 46), (.ref 46), (.ref 46)])), (List.toArray [])⟩
noncomputable def o_86 : Params → Obj := fun P => ⟨(.type "builtin_function_or_method"), none, (.fields (List.toArray [(.builtin "object.__init_subclass__"), (.ref 46)])), (List.toArray [])⟩
noncomputable def o_87 : Params → Obj := fun P => ⟨(.type "dict"), none, (.dict (List.toArray (⟨(PySem.PyData.keyHash P (.ofString "__name__")), (.str (.ofString "__name__") 165), (.str (.ofString "postkeep.charsets") 252)⟩ :: ⟨(PySem.PyData.keyHash P (.ofString "__doc__")), (.str (.ofString "__doc__") 166), .none⟩ :: ⟨(PySem.PyData.keyHash P (.ofString "__package__")), (.str (.ofString "__package__") 167), .none⟩ :: ⟨(PySem.PyData.keyHash P (.ofString "__loader__")), (.str (.ofString "__loader__") 168), (.builtin "__main__.__loader__#opaque")⟩ :: ⟨(PySem.PyData.keyHash P (.ofString "__spec__")), (.str (.ofString "__spec__") 169), .none⟩ :: ⟨(PySem.PyData.keyHash P (.ofString "__annotations__")), (.str (.ofString "__annotations__") 170), (.ref 6)⟩ :: ⟨(PySem.PyData.keyHash P (.ofString "__builtins__")), (.str (.ofString "__builtins__") 171), (.ref 4)⟩ :: ⟨(PySem.PyData.keyHash P (.ofString "__file__")), (.str (.ofString "__file__") 173), (.str (.ofString "/claim/cut.py") 172)⟩ :: ⟨(PySem.PyData.keyHash P (.ofString "__cached__")), (.str (.ofString "__cached__") 174), .none⟩ :: ⟨(PySem.PyData.keyHash P (.ofString "_wall")), (.str (.ofString "_wall") 193), (.ref 21)⟩ :: ⟨(PySem.PyData.keyHash P (.ofString "PostError")), (.str (.ofString "PostError") 235), (.ref 46)⟩ :: ⟨(PySem.PyData.keyHash P (.ofString "MimeFault")), (.str (.ofString "MimeFault") 251), (.ref 59)⟩ :: ⟨(PySem.PyData.keyHash P (.ofString "ASCII")), (.str (.ofString "ASCII") 255), (.str (.ofString "us-ascii") 254)⟩ :: ⟨(PySem.PyData.keyHash P (.ofString "LATIN")), (.str (.ofString "LATIN") 257), (.str (.ofString "iso-8859-1") 256)⟩ :: ⟨(PySem.PyData.keyHash P (.ofString "UTF8")), (.str (.ofString "UTF8") 259), (.str (.ofString "utf-8") 258)⟩ :: ⟨(PySem.PyData.keyHash P (.ofString "CHARSETS")), (.str (.ofString "CHARSETS") 260), (.ref 62)⟩ :: ⟨(PySem.PyData.keyHash P (.ofString "UNKNOWN_SIGN")), (.str (.ofString "UNKNOWN_SIGN") 263), (.str (.ofString "�") 262)⟩ :: ⟨(PySem.PyData.keyHash P (.ofString "need_charset")), (.str (.ofString "need_charset") 270), (.ref 69)⟩ :: ⟨(PySem.PyData.keyHash P (.ofString "utf8_length")), (.str (.ofString "utf8_length") 276), (.ref 74)⟩ :: ⟨(PySem.PyData.keyHash P (.ofString "utf8_octets")), (.str (.ofString "utf8_octets") 287), (.ref 81)⟩ :: ⟨(PySem.PyData.keyHash P (.ofString "follower_span")), (.str (.ofString "follower_span") 294), (.ref 88)⟩ :: [])) 21), (List.toArray [])⟩
noncomputable def o_88 : Params → Obj := fun P => ⟨.none, none, (.fields (List.toArray ((.int 1 0) :: (.int 0 0) :: (.ref 20) :: (.int 5 0) :: (.int 0 0) :: (.ref 27) :: (.int 14 0) :: (.int 0 0) :: (.ref 55) :: (.int 22 0) :: (.int 0 0) :: (.ref 68) :: (.int 25 0) :: (.int 0 0) :: (.ref 73) :: (.int 29 0) :: (.int 0 0) :: (.ref 80) :: (.int 39 0) :: (.int 0 0) :: (.ref 87) :: []))), (List.toArray [])⟩
noncomputable def o_89 : Params → Obj := fun P => ⟨(.type "type"), none, (.cls ⟨(.ofString "PostError"), [(.type "Exception")], [(.ref 46), (.type "Exception"), (.type "BaseException"), (.type "object")], 45, (.ofString "PostError"), true, [], [(.ref 59)], false, none, false⟩), (List.toArray [(some (.ref 22)), none, (some (.str (.ofString "PostError") 196)), (some (.str (.ofString "PostError") 204)), (some (.builtin "Exception.__new__")), (some (.bool true))])⟩
noncomputable def o_90 : Params → Obj := fun P => ⟨(.type "tuple"), none, (.seq (List.toArray [(.ref 46)]) 0), (List.toArray [])⟩
noncomputable def o_91 : Params → Obj := fun P => ⟨(.type "builtin_function_or_method"), none, (.fields (List.toArray [(.builtin "type.__prepare__"), (.type "type")])), (List.toArray [])⟩
noncomputable def o_92 : Params → Obj := fun P => ⟨(.type "dict"), none, (.dict (List.toArray [⟨(PySem.PyData.keyHash P (.ofString "__module__")), (.str (.ofString "__module__") 243), (.str (.ofString "postkeep.errors") 194)⟩, ⟨(PySem.PyData.keyHash P (.ofString "__qualname__")), (.str (.ofString "__qualname__") 245), (.str (.ofString "MimeFault") 244)⟩, ⟨(PySem.PyData.keyHash P (.ofString "__firstlineno__")), (.str (.ofString "__firstlineno__") 247), (.int 14 246)⟩, ⟨(PySem.PyData.keyHash P (.ofString "__static_attributes__")), (.str (.ofString "__static_attributes__") 248), (.ref 57)⟩]) 4), (List.toArray [])⟩
noncomputable def o_93 : Params → Obj := fun P => ⟨(.type "tuple"), none, (.seq (List.toArray []) 0), (List.toArray [])⟩
noncomputable def o_94 : Params → Obj := fun P => ⟨.none, none, (.fields (List.toArray [])), (List.toArray [])⟩
noncomputable def o_95 : Params → Obj := fun P => ⟨(.type "code"), none, (.fields (List.toArray ((.str (.ofString "MimeFault") 238) :: (.str (.ofString "MimeFault") 239) :: (.str (.ofString "/claim/cut.py") 240) :: (.int 14 0) :: (.int 0 0) :: (.int 0 0) :: (.int 0 0) :: (.int 0 0) :: (.ref 53) :: (.bool false) :: (.int 181 0) :: (.ref 54) :: .none :: .none :: .none :: .none :: (.int 241 0) :: (.int 14 0) :: (.str (.ofString "/claim/cut.py") 242) :: []))), (List.toArray [])⟩
noncomputable def o_96 : Params → Obj := fun P => ⟨(.type "frame"), none, .plain, (List.toArray [(some (.ref 55)), (some (.ref 3)), (some (.ref 52)), none, (some (.str (.ofString "postkeep.errors") 194)), none, (some (.ref 0))])⟩
noncomputable def o_97 : Params → Obj := fun P => ⟨(.type "tuple"), none, (.seq (List.toArray []) 0), (List.toArray [])⟩
noncomputable def o_98 : Params → Obj := fun P => ⟨(.type "dict"), none, (.dict (List.toArray [⟨(PySem.PyData.keyHash P (.ofString "__module__")), (.str (.ofString "__module__") 243), (.str (.ofString "postkeep.errors") 194)⟩, ⟨(PySem.PyData.keyHash P (.ofString "__firstlineno__")), (.str (.ofString "__firstlineno__") 247), (.int 14 246)⟩, ⟨(PySem.PyData.keyHash P (.ofString "__static_attributes__")), (.str (.ofString "__static_attributes__") 248), (.ref 57)⟩, ⟨(PySem.PyData.keyHash P (.ofString "__doc__")), (.str (.ofString "__doc__") 249), .none⟩]) 2), (List.toArray [])⟩
noncomputable def o_99 : Params → Obj := fun P => ⟨(.type "type"), none, (.cls ⟨(.ofString "MimeFault"), [(.ref 46)], [(.ref 59), (.ref 46), (.type "Exception"), (.type "BaseException"), (.type "object")], 58, (.ofString "MimeFault"), true, [], [], false, none, false⟩), (List.toArray [(some (.ref 50)), none, (some (.str (.ofString "MimeFault") 236)), (some (.str (.ofString "MimeFault") 244)), (some (.builtin "Exception.__new__")), (some (.bool true))])⟩
noncomputable def o_100 : Params → Obj := fun P => ⟨(.type "super"), none, (.fields (List.toArray [(.ref 59), (.ref 59), (.ref 59)])), (List.toArray [])⟩
noncomputable def o_101 : Params → Obj := fun P => ⟨(.type "builtin_function_or_method"), none, (.fields (List.toArray [(.builtin "object.__init_subclass__"), (.ref 59)])), (List.toArray [])⟩
noncomputable def o_102 : Params → Obj := fun P => ⟨(.type "tuple"), none, (.seq (List.toArray [(.str (.ofString "us-ascii") 254), (.str (.ofString "iso-8859-1") 256), (.str (.ofString "utf-8") 258)]) 0), (List.toArray [])⟩
noncomputable def o_103 : Params → Obj := fun P => ⟨(.type "tuple"), none, (.seq (List.toArray []) 0), (List.toArray [])⟩
noncomputable def o_104 : Params → Obj := fun P => ⟨.none, none, (.fields (List.toArray [])), (List.toArray [])⟩
noncomputable def o_105 : Params → Obj := fun P => ⟨(.type "tuple"), none, (.seq (List.toArray [(.str (.ofString "charset") 267)]) 0), (List.toArray [])⟩
noncomputable def o_106 : Params → Obj := fun P => ⟨(.type "tuple"), none, (.seq (List.toArray []) 0), (List.toArray [])⟩
noncomputable def o_107 : Params → Obj := let_mvar% ?a := (_ : Arguments); let_mvar% ?b := (_ : List Stmt); let_mvar% ?s := (_ : Scope); let_mvar% ?h := (rfl : PySem.Challenge.pw_nz0281_01.main.body[10]? = some (.FunctionDef _ ?a ?b _ _ _ ?s _ _ _)); fun P => ⟨.none, none, (.func ⟨(.ofString "need_charset"), (.ofString "need_charset"), ?a, .stmts ?b, ?s, 0, [], .none, .none, .none, .none, none, .none, .none, 0⟩), (List.toArray [])⟩
noncomputable def o_108 : Params → Obj := fun P => ⟨(.type "code"), none, (.fields (List.toArray ((.str (.ofString "need_charset") 264) :: (.str (.ofString "need_charset") 265) :: (.str (.ofString "/claim/cut.py") 266) :: (.int 22 0) :: (.int 1 0) :: (.int 0 0) :: (.int 0 0) :: (.int 3 0) :: (.ref 63) :: (.bool true) :: (.int 181 0) :: (.ref 64) :: .none :: (.ref 65) :: (.ref 66) :: (.ref 67) :: (.int 268 0) :: (.int 22 0) :: (.str (.ofString "/claim/cut.py") 269) :: []))), (List.toArray [])⟩
noncomputable def o_109 : Params → Obj := let_mvar% ?a := (_ : Arguments); let_mvar% ?b := (_ : List Stmt); let_mvar% ?s := (_ : Scope); let_mvar% ?h := (rfl : PySem.Challenge.pw_nz0281_01.main.body[10]? = some (.FunctionDef _ ?a ?b _ _ _ ?s _ _ _)); fun P => ⟨(.type "function"), none, (.func ⟨(.ofString "need_charset"), (.ofString "need_charset"), ?a, .stmts ?b, ?s, 3, [], .none, .none, .none, (.str (.ofString "postkeep.charsets") 252), none, (.ref 68), .none, 0⟩), (List.toArray [])⟩
noncomputable def o_110 : Params → Obj := fun P => ⟨(.type "tuple"), none, (.seq (List.toArray []) 0), (List.toArray [])⟩
noncomputable def o_111 : Params → Obj := fun P => ⟨.none, none, (.fields (List.toArray [])), (List.toArray [])⟩
noncomputable def o_112 : Params → Obj := let_mvar% ?a := (_ : Arguments); let_mvar% ?b := (_ : List Stmt); let_mvar% ?s := (_ : Scope); let_mvar% ?h := (rfl : PySem.Challenge.pw_nz0281_01.main.body[11]? = some (.FunctionDef _ ?a ?b _ _ _ ?s _ _ _)); fun P => ⟨.none, none, (.func ⟨(.ofString "utf8_length"), (.ofString "utf8_length"), ?a, .stmts ?b, ?s, 0, [], .none, .none, .none, .none, none, .none, .none, 0⟩), (List.toArray [])⟩
noncomputable def o_113 : Params → Obj := fun P => ⟨(.type "code"), none, (.fields (List.toArray ((.str (.ofString "utf8_length") 271) :: (.str (.ofString "utf8_length") 272) :: (.str (.ofString "/claim/cut.py") 273) :: (.int 25 0) :: (.int 1 0) :: (.int 0 0) :: (.int 0 0) :: (.int 3 0) :: (.ref 70) :: (.bool true) :: (.int 181 0) :: (.ref 71) :: .none :: .none :: .none :: (.ref 72) :: (.int 274 0) :: (.int 25 0) :: (.str (.ofString "/claim/cut.py") 275) :: []))), (List.toArray [])⟩
noncomputable def o_114 : Params → Obj := let_mvar% ?a := (_ : Arguments); let_mvar% ?b := (_ : List Stmt); let_mvar% ?s := (_ : Scope); let_mvar% ?h := (rfl : PySem.Challenge.pw_nz0281_01.main.body[11]? = some (.FunctionDef _ ?a ?b _ _ _ ?s _ _ _)); fun P => ⟨(.type "function"), none, (.func ⟨(.ofString "utf8_length"), (.ofString "utf8_length"), ?a, .stmts ?b, ?s, 3, [], .none, .none, .none, (.str (.ofString "postkeep.charsets") 252), none, (.ref 73), .none, 0⟩), (List.toArray [])⟩
noncomputable def o_115 : Params → Obj := fun P => ⟨(.type "tuple"), none, (.seq (List.toArray []) 0), (List.toArray [])⟩
noncomputable def o_116 : Params → Obj := fun P => ⟨.none, none, (.fields (List.toArray [])), (List.toArray [])⟩
noncomputable def o_117 : Params → Obj := fun P => ⟨(.type "tuple"), none, (.seq (List.toArray [(.str (.ofString "code") 280), (.str (.ofString "length") 281), (.str (.ofString "found") 282), (.str (.ofString "left") 283), (.str (.ofString "place") 284)]) 0), (List.toArray [])⟩
noncomputable def o_118 : Params → Obj := fun P => ⟨(.type "tuple"), none, (.seq (List.toArray []) 0), (List.toArray [])⟩
noncomputable def o_119 : Params → Obj := let_mvar% ?a := (_ : Arguments); let_mvar% ?b := (_ : List Stmt); let_mvar% ?s := (_ : Scope); let_mvar% ?h := (rfl : PySem.Challenge.pw_nz0281_01.main.body[12]? = some (.FunctionDef _ ?a ?b _ _ _ ?s _ _ _)); fun P => ⟨.none, none, (.func ⟨(.ofString "utf8_octets"), (.ofString "utf8_octets"), ?a, .stmts ?b, ?s, 0, [], .none, .none, .none, .none, none, .none, .none, 0⟩), (List.toArray [])⟩
noncomputable def o_120 : Params → Obj := fun P => ⟨(.type "code"), none, (.fields (List.toArray ((.str (.ofString "utf8_octets") 277) :: (.str (.ofString "utf8_octets") 278) :: (.str (.ofString "/claim/cut.py") 279) :: (.int 29 0) :: (.int 1 0) :: (.int 0 0) :: (.int 0 0) :: (.int 3 0) :: (.ref 75) :: (.bool true) :: (.int 181 0) :: (.ref 76) :: .none :: (.ref 77) :: (.ref 78) :: (.ref 79) :: (.int 285 0) :: (.int 29 0) :: (.str (.ofString "/claim/cut.py") 286) :: []))), (List.toArray [])⟩
noncomputable def o_121 : Params → Obj := let_mvar% ?a := (_ : Arguments); let_mvar% ?b := (_ : List Stmt); let_mvar% ?s := (_ : Scope); let_mvar% ?h := (rfl : PySem.Challenge.pw_nz0281_01.main.body[12]? = some (.FunctionDef _ ?a ?b _ _ _ ?s _ _ _)); fun P => ⟨(.type "function"), none, (.func ⟨(.ofString "utf8_octets"), (.ofString "utf8_octets"), ?a, .stmts ?b, ?s, 3, [], .none, .none, .none, (.str (.ofString "postkeep.charsets") 252), none, (.ref 80), .none, 0⟩), (List.toArray [])⟩
noncomputable def o_122 : Params → Obj := fun P => ⟨(.type "tuple"), none, (.seq (List.toArray []) 0), (List.toArray [])⟩
noncomputable def o_123 : Params → Obj := fun P => ⟨.none, none, (.fields (List.toArray [])), (List.toArray [])⟩
noncomputable def o_124 : Params → Obj := fun P => ⟨(.type "tuple"), none, (.seq (List.toArray [(.str (.ofString "lead") 291)]) 0), (List.toArray [])⟩
noncomputable def o_125 : Params → Obj := fun P => ⟨(.type "tuple"), none, (.seq (List.toArray []) 0), (List.toArray [])⟩
noncomputable def o_126 : Params → Obj := let_mvar% ?a := (_ : Arguments); let_mvar% ?b := (_ : List Stmt); let_mvar% ?s := (_ : Scope); let_mvar% ?h := (rfl : PySem.Challenge.pw_nz0281_01.main.body[13]? = some (.FunctionDef _ ?a ?b _ _ _ ?s _ _ _)); fun P => ⟨.none, none, (.func ⟨(.ofString "follower_span"), (.ofString "follower_span"), ?a, .stmts ?b, ?s, 0, [], .none, .none, .none, .none, none, .none, .none, 0⟩), (List.toArray [])⟩
noncomputable def o_127 : Params → Obj := fun P => ⟨(.type "code"), none, (.fields (List.toArray ((.str (.ofString "follower_span") 288) :: (.str (.ofString "follower_span") 289) :: (.str (.ofString "/claim/cut.py") 290) :: (.int 39 0) :: (.int 1 0) :: (.int 0 0) :: (.int 0 0) :: (.int 3 0) :: (.ref 82) :: (.bool true) :: (.int 181 0) :: (.ref 83) :: .none :: (.ref 84) :: (.ref 85) :: (.ref 86) :: (.int 292 0) :: (.int 39 0) :: (.str (.ofString "/claim/cut.py") 293) :: []))), (List.toArray [])⟩
noncomputable def o_128 : Params → Obj := let_mvar% ?a := (_ : Arguments); let_mvar% ?b := (_ : List Stmt); let_mvar% ?s := (_ : Scope); let_mvar% ?h := (rfl : PySem.Challenge.pw_nz0281_01.main.body[13]? = some (.FunctionDef _ ?a ?b _ _ _ ?s _ _ _)); fun P => ⟨(.type "function"), none, (.func ⟨(.ofString "follower_span"), (.ofString "follower_span"), ?a, .stmts ?b, ?s, 3, [], .none, .none, .none, (.str (.ofString "postkeep.charsets") 252), none, (.ref 87), .none, 0⟩), (List.toArray [])⟩
noncomputable def o_129 : Params → Obj := fun P => ⟨(.type "dict"), none, (.dict (List.toArray (⟨(PySem.PyData.keyHash P (.ofString "__name__")), (.str (.ofString "__name__") 165), (.str (.ofString "law_nz0281_01") 367)⟩ :: ⟨(PySem.PyData.keyHash P (.ofString "__doc__")), (.str (.ofString "__doc__") 166), .none⟩ :: ⟨(PySem.PyData.keyHash P (.ofString "__package__")), (.str (.ofString "__package__") 167), .none⟩ :: ⟨(PySem.PyData.keyHash P (.ofString "__loader__")), (.str (.ofString "__loader__") 168), (.builtin "__main__.__loader__#opaque")⟩ :: ⟨(PySem.PyData.keyHash P (.ofString "__spec__")), (.str (.ofString "__spec__") 169), .none⟩ :: ⟨(PySem.PyData.keyHash P (.ofString "__annotations__")), (.str (.ofString "__annotations__") 170), (.ref 6)⟩ :: ⟨(PySem.PyData.keyHash P (.ofString "__builtins__")), (.str (.ofString "__builtins__") 171), (.ref 4)⟩ :: ⟨(PySem.PyData.keyHash P (.ofString "__file__")), (.str (.ofString "__file__") 173), (.str (.ofString "/claim/cut.py") 172)⟩ :: ⟨(PySem.PyData.keyHash P (.ofString "__cached__")), (.str (.ofString "__cached__") 174), .none⟩ :: ⟨(PySem.PyData.keyHash P (.ofString "_wall")), (.str (.ofString "_wall") 193), (.ref 21)⟩ :: ⟨(PySem.PyData.keyHash P (.ofString "PostError")), (.str (.ofString "PostError") 235), (.ref 46)⟩ :: ⟨(PySem.PyData.keyHash P (.ofString "MimeFault")), (.str (.ofString "MimeFault") 251), (.ref 59)⟩ :: ⟨(PySem.PyData.keyHash P (.ofString "ASCII")), (.str (.ofString "ASCII") 255), (.str (.ofString "us-ascii") 254)⟩ :: ⟨(PySem.PyData.keyHash P (.ofString "LATIN")), (.str (.ofString "LATIN") 257), (.str (.ofString "iso-8859-1") 256)⟩ :: ⟨(PySem.PyData.keyHash P (.ofString "UTF8")), (.str (.ofString "UTF8") 259), (.str (.ofString "utf-8") 258)⟩ :: ⟨(PySem.PyData.keyHash P (.ofString "CHARSETS")), (.str (.ofString "CHARSETS") 260), (.ref 62)⟩ :: ⟨(PySem.PyData.keyHash P (.ofString "UNKNOWN_SIGN")), (.str (.ofString "UNKNOWN_SIGN") 263), (.str (.ofString "�") 262)⟩ :: ⟨(PySem.PyData.keyHash P (.ofString "need_charset")), (.str (.ofString "need_charset") 270), (.ref 69)⟩ :: ⟨(PySem.PyData.keyHash P (.ofString "utf8_length")), (.str (.ofString "utf8_length") 276), (.ref 74)⟩ :: ⟨(PySem.PyData.keyHash P (.ofString "utf8_octets")), (.str (.ofString "utf8_octets") 287), (.ref 81)⟩ :: ⟨(PySem.PyData.keyHash P (.ofString "follower_span")), (.str (.ofString "follower_span") 294), (.ref 88)⟩ :: ⟨(PySem.PyData.keyHash P (.ofString "utf8_sign")), (.str (.ofString "utf8_sign") 308), (.ref 95)⟩ :: ⟨(PySem.PyData.keyHash P (.ofString "sign_at")), (.str (.ofString "sign_at") 317), (.ref 102)⟩ :: ⟨(PySem.PyData.keyHash P (.ofString "text_in")), (.str (.ofString "text_in") 329), (.ref 109)⟩ :: ⟨(PySem.PyData.keyHash P (.ofString "strict_text")), (.str (.ofString "strict_text") 341), (.ref 116)⟩ :: ⟨(PySem.PyData.keyHash P (.ofString "has_sign")), (.str (.ofString "has_sign") 349), (.ref 123)⟩ :: ⟨(PySem.PyData.keyHash P (.ofString "octets_in")), (.str (.ofString "octets_in") 360), (.ref 130)⟩ :: ⟨(PySem.PyData.keyHash P (.ofString "best_charset")), (.str (.ofString "best_charset") 366), (.ref 135)⟩ :: ⟨(PySem.PyData.keyHash P (.ofString "_law_pen")), (.str (.ofString "_law_pen") 374), (.ref 140)⟩ :: ⟨(PySem.PyData.keyHash P (.ofString "_law_draw")), (.str (.ofString "_law_draw") 387), (.ref 147)⟩ :: ⟨(PySem.PyData.keyHash P (.ofString "_law_pick")), (.str (.ofString "_law_pick") 395), (.ref 154)⟩ :: ⟨(PySem.PyData.keyHash P (.ofString "_law_refused")), (.str (.ofString "_law_refused") 404), (.ref 161)⟩ :: ⟨(PySem.PyData.keyHash P (.ofString "_law_size")), (.str (.ofString "_law_size") 411), (.ref 168)⟩ :: [])) 33), (List.toArray [])⟩
noncomputable def o_130 : Params → Obj := fun P => ⟨.none, none, (.fields (List.toArray ((.int 1 0) :: (.int 0 0) :: (.ref 20) :: (.int 5 0) :: (.int 0 0) :: (.ref 27) :: (.int 14 0) :: (.int 0 0) :: (.ref 55) :: (.int 22 0) :: (.int 0 0) :: (.ref 68) :: (.int 25 0) :: (.int 0 0) :: (.ref 73) :: (.int 29 0) :: (.int 0 0) :: (.ref 80) :: (.int 39 0) :: (.int 0 0) :: (.ref 87) :: (.int 47 0) :: (.int 0 0) :: (.ref 94) :: (.int 61 0) :: (.int 0 0) :: (.ref 101) :: (.int 67 0) :: (.int 0 0) :: (.ref 108) :: (.int 76 0) :: (.int 0 0) :: (.ref 115) :: (.int 87 0) :: (.int 0 0) :: (.ref 122) :: (.int 91 0) :: (.int 0 0) :: (.ref 129) :: (.int 103 0) :: (.int 0 0) :: (.ref 134) :: (.int 109 0) :: (.int 0 0) :: (.ref 139) :: (.int 111 0) :: (.int 0 0) :: (.ref 146) :: (.int 128 0) :: (.int 0 0) :: (.ref 153) :: (.int 130 0) :: (.int 0 0) :: (.ref 160) :: (.int 136 0) :: (.int 0 0) :: (.ref 167) :: []))), (List.toArray [])⟩
noncomputable def o_131 : Params → Obj := fun P => ⟨(.type "tuple"), none, (.seq (List.toArray []) 0), (List.toArray [])⟩
noncomputable def o_132 : Params → Obj := fun P => ⟨.none, none, (.fields (List.toArray [])), (List.toArray [])⟩
noncomputable def o_133 : Params → Obj := fun P => ⟨(.type "tuple"), none, (.seq (List.toArray [(.str (.ofString "octets") 298), (.str (.ofString "at") 299), (.str (.ofString "lead") 300), (.str (.ofString "least") 301), (.str (.ofString "most") 302), (.str (.ofString "count") 303), (.str (.ofString "code") 304), (.str (.ofString "place") 305)]) 0), (List.toArray [])⟩
noncomputable def o_134 : Params → Obj := fun P => ⟨(.type "tuple"), none, (.seq (List.toArray []) 0), (List.toArray [])⟩
noncomputable def o_135 : Params → Obj := let_mvar% ?a := (_ : Arguments); let_mvar% ?b := (_ : List Stmt); let_mvar% ?s := (_ : Scope); let_mvar% ?h := (rfl : PySem.Challenge.pw_nz0281_01.main.body[14]? = some (.FunctionDef _ ?a ?b _ _ _ ?s _ _ _)); fun P => ⟨.none, none, (.func ⟨(.ofString "utf8_sign"), (.ofString "utf8_sign"), ?a, .stmts ?b, ?s, 0, [], .none, .none, .none, .none, none, .none, .none, 0⟩), (List.toArray [])⟩
noncomputable def o_136 : Params → Obj := fun P => ⟨(.type "code"), none, (.fields (List.toArray ((.str (.ofString "utf8_sign") 295) :: (.str (.ofString "utf8_sign") 296) :: (.str (.ofString "/claim/cut.py") 297) :: (.int 47 0) :: (.int 2 0) :: (.int 0 0) :: (.int 0 0) :: (.int 3 0) :: (.ref 89) :: (.bool true) :: (.int 181 0) :: (.ref 90) :: .none :: (.ref 91) :: (.ref 92) :: (.ref 93) :: (.int 306 0) :: (.int 47 0) :: (.str (.ofString "/claim/cut.py") 307) :: []))), (List.toArray [])⟩
noncomputable def o_137 : Params → Obj := let_mvar% ?a := (_ : Arguments); let_mvar% ?b := (_ : List Stmt); let_mvar% ?s := (_ : Scope); let_mvar% ?h := (rfl : PySem.Challenge.pw_nz0281_01.main.body[14]? = some (.FunctionDef _ ?a ?b _ _ _ ?s _ _ _)); fun P => ⟨(.type "function"), none, (.func ⟨(.ofString "utf8_sign"), (.ofString "utf8_sign"), ?a, .stmts ?b, ?s, 3, [], .none, .none, .none, (.str (.ofString "postkeep.charsets") 252), none, (.ref 94), .none, 0⟩), (List.toArray [])⟩
noncomputable def o_138 : Params → Obj := fun P => ⟨(.type "tuple"), none, (.seq (List.toArray []) 0), (List.toArray [])⟩
noncomputable def o_139 : Params → Obj := fun P => ⟨.none, none, (.fields (List.toArray [])), (List.toArray [])⟩
noncomputable def o_140 : Params → Obj := fun P => ⟨(.type "tuple"), none, (.seq (List.toArray [(.str (.ofString "charset") 312), (.str (.ofString "octets") 313), (.str (.ofString "at") 314)]) 0), (List.toArray [])⟩
noncomputable def o_141 : Params → Obj := fun P => ⟨(.type "tuple"), none, (.seq (List.toArray []) 0), (List.toArray [])⟩
noncomputable def o_142 : Params → Obj := let_mvar% ?a := (_ : Arguments); let_mvar% ?b := (_ : List Stmt); let_mvar% ?s := (_ : Scope); let_mvar% ?h := (rfl : PySem.Challenge.pw_nz0281_01.main.body[15]? = some (.FunctionDef _ ?a ?b _ _ _ ?s _ _ _)); fun P => ⟨.none, none, (.func ⟨(.ofString "sign_at"), (.ofString "sign_at"), ?a, .stmts ?b, ?s, 0, [], .none, .none, .none, .none, none, .none, .none, 0⟩), (List.toArray [])⟩
noncomputable def o_143 : Params → Obj := fun P => ⟨(.type "code"), none, (.fields (List.toArray ((.str (.ofString "sign_at") 309) :: (.str (.ofString "sign_at") 310) :: (.str (.ofString "/claim/cut.py") 311) :: (.int 61 0) :: (.int 3 0) :: (.int 0 0) :: (.int 0 0) :: (.int 3 0) :: (.ref 96) :: (.bool true) :: (.int 181 0) :: (.ref 97) :: .none :: (.ref 98) :: (.ref 99) :: (.ref 100) :: (.int 315 0) :: (.int 61 0) :: (.str (.ofString "/claim/cut.py") 316) :: []))), (List.toArray [])⟩
noncomputable def o_144 : Params → Obj := let_mvar% ?a := (_ : Arguments); let_mvar% ?b := (_ : List Stmt); let_mvar% ?s := (_ : Scope); let_mvar% ?h := (rfl : PySem.Challenge.pw_nz0281_01.main.body[15]? = some (.FunctionDef _ ?a ?b _ _ _ ?s _ _ _)); fun P => ⟨(.type "function"), none, (.func ⟨(.ofString "sign_at"), (.ofString "sign_at"), ?a, .stmts ?b, ?s, 3, [], .none, .none, .none, (.str (.ofString "postkeep.charsets") 252), none, (.ref 101), .none, 0⟩), (List.toArray [])⟩
noncomputable def o_145 : Params → Obj := fun P => ⟨(.type "tuple"), none, (.seq (List.toArray []) 0), (List.toArray [])⟩
noncomputable def o_146 : Params → Obj := fun P => ⟨.none, none, (.fields (List.toArray [])), (List.toArray [])⟩
noncomputable def o_147 : Params → Obj := fun P => ⟨(.type "tuple"), none, (.seq (List.toArray [(.str (.ofString "charset") 321), (.str (.ofString "octets") 322), (.str (.ofString "signs") 323), (.str (.ofString "at") 324), (.str (.ofString "code") 325), (.str (.ofString "length") 326)]) 0), (List.toArray [])⟩
noncomputable def o_148 : Params → Obj := fun P => ⟨(.type "tuple"), none, (.seq (List.toArray []) 0), (List.toArray [])⟩
noncomputable def o_149 : Params → Obj := let_mvar% ?a := (_ : Arguments); let_mvar% ?b := (_ : List Stmt); let_mvar% ?s := (_ : Scope); let_mvar% ?h := (rfl : PySem.Challenge.pw_nz0281_01.main.body[16]? = some (.FunctionDef _ ?a ?b _ _ _ ?s _ _ _)); fun P => ⟨.none, none, (.func ⟨(.ofString "text_in"), (.ofString "text_in"), ?a, .stmts ?b, ?s, 0, [], .none, .none, .none, .none, none, .none, .none, 0⟩), (List.toArray [])⟩
noncomputable def o_150 : Params → Obj := fun P => ⟨(.type "code"), none, (.fields (List.toArray ((.str (.ofString "text_in") 318) :: (.str (.ofString "text_in") 319) :: (.str (.ofString "/claim/cut.py") 320) :: (.int 67 0) :: (.int 2 0) :: (.int 0 0) :: (.int 0 0) :: (.int 3 0) :: (.ref 103) :: (.bool true) :: (.int 181 0) :: (.ref 104) :: .none :: (.ref 105) :: (.ref 106) :: (.ref 107) :: (.int 327 0) :: (.int 67 0) :: (.str (.ofString "/claim/cut.py") 328) :: []))), (List.toArray [])⟩
noncomputable def o_151 : Params → Obj := let_mvar% ?a := (_ : Arguments); let_mvar% ?b := (_ : List Stmt); let_mvar% ?s := (_ : Scope); let_mvar% ?h := (rfl : PySem.Challenge.pw_nz0281_01.main.body[16]? = some (.FunctionDef _ ?a ?b _ _ _ ?s _ _ _)); fun P => ⟨(.type "function"), none, (.func ⟨(.ofString "text_in"), (.ofString "text_in"), ?a, .stmts ?b, ?s, 3, [], .none, .none, .none, (.str (.ofString "postkeep.charsets") 252), none, (.ref 108), .none, 0⟩), (List.toArray [])⟩
noncomputable def o_152 : Params → Obj := fun P => ⟨(.type "tuple"), none, (.seq (List.toArray []) 0), (List.toArray [])⟩
noncomputable def o_153 : Params → Obj := fun P => ⟨.none, none, (.fields (List.toArray [])), (List.toArray [])⟩
noncomputable def o_154 : Params → Obj := fun P => ⟨(.type "tuple"), none, (.seq (List.toArray [(.str (.ofString "charset") 333), (.str (.ofString "octets") 334), (.str (.ofString "signs") 335), (.str (.ofString "at") 336), (.str (.ofString "code") 337), (.str (.ofString "length") 338)]) 0), (List.toArray [])⟩
noncomputable def o_155 : Params → Obj := fun P => ⟨(.type "tuple"), none, (.seq (List.toArray []) 0), (List.toArray [])⟩
noncomputable def o_156 : Params → Obj := let_mvar% ?a := (_ : Arguments); let_mvar% ?b := (_ : List Stmt); let_mvar% ?s := (_ : Scope); let_mvar% ?h := (rfl : PySem.Challenge.pw_nz0281_01.main.body[17]? = some (.FunctionDef _ ?a ?b _ _ _ ?s _ _ _)); fun P => ⟨.none, none, (.func ⟨(.ofString "strict_text"), (.ofString "strict_text"), ?a, .stmts ?b, ?s, 0, [], .none, .none, .none, .none, none, .none, .none, 0⟩), (List.toArray [])⟩
noncomputable def o_157 : Params → Obj := fun P => ⟨(.type "code"), none, (.fields (List.toArray ((.str (.ofString "strict_text") 330) :: (.str (.ofString "strict_text") 331) :: (.str (.ofString "/claim/cut.py") 332) :: (.int 76 0) :: (.int 2 0) :: (.int 0 0) :: (.int 0 0) :: (.int 3 0) :: (.ref 110) :: (.bool true) :: (.int 181 0) :: (.ref 111) :: .none :: (.ref 112) :: (.ref 113) :: (.ref 114) :: (.int 339 0) :: (.int 76 0) :: (.str (.ofString "/claim/cut.py") 340) :: []))), (List.toArray [])⟩
noncomputable def o_158 : Params → Obj := let_mvar% ?a := (_ : Arguments); let_mvar% ?b := (_ : List Stmt); let_mvar% ?s := (_ : Scope); let_mvar% ?h := (rfl : PySem.Challenge.pw_nz0281_01.main.body[17]? = some (.FunctionDef _ ?a ?b _ _ _ ?s _ _ _)); fun P => ⟨(.type "function"), none, (.func ⟨(.ofString "strict_text"), (.ofString "strict_text"), ?a, .stmts ?b, ?s, 3, [], .none, .none, .none, (.str (.ofString "postkeep.charsets") 252), none, (.ref 115), .none, 0⟩), (List.toArray [])⟩
noncomputable def o_159 : Params → Obj := fun P => ⟨(.type "tuple"), none, (.seq (List.toArray []) 0), (List.toArray [])⟩
noncomputable def o_160 : Params → Obj := fun P => ⟨.none, none, (.fields (List.toArray [])), (List.toArray [])⟩
noncomputable def o_161 : Params → Obj := fun P => ⟨(.type "tuple"), none, (.seq (List.toArray [(.str (.ofString "charset") 345), (.str (.ofString "code") 346)]) 0), (List.toArray [])⟩
noncomputable def o_162 : Params → Obj := fun P => ⟨(.type "tuple"), none, (.seq (List.toArray []) 0), (List.toArray [])⟩
noncomputable def o_163 : Params → Obj := let_mvar% ?a := (_ : Arguments); let_mvar% ?b := (_ : List Stmt); let_mvar% ?s := (_ : Scope); let_mvar% ?h := (rfl : PySem.Challenge.pw_nz0281_01.main.body[18]? = some (.FunctionDef _ ?a ?b _ _ _ ?s _ _ _)); fun P => ⟨.none, none, (.func ⟨(.ofString "has_sign"), (.ofString "has_sign"), ?a, .stmts ?b, ?s, 0, [], .none, .none, .none, .none, none, .none, .none, 0⟩), (List.toArray [])⟩
noncomputable def o_164 : Params → Obj := fun P => ⟨(.type "code"), none, (.fields (List.toArray ((.str (.ofString "has_sign") 342) :: (.str (.ofString "has_sign") 343) :: (.str (.ofString "/claim/cut.py") 344) :: (.int 87 0) :: (.int 2 0) :: (.int 0 0) :: (.int 0 0) :: (.int 3 0) :: (.ref 117) :: (.bool true) :: (.int 181 0) :: (.ref 118) :: .none :: (.ref 119) :: (.ref 120) :: (.ref 121) :: (.int 347 0) :: (.int 87 0) :: (.str (.ofString "/claim/cut.py") 348) :: []))), (List.toArray [])⟩
noncomputable def o_165 : Params → Obj := let_mvar% ?a := (_ : Arguments); let_mvar% ?b := (_ : List Stmt); let_mvar% ?s := (_ : Scope); let_mvar% ?h := (rfl : PySem.Challenge.pw_nz0281_01.main.body[18]? = some (.FunctionDef _ ?a ?b _ _ _ ?s _ _ _)); fun P => ⟨(.type "function"), none, (.func ⟨(.ofString "has_sign"), (.ofString "has_sign"), ?a, .stmts ?b, ?s, 3, [], .none, .none, .none, (.str (.ofString "postkeep.charsets") 252), none, (.ref 122), .none, 0⟩), (List.toArray [])⟩
noncomputable def o_166 : Params → Obj := fun P => ⟨(.type "tuple"), none, (.seq (List.toArray []) 0), (List.toArray [])⟩
noncomputable def o_167 : Params → Obj := fun P => ⟨.none, none, (.fields (List.toArray [])), (List.toArray [])⟩
noncomputable def o_168 : Params → Obj := fun P => ⟨(.type "tuple"), none, (.seq (List.toArray [(.str (.ofString "charset") 353), (.str (.ofString "text") 354), (.str (.ofString "row") 355), (.str (.ofString "at") 356), (.str (.ofString "code") 357)]) 0), (List.toArray [])⟩
noncomputable def o_169 : Params → Obj := fun P => ⟨(.type "tuple"), none, (.seq (List.toArray []) 0), (List.toArray [])⟩
noncomputable def o_170 : Params → Obj := let_mvar% ?a := (_ : Arguments); let_mvar% ?b := (_ : List Stmt); let_mvar% ?s := (_ : Scope); let_mvar% ?h := (rfl : PySem.Challenge.pw_nz0281_01.main.body[19]? = some (.FunctionDef _ ?a ?b _ _ _ ?s _ _ _)); fun P => ⟨.none, none, (.func ⟨(.ofString "octets_in"), (.ofString "octets_in"), ?a, .stmts ?b, ?s, 0, [], .none, .none, .none, .none, none, .none, .none, 0⟩), (List.toArray [])⟩
noncomputable def o_171 : Params → Obj := fun P => ⟨(.type "code"), none, (.fields (List.toArray ((.str (.ofString "octets_in") 350) :: (.str (.ofString "octets_in") 351) :: (.str (.ofString "/claim/cut.py") 352) :: (.int 91 0) :: (.int 2 0) :: (.int 0 0) :: (.int 0 0) :: (.int 3 0) :: (.ref 124) :: (.bool true) :: (.int 181 0) :: (.ref 125) :: .none :: (.ref 126) :: (.ref 127) :: (.ref 128) :: (.int 358 0) :: (.int 91 0) :: (.str (.ofString "/claim/cut.py") 359) :: []))), (List.toArray [])⟩
noncomputable def o_172 : Params → Obj := let_mvar% ?a := (_ : Arguments); let_mvar% ?b := (_ : List Stmt); let_mvar% ?s := (_ : Scope); let_mvar% ?h := (rfl : PySem.Challenge.pw_nz0281_01.main.body[19]? = some (.FunctionDef _ ?a ?b _ _ _ ?s _ _ _)); fun P => ⟨(.type "function"), none, (.func ⟨(.ofString "octets_in"), (.ofString "octets_in"), ?a, .stmts ?b, ?s, 3, [], .none, .none, .none, (.str (.ofString "postkeep.charsets") 252), none, (.ref 129), .none, 0⟩), (List.toArray [])⟩
noncomputable def o_173 : Params → Obj := fun P => ⟨(.type "tuple"), none, (.seq (List.toArray []) 0), (List.toArray [])⟩
noncomputable def o_174 : Params → Obj := fun P => ⟨.none, none, (.fields (List.toArray [])), (List.toArray [])⟩
noncomputable def o_175 : Params → Obj := let_mvar% ?a := (_ : Arguments); let_mvar% ?b := (_ : List Stmt); let_mvar% ?s := (_ : Scope); let_mvar% ?h := (rfl : PySem.Challenge.pw_nz0281_01.main.body[20]? = some (.FunctionDef _ ?a ?b _ _ _ ?s _ _ _)); fun P => ⟨.none, none, (.func ⟨(.ofString "best_charset"), (.ofString "best_charset"), ?a, .stmts ?b, ?s, 0, [], .none, .none, .none, .none, none, .none, .none, 0⟩), (List.toArray [])⟩
noncomputable def o_176 : Params → Obj := fun P => ⟨(.type "code"), none, (.fields (List.toArray ((.str (.ofString "best_charset") 361) :: (.str (.ofString "best_charset") 362) :: (.str (.ofString "/claim/cut.py") 363) :: (.int 103 0) :: (.int 1 0) :: (.int 0 0) :: (.int 0 0) :: (.int 3 0) :: (.ref 131) :: (.bool true) :: (.int 181 0) :: (.ref 132) :: .none :: .none :: .none :: (.ref 133) :: (.int 364 0) :: (.int 103 0) :: (.str (.ofString "/claim/cut.py") 365) :: []))), (List.toArray [])⟩
noncomputable def o_177 : Params → Obj := let_mvar% ?a := (_ : Arguments); let_mvar% ?b := (_ : List Stmt); let_mvar% ?s := (_ : Scope); let_mvar% ?h := (rfl : PySem.Challenge.pw_nz0281_01.main.body[20]? = some (.FunctionDef _ ?a ?b _ _ _ ?s _ _ _)); fun P => ⟨(.type "function"), none, (.func ⟨(.ofString "best_charset"), (.ofString "best_charset"), ?a, .stmts ?b, ?s, 3, [], .none, .none, .none, (.str (.ofString "postkeep.charsets") 252), none, (.ref 134), .none, 0⟩), (List.toArray [])⟩
noncomputable def o_178 : Params → Obj := fun P => ⟨(.type "tuple"), none, (.seq (List.toArray []) 0), (List.toArray [])⟩
noncomputable def o_179 : Params → Obj := fun P => ⟨.none, none, (.fields (List.toArray [])), (List.toArray [])⟩
noncomputable def o_180 : Params → Obj := let_mvar% ?a := (_ : Arguments); let_mvar% ?b := (_ : List Stmt); let_mvar% ?s := (_ : Scope); let_mvar% ?h := (rfl : PySem.Challenge.pw_nz0281_01.main.body[22]? = some (.FunctionDef _ ?a ?b _ _ _ ?s _ _ _)); fun P => ⟨.none, none, (.func ⟨(.ofString "_law_pen"), (.ofString "_law_pen"), ?a, .stmts ?b, ?s, 0, [], .none, .none, .none, .none, none, .none, .none, 0⟩), (List.toArray [])⟩
noncomputable def o_181 : Params → Obj := fun P => ⟨(.type "code"), none, (.fields (List.toArray ((.str (.ofString "_law_pen") 369) :: (.str (.ofString "_law_pen") 370) :: (.str (.ofString "/claim/cut.py") 371) :: (.int 109 0) :: (.int 1 0) :: (.int 0 0) :: (.int 0 0) :: (.int 3 0) :: (.ref 136) :: (.bool true) :: (.int 181 0) :: (.ref 137) :: .none :: .none :: .none :: (.ref 138) :: (.int 372 0) :: (.int 109 0) :: (.str (.ofString "/claim/cut.py") 373) :: []))), (List.toArray [])⟩
noncomputable def o_182 : Params → Obj := let_mvar% ?a := (_ : Arguments); let_mvar% ?b := (_ : List Stmt); let_mvar% ?s := (_ : Scope); let_mvar% ?h := (rfl : PySem.Challenge.pw_nz0281_01.main.body[22]? = some (.FunctionDef _ ?a ?b _ _ _ ?s _ _ _)); fun P => ⟨(.type "function"), none, (.func ⟨(.ofString "_law_pen"), (.ofString "_law_pen"), ?a, .stmts ?b, ?s, 3, [], .none, .none, .none, (.str (.ofString "law_nz0281_01") 367), none, (.ref 139), .none, 0⟩), (List.toArray [])⟩
noncomputable def o_183 : Params → Obj := fun P => ⟨(.type "tuple"), none, (.seq (List.toArray []) 0), (List.toArray [])⟩
noncomputable def o_184 : Params → Obj := fun P => ⟨.none, none, (.fields (List.toArray [])), (List.toArray [])⟩
noncomputable def o_185 : Params → Obj := fun P => ⟨(.type "tuple"), none, (.seq (List.toArray [(.str (.ofString "pen") 378), (.str (.ofString "many") 379), (.str (.ofString "digit") 380), (.str (.ofString "spot") 381), (.str (.ofString "cell") 382), (.str (.ofString "great") 383), (.str (.ofString "stirred") 384)]) 0), (List.toArray [])⟩
noncomputable def o_186 : Params → Obj := fun P => ⟨(.type "tuple"), none, (.seq (List.toArray []) 0), (List.toArray [])⟩
noncomputable def o_187 : Params → Obj := let_mvar% ?a := (_ : Arguments); let_mvar% ?b := (_ : List Stmt); let_mvar% ?s := (_ : Scope); let_mvar% ?h := (rfl : PySem.Challenge.pw_nz0281_01.main.body[23]? = some (.FunctionDef _ ?a ?b _ _ _ ?s _ _ _)); fun P => ⟨.none, none, (.func ⟨(.ofString "_law_draw"), (.ofString "_law_draw"), ?a, .stmts ?b, ?s, 0, [], .none, .none, .none, .none, none, .none, .none, 0⟩), (List.toArray [])⟩
noncomputable def o_188 : Params → Obj := fun P => ⟨(.type "code"), none, (.fields (List.toArray ((.str (.ofString "_law_draw") 375) :: (.str (.ofString "_law_draw") 376) :: (.str (.ofString "/claim/cut.py") 377) :: (.int 111 0) :: (.int 2 0) :: (.int 0 0) :: (.int 0 0) :: (.int 3 0) :: (.ref 141) :: (.bool true) :: (.int 181 0) :: (.ref 142) :: .none :: (.ref 143) :: (.ref 144) :: (.ref 145) :: (.int 385 0) :: (.int 111 0) :: (.str (.ofString "/claim/cut.py") 386) :: []))), (List.toArray [])⟩
noncomputable def o_189 : Params → Obj := let_mvar% ?a := (_ : Arguments); let_mvar% ?b := (_ : List Stmt); let_mvar% ?s := (_ : Scope); let_mvar% ?h := (rfl : PySem.Challenge.pw_nz0281_01.main.body[23]? = some (.FunctionDef _ ?a ?b _ _ _ ?s _ _ _)); fun P => ⟨(.type "function"), none, (.func ⟨(.ofString "_law_draw"), (.ofString "_law_draw"), ?a, .stmts ?b, ?s, 3, [], .none, .none, .none, (.str (.ofString "law_nz0281_01") 367), none, (.ref 146), .none, 0⟩), (List.toArray [])⟩
noncomputable def o_190 : Params → Obj := fun P => ⟨(.type "tuple"), none, (.seq (List.toArray []) 0), (List.toArray [])⟩
noncomputable def o_191 : Params → Obj := fun P => ⟨.none, none, (.fields (List.toArray [])), (List.toArray [])⟩
noncomputable def o_192 : Params → Obj := fun P => ⟨(.type "tuple"), none, (.seq (List.toArray [(.str (.ofString "pen") 391), (.str (.ofString "some") 392)]) 0), (List.toArray [])⟩
noncomputable def o_193 : Params → Obj := fun P => ⟨(.type "tuple"), none, (.seq (List.toArray []) 0), (List.toArray [])⟩
noncomputable def o_194 : Params → Obj := let_mvar% ?a := (_ : Arguments); let_mvar% ?b := (_ : List Stmt); let_mvar% ?s := (_ : Scope); let_mvar% ?h := (rfl : PySem.Challenge.pw_nz0281_01.main.body[24]? = some (.FunctionDef _ ?a ?b _ _ _ ?s _ _ _)); fun P => ⟨.none, none, (.func ⟨(.ofString "_law_pick"), (.ofString "_law_pick"), ?a, .stmts ?b, ?s, 0, [], .none, .none, .none, .none, none, .none, .none, 0⟩), (List.toArray [])⟩
noncomputable def o_195 : Params → Obj := fun P => ⟨(.type "code"), none, (.fields (List.toArray ((.str (.ofString "_law_pick") 388) :: (.str (.ofString "_law_pick") 389) :: (.str (.ofString "/claim/cut.py") 390) :: (.int 128 0) :: (.int 2 0) :: (.int 0 0) :: (.int 0 0) :: (.int 3 0) :: (.ref 148) :: (.bool true) :: (.int 181 0) :: (.ref 149) :: .none :: (.ref 150) :: (.ref 151) :: (.ref 152) :: (.int 393 0) :: (.int 128 0) :: (.str (.ofString "/claim/cut.py") 394) :: []))), (List.toArray [])⟩
noncomputable def o_196 : Params → Obj := let_mvar% ?a := (_ : Arguments); let_mvar% ?b := (_ : List Stmt); let_mvar% ?s := (_ : Scope); let_mvar% ?h := (rfl : PySem.Challenge.pw_nz0281_01.main.body[24]? = some (.FunctionDef _ ?a ?b _ _ _ ?s _ _ _)); fun P => ⟨(.type "function"), none, (.func ⟨(.ofString "_law_pick"), (.ofString "_law_pick"), ?a, .stmts ?b, ?s, 3, [], .none, .none, .none, (.str (.ofString "law_nz0281_01") 367), none, (.ref 153), .none, 0⟩), (List.toArray [])⟩
noncomputable def o_197 : Params → Obj := fun P => ⟨(.type "tuple"), none, (.seq (List.toArray []) 0), (List.toArray [])⟩
noncomputable def o_198 : Params → Obj := fun P => ⟨.none, none, (.fields (List.toArray [])), (List.toArray [])⟩
noncomputable def o_199 : Params → Obj := fun P => ⟨(.type "tuple"), none, (.seq (List.toArray [(.str (.ofString "charset") 399), (.str (.ofString "data") 400), (.str (.ofString "fault") 401)]) 0), (List.toArray [])⟩
noncomputable def o_200 : Params → Obj := fun P => ⟨(.type "tuple"), none, (.seq (List.toArray []) 0), (List.toArray [])⟩
noncomputable def o_201 : Params → Obj := let_mvar% ?a := (_ : Arguments); let_mvar% ?b := (_ : List Stmt); let_mvar% ?s := (_ : Scope); let_mvar% ?h := (rfl : PySem.Challenge.pw_nz0281_01.main.body[25]? = some (.FunctionDef _ ?a ?b _ _ _ ?s _ _ _)); fun P => ⟨.none, none, (.func ⟨(.ofString "_law_refused"), (.ofString "_law_refused"), ?a, .stmts ?b, ?s, 0, [], .none, .none, .none, .none, none, .none, .none, 0⟩), (List.toArray [])⟩
noncomputable def o_202 : Params → Obj := fun P => ⟨(.type "code"), none, (.fields (List.toArray ((.str (.ofString "_law_refused") 396) :: (.str (.ofString "_law_refused") 397) :: (.str (.ofString "/claim/cut.py") 398) :: (.int 130 0) :: (.int 2 0) :: (.int 0 0) :: (.int 0 0) :: (.int 3 0) :: (.ref 155) :: (.bool true) :: (.int 181 0) :: (.ref 156) :: .none :: (.ref 157) :: (.ref 158) :: (.ref 159) :: (.int 402 0) :: (.int 130 0) :: (.str (.ofString "/claim/cut.py") 403) :: []))), (List.toArray [])⟩
noncomputable def o_203 : Params → Obj := let_mvar% ?a := (_ : Arguments); let_mvar% ?b := (_ : List Stmt); let_mvar% ?s := (_ : Scope); let_mvar% ?h := (rfl : PySem.Challenge.pw_nz0281_01.main.body[25]? = some (.FunctionDef _ ?a ?b _ _ _ ?s _ _ _)); fun P => ⟨(.type "function"), none, (.func ⟨(.ofString "_law_refused"), (.ofString "_law_refused"), ?a, .stmts ?b, ?s, 3, [], .none, .none, .none, (.str (.ofString "law_nz0281_01") 367), none, (.ref 160), .none, 0⟩), (List.toArray [])⟩
noncomputable def o_204 : Params → Obj := fun P => ⟨(.type "tuple"), none, (.seq (List.toArray []) 0), (List.toArray [])⟩
noncomputable def o_205 : Params → Obj := fun P => ⟨.none, none, (.fields (List.toArray [])), (List.toArray [])⟩
noncomputable def o_206 : Params → Obj := fun P => ⟨(.type "tuple"), none, (.seq (List.toArray [(.str (.ofString "code") 408)]) 0), (List.toArray [])⟩
noncomputable def o_207 : Params → Obj := fun P => ⟨(.type "tuple"), none, (.seq (List.toArray []) 0), (List.toArray [])⟩
noncomputable def o_208 : Params → Obj := let_mvar% ?a := (_ : Arguments); let_mvar% ?b := (_ : List Stmt); let_mvar% ?s := (_ : Scope); let_mvar% ?h := (rfl : PySem.Challenge.pw_nz0281_01.main.body[26]? = some (.FunctionDef _ ?a ?b _ _ _ ?s _ _ _)); fun P => ⟨.none, none, (.func ⟨(.ofString "_law_size"), (.ofString "_law_size"), ?a, .stmts ?b, ?s, 0, [], .none, .none, .none, .none, none, .none, .none, 0⟩), (List.toArray [])⟩
noncomputable def o_209 : Params → Obj := fun P => ⟨(.type "code"), none, (.fields (List.toArray ((.str (.ofString "_law_size") 405) :: (.str (.ofString "_law_size") 406) :: (.str (.ofString "/claim/cut.py") 407) :: (.int 136 0) :: (.int 1 0) :: (.int 0 0) :: (.int 0 0) :: (.int 3 0) :: (.ref 162) :: (.bool true) :: (.int 181 0) :: (.ref 163) :: .none :: (.ref 164) :: (.ref 165) :: (.ref 166) :: (.int 409 0) :: (.int 136 0) :: (.str (.ofString "/claim/cut.py") 410) :: []))), (List.toArray [])⟩
noncomputable def o_210 : Params → Obj := let_mvar% ?a := (_ : Arguments); let_mvar% ?b := (_ : List Stmt); let_mvar% ?s := (_ : Scope); let_mvar% ?h := (rfl : PySem.Challenge.pw_nz0281_01.main.body[26]? = some (.FunctionDef _ ?a ?b _ _ _ ?s _ _ _)); fun P => ⟨(.type "function"), none, (.func ⟨(.ofString "_law_size"), (.ofString "_law_size"), ?a, .stmts ?b, ?s, 3, [], .none, .none, .none, (.str (.ofString "law_nz0281_01") 367), none, (.ref 167), .none, 0⟩), (List.toArray [])⟩
noncomputable def o_211 : Params → Obj := fun P => ⟨(.type "dict"), none, (.dict (List.toArray (⟨(PySem.PyData.keyHash P (.ofString "__name__")), (.str (.ofString "__name__") 165), (.str (.ofString "law_nz0281_01") 367)⟩ :: ⟨(PySem.PyData.keyHash P (.ofString "__doc__")), (.str (.ofString "__doc__") 166), .none⟩ :: ⟨(PySem.PyData.keyHash P (.ofString "__package__")), (.str (.ofString "__package__") 167), .none⟩ :: ⟨(PySem.PyData.keyHash P (.ofString "__loader__")), (.str (.ofString "__loader__") 168), (.builtin "__main__.__loader__#opaque")⟩ :: ⟨(PySem.PyData.keyHash P (.ofString "__spec__")), (.str (.ofString "__spec__") 169), .none⟩ :: ⟨(PySem.PyData.keyHash P (.ofString "__annotations__")), (.str (.ofString "__annotations__") 170), (.ref 6)⟩ :: ⟨(PySem.PyData.keyHash P (.ofString "__builtins__")), (.str (.ofString "__builtins__") 171), (.ref 4)⟩ :: ⟨(PySem.PyData.keyHash P (.ofString "__file__")), (.str (.ofString "__file__") 173), (.str (.ofString "/claim/cut.py") 172)⟩ :: ⟨(PySem.PyData.keyHash P (.ofString "__cached__")), (.str (.ofString "__cached__") 174), .none⟩ :: ⟨(PySem.PyData.keyHash P (.ofString "_wall")), (.str (.ofString "_wall") 193), (.ref 21)⟩ :: ⟨(PySem.PyData.keyHash P (.ofString "PostError")), (.str (.ofString "PostError") 235), (.ref 46)⟩ :: ⟨(PySem.PyData.keyHash P (.ofString "MimeFault")), (.str (.ofString "MimeFault") 251), (.ref 59)⟩ :: ⟨(PySem.PyData.keyHash P (.ofString "ASCII")), (.str (.ofString "ASCII") 255), (.str (.ofString "us-ascii") 254)⟩ :: ⟨(PySem.PyData.keyHash P (.ofString "LATIN")), (.str (.ofString "LATIN") 257), (.str (.ofString "iso-8859-1") 256)⟩ :: ⟨(PySem.PyData.keyHash P (.ofString "UTF8")), (.str (.ofString "UTF8") 259), (.str (.ofString "utf-8") 258)⟩ :: ⟨(PySem.PyData.keyHash P (.ofString "CHARSETS")), (.str (.ofString "CHARSETS") 260), (.ref 62)⟩ :: ⟨(PySem.PyData.keyHash P (.ofString "UNKNOWN_SIGN")), (.str (.ofString "UNKNOWN_SIGN") 263), (.str (.ofString "�") 262)⟩ :: ⟨(PySem.PyData.keyHash P (.ofString "need_charset")), (.str (.ofString "need_charset") 270), (.ref 69)⟩ :: ⟨(PySem.PyData.keyHash P (.ofString "utf8_length")), (.str (.ofString "utf8_length") 276), (.ref 74)⟩ :: ⟨(PySem.PyData.keyHash P (.ofString "utf8_octets")), (.str (.ofString "utf8_octets") 287), (.ref 81)⟩ :: ⟨(PySem.PyData.keyHash P (.ofString "follower_span")), (.str (.ofString "follower_span") 294), (.ref 88)⟩ :: ⟨(PySem.PyData.keyHash P (.ofString "utf8_sign")), (.str (.ofString "utf8_sign") 308), (.ref 95)⟩ :: ⟨(PySem.PyData.keyHash P (.ofString "sign_at")), (.str (.ofString "sign_at") 317), (.ref 102)⟩ :: ⟨(PySem.PyData.keyHash P (.ofString "text_in")), (.str (.ofString "text_in") 329), (.ref 109)⟩ :: ⟨(PySem.PyData.keyHash P (.ofString "strict_text")), (.str (.ofString "strict_text") 341), (.ref 116)⟩ :: ⟨(PySem.PyData.keyHash P (.ofString "has_sign")), (.str (.ofString "has_sign") 349), (.ref 123)⟩ :: ⟨(PySem.PyData.keyHash P (.ofString "octets_in")), (.str (.ofString "octets_in") 360), (.ref 130)⟩ :: ⟨(PySem.PyData.keyHash P (.ofString "best_charset")), (.str (.ofString "best_charset") 366), (.ref 135)⟩ :: ⟨(PySem.PyData.keyHash P (.ofString "_law_pen")), (.str (.ofString "_law_pen") 374), (.ref 140)⟩ :: ⟨(PySem.PyData.keyHash P (.ofString "_law_draw")), (.str (.ofString "_law_draw") 387), (.ref 147)⟩ :: ⟨(PySem.PyData.keyHash P (.ofString "_law_pick")), (.str (.ofString "_law_pick") 395), (.ref 154)⟩ :: ⟨(PySem.PyData.keyHash P (.ofString "_law_refused")), (.str (.ofString "_law_refused") 404), (.ref 161)⟩ :: ⟨(PySem.PyData.keyHash P (.ofString "_law_size")), (.str (.ofString "_law_size") 411), (.ref 168)⟩ :: ⟨(PySem.PyData.keyHash P (.ofString "_law_cuts_hold")), (.str (.ofString "_law_cuts_hold") 417), (.ref 173)⟩ :: ⟨(PySem.PyData.keyHash P (.ofString "law")), (.str (.ofString "law") 423), (.ref 178)⟩ :: [])) 35), (List.toArray [])⟩
noncomputable def o_212 : Params → Obj := fun P => ⟨.none, none, (.fields (List.toArray ((.int 1 0) :: (.int 0 0) :: (.ref 20) :: (.int 5 0) :: (.int 0 0) :: (.ref 27) :: (.int 14 0) :: (.int 0 0) :: (.ref 55) :: (.int 22 0) :: (.int 0 0) :: (.ref 68) :: (.int 25 0) :: (.int 0 0) :: (.ref 73) :: (.int 29 0) :: (.int 0 0) :: (.ref 80) :: (.int 39 0) :: (.int 0 0) :: (.ref 87) :: (.int 47 0) :: (.int 0 0) :: (.ref 94) :: (.int 61 0) :: (.int 0 0) :: (.ref 101) :: (.int 67 0) :: (.int 0 0) :: (.ref 108) :: (.int 76 0) :: (.int 0 0) :: (.ref 115) :: (.int 87 0) :: (.int 0 0) :: (.ref 122) :: (.int 91 0) :: (.int 0 0) :: (.ref 129) :: (.int 103 0) :: (.int 0 0) :: (.ref 134) :: (.int 109 0) :: (.int 0 0) :: (.ref 139) :: (.int 111 0) :: (.int 0 0) :: (.ref 146) :: (.int 128 0) :: (.int 0 0) :: (.ref 153) :: (.int 130 0) :: (.int 0 0) :: (.ref 160) :: (.int 136 0) :: (.int 0 0) :: (.ref 167) :: (.int 138 0) :: (.int 0 0) :: (.ref 172) :: (.int 157 0) :: (.int 0 0) :: (.ref 177) :: []))), (List.toArray [])⟩
noncomputable def o_213 : Params → Obj := fun P => ⟨(.type "tuple"), none, (.seq (List.toArray []) 0), (List.toArray [])⟩
noncomputable def o_214 : Params → Obj := fun P => ⟨.none, none, (.fields (List.toArray [])), (List.toArray [])⟩
noncomputable def o_215 : Params → Obj := let_mvar% ?a := (_ : Arguments); let_mvar% ?b := (_ : List Stmt); let_mvar% ?s := (_ : Scope); let_mvar% ?h := (rfl : PySem.Challenge.pw_nz0281_01.main.body[27]? = some (.FunctionDef _ ?a ?b _ _ _ ?s _ _ _)); fun P => ⟨.none, none, (.func ⟨(.ofString "_law_cuts_hold"), (.ofString "_law_cuts_hold"), ?a, .stmts ?b, ?s, 0, [], .none, .none, .none, .none, none, .none, .none, 0⟩), (List.toArray [])⟩
noncomputable def o_216 : Params → Obj := fun P => ⟨(.type "code"), none, (.fields (List.toArray ((.str (.ofString "_law_cuts_hold") 412) :: (.str (.ofString "_law_cuts_hold") 413) :: (.str (.ofString "/claim/cut.py") 414) :: (.int 138 0) :: (.int 2 0) :: (.int 0 0) :: (.int 0 0) :: (.int 3 0) :: (.ref 169) :: (.bool true) :: (.int 181 0) :: (.ref 170) :: .none :: .none :: .none :: (.ref 171) :: (.int 415 0) :: (.int 138 0) :: (.str (.ofString "/claim/cut.py") 416) :: []))), (List.toArray [])⟩
noncomputable def o_217 : Params → Obj := let_mvar% ?a := (_ : Arguments); let_mvar% ?b := (_ : List Stmt); let_mvar% ?s := (_ : Scope); let_mvar% ?h := (rfl : PySem.Challenge.pw_nz0281_01.main.body[27]? = some (.FunctionDef _ ?a ?b _ _ _ ?s _ _ _)); fun P => ⟨(.type "function"), none, (.func ⟨(.ofString "_law_cuts_hold"), (.ofString "_law_cuts_hold"), ?a, .stmts ?b, ?s, 3, [], .none, .none, .none, (.str (.ofString "law_nz0281_01") 367), none, (.ref 172), .none, 0⟩), (List.toArray [])⟩
noncomputable def o_218 : Params → Obj := fun P => ⟨(.type "tuple"), none, (.seq (List.toArray []) 0), (List.toArray [])⟩
noncomputable def o_219 : Params → Obj := fun P => ⟨.none, none, (.fields (List.toArray [])), (List.toArray [])⟩
noncomputable def o_220 : Params → Obj := let_mvar% ?a := (_ : Arguments); let_mvar% ?b := (_ : List Stmt); let_mvar% ?s := (_ : Scope); let_mvar% ?h := (rfl : PySem.Challenge.pw_nz0281_01.main.body[28]? = some (.FunctionDef _ ?a ?b _ _ _ ?s _ _ _)); fun P => ⟨.none, none, (.func ⟨(.ofString "law"), (.ofString "law"), ?a, .stmts ?b, ?s, 0, [], .none, .none, .none, .none, none, .none, .none, 0⟩), (List.toArray [])⟩
noncomputable def o_221 : Params → Obj := fun P => ⟨(.type "code"), none, (.fields (List.toArray ((.str (.ofString "law") 418) :: (.str (.ofString "law") 419) :: (.str (.ofString "/claim/cut.py") 420) :: (.int 157 0) :: (.int 1 0) :: (.int 0 0) :: (.int 0 0) :: (.int 3 0) :: (.ref 174) :: (.bool true) :: (.int 181 0) :: (.ref 175) :: .none :: .none :: .none :: (.ref 176) :: (.int 421 0) :: (.int 157 0) :: (.str (.ofString "/claim/cut.py") 422) :: []))), (List.toArray [])⟩
noncomputable def o_222 : Params → Obj := let_mvar% ?a := (_ : Arguments); let_mvar% ?b := (_ : List Stmt); let_mvar% ?s := (_ : Scope); let_mvar% ?h := (rfl : PySem.Challenge.pw_nz0281_01.main.body[28]? = some (.FunctionDef _ ?a ?b _ _ _ ?s _ _ _)); fun P => ⟨(.type "function"), none, (.func ⟨(.ofString "law"), (.ofString "law"), ?a, .stmts ?b, ?s, 3, [], .none, .none, .none, (.str (.ofString "law_nz0281_01") 367), none, (.ref 177), .none, 0⟩), (List.toArray [])⟩
noncomputable def tree_47 : Params → BT := fun P => (.node (PySem.W.boot_o_0 P) (.node (PySem.W.boot_o_1 P) (.node (PySem.W.boot_o_3 P) (.node (PySem.W.boot_o_7 P) .nil .nil) (.node (o_43 P) .nil .nil)) (.node (PySem.W.boot_o_5 P) (.node (PySem.W.boot_o_9 P) .nil .nil) (.node (o_45 P) .nil .nil))) (.node (PySem.W.boot_o_2 P) (.node (PySem.W.boot_o_4 P) (.node (PySem.W.boot_o_8 P) .nil .nil) (.node (o_44 P) .nil .nil)) (.node (PySem.W.boot_o_6 P) (.node (PySem.W.boot_o_10 P) .nil .nil) (.node (o_46 P) .nil .nil))))
noncomputable def tree_86 : Params → BT := fun P => (.node (PySem.W.boot_o_0 P) (.node (PySem.W.boot_o_1 P) (.node (o_50 P) (.node (PySem.W.boot_o_7 P) (.node (o_52 P) (.node (o_68 P) .nil .nil) (.node (o_84 P) .nil .nil)) (.node (o_60 P) (.node (o_76 P) .nil .nil) .nil)) (.node (o_43 P) (.node (o_56 P) (.node (o_72 P) .nil .nil) .nil) (.node (o_64 P) (.node (o_80 P) .nil .nil) .nil))) (.node (PySem.W.boot_o_5 P) (.node (PySem.W.boot_o_9 P) (.node (o_54 P) (.node (o_70 P) .nil .nil) (.node (o_86 P) .nil .nil)) (.node (o_62 P) (.node (o_78 P) .nil .nil) .nil)) (.node (o_45 P) (.node (o_58 P) (.node (o_74 P) .nil .nil) .nil) (.node (o_66 P) (.node (o_82 P) .nil .nil) .nil)))) (.node (o_49 P) (.node (PySem.W.boot_o_4 P) (.node (PySem.W.boot_o_8 P) (.node (o_53 P) (.node (o_69 P) .nil .nil) (.node (o_85 P) .nil .nil)) (.node (o_61 P) (.node (o_77 P) .nil .nil) .nil)) (.node (o_51 P) (.node (o_57 P) (.node (o_73 P) .nil .nil) .nil) (.node (o_65 P) (.node (o_81 P) .nil .nil) .nil))) (.node (PySem.W.boot_o_6 P) (.node (PySem.W.boot_o_10 P) (.node (o_55 P) (.node (o_71 P) .nil .nil) .nil) (.node (o_63 P) (.node (o_79 P) .nil .nil) .nil)) (.node (o_46 P) (.node (o_59 P) (.node (o_75 P) .nil .nil) .nil) (.node (o_67 P) (.node (o_83 P) .nil .nil) .nil)))))
noncomputable def tree_128 : Params → BT := fun P => (.node (PySem.W.boot_o_0 P) (.node (PySem.W.boot_o_1 P) (.node (o_87 P) (.node (PySem.W.boot_o_7 P) (.node (o_52 P) (.node (o_68 P) (.node (o_103 P) .nil .nil) .nil) (.node (o_84 P) (.node (o_119 P) .nil .nil) .nil)) (.node (o_60 P) (.node (o_76 P) (.node (o_111 P) .nil .nil) .nil) (.node (o_95 P) (.node (o_127 P) .nil .nil) .nil))) (.node (o_43 P) (.node (o_56 P) (.node (o_72 P) (.node (o_107 P) .nil .nil) .nil) (.node (o_91 P) (.node (o_123 P) .nil .nil) .nil)) (.node (o_64 P) (.node (o_80 P) (.node (o_115 P) .nil .nil) .nil) (.node (o_99 P) .nil .nil)))) (.node (PySem.W.boot_o_5 P) (.node (PySem.W.boot_o_9 P) (.node (o_54 P) (.node (o_70 P) (.node (o_105 P) .nil .nil) .nil) (.node (o_86 P) (.node (o_121 P) .nil .nil) .nil)) (.node (o_62 P) (.node (o_78 P) (.node (o_113 P) .nil .nil) .nil) (.node (o_97 P) .nil .nil))) (.node (o_45 P) (.node (o_58 P) (.node (o_74 P) (.node (o_109 P) .nil .nil) .nil) (.node (o_93 P) (.node (o_125 P) .nil .nil) .nil)) (.node (o_66 P) (.node (o_82 P) (.node (o_117 P) .nil .nil) .nil) (.node (o_101 P) .nil .nil))))) (.node (o_49 P) (.node (PySem.W.boot_o_4 P) (.node (PySem.W.boot_o_8 P) (.node (o_53 P) (.node (o_69 P) (.node (o_104 P) .nil .nil) .nil) (.node (o_85 P) (.node (o_120 P) .nil .nil) .nil)) (.node (o_61 P) (.node (o_77 P) (.node (o_112 P) .nil .nil) .nil) (.node (o_96 P) (.node (o_128 P) .nil .nil) .nil))) (.node (o_88 P) (.node (o_57 P) (.node (o_73 P) (.node (o_108 P) .nil .nil) .nil) (.node (o_92 P) (.node (o_124 P) .nil .nil) .nil)) (.node (o_65 P) (.node (o_81 P) (.node (o_116 P) .nil .nil) .nil) (.node (o_100 P) .nil .nil)))) (.node (PySem.W.boot_o_6 P) (.node (PySem.W.boot_o_10 P) (.node (o_55 P) (.node (o_71 P) (.node (o_106 P) .nil .nil) .nil) (.node (o_90 P) (.node (o_122 P) .nil .nil) .nil)) (.node (o_63 P) (.node (o_79 P) (.node (o_114 P) .nil .nil) .nil) (.node (o_98 P) .nil .nil))) (.node (o_46 P) (.node (o_59 P) (.node (o_75 P) (.node (o_110 P) .nil .nil) .nil) (.node (o_94 P) (.node (o_126 P) .nil .nil) .nil)) (.node (o_67 P) (.node (o_89 P) (.node (o_118 P) .nil .nil) .nil) (.node (o_102 P) .nil .nil))))))
noncomputable def tree_210 : Params → BT := fun P => (.node (PySem.W.boot_o_0 P) (.node (PySem.W.boot_o_1 P) (.node (o_129 P) (.node (PySem.W.boot_o_7 P) (.node (o_52 P) (.node (o_68 P) (.node (o_103 P) (.node (o_169 P) .nil .nil) .nil) (.node (o_137 P) (.node (o_201 P) .nil .nil) .nil)) (.node (o_84 P) (.node (o_119 P) (.node (o_185 P) .nil .nil) .nil) (.node (o_153 P) .nil .nil))) (.node (o_60 P) (.node (o_76 P) (.node (o_111 P) (.node (o_177 P) .nil .nil) .nil) (.node (o_145 P) (.node (o_209 P) .nil .nil) .nil)) (.node (o_95 P) (.node (o_127 P) (.node (o_193 P) .nil .nil) .nil) (.node (o_161 P) .nil .nil)))) (.node (o_43 P) (.node (o_56 P) (.node (o_72 P) (.node (o_107 P) (.node (o_173 P) .nil .nil) .nil) (.node (o_141 P) (.node (o_205 P) .nil .nil) .nil)) (.node (o_91 P) (.node (o_123 P) (.node (o_189 P) .nil .nil) .nil) (.node (o_157 P) .nil .nil))) (.node (o_64 P) (.node (o_80 P) (.node (o_115 P) (.node (o_181 P) .nil .nil) .nil) (.node (o_149 P) .nil .nil)) (.node (o_99 P) (.node (o_133 P) (.node (o_197 P) .nil .nil) .nil) (.node (o_165 P) .nil .nil))))) (.node (PySem.W.boot_o_5 P) (.node (PySem.W.boot_o_9 P) (.node (o_54 P) (.node (o_70 P) (.node (o_105 P) (.node (o_171 P) .nil .nil) .nil) (.node (o_139 P) (.node (o_203 P) .nil .nil) .nil)) (.node (o_86 P) (.node (o_121 P) (.node (o_187 P) .nil .nil) .nil) (.node (o_155 P) .nil .nil))) (.node (o_62 P) (.node (o_78 P) (.node (o_113 P) (.node (o_179 P) .nil .nil) .nil) (.node (o_147 P) .nil .nil)) (.node (o_97 P) (.node (o_131 P) (.node (o_195 P) .nil .nil) .nil) (.node (o_163 P) .nil .nil)))) (.node (o_45 P) (.node (o_58 P) (.node (o_74 P) (.node (o_109 P) (.node (o_175 P) .nil .nil) .nil) (.node (o_143 P) (.node (o_207 P) .nil .nil) .nil)) (.node (o_93 P) (.node (o_125 P) (.node (o_191 P) .nil .nil) .nil) (.node (o_159 P) .nil .nil))) (.node (o_66 P) (.node (o_82 P) (.node (o_117 P) (.node (o_183 P) .nil .nil) .nil) (.node (o_151 P) .nil .nil)) (.node (o_101 P) (.node (o_135 P) (.node (o_199 P) .nil .nil) .nil) (.node (o_167 P) .nil .nil)))))) (.node (o_49 P) (.node (PySem.W.boot_o_4 P) (.node (PySem.W.boot_o_8 P) (.node (o_53 P) (.node (o_69 P) (.node (o_104 P) (.node (o_170 P) .nil .nil) .nil) (.node (o_138 P) (.node (o_202 P) .nil .nil) .nil)) (.node (o_85 P) (.node (o_120 P) (.node (o_186 P) .nil .nil) .nil) (.node (o_154 P) .nil .nil))) (.node (o_61 P) (.node (o_77 P) (.node (o_112 P) (.node (o_178 P) .nil .nil) .nil) (.node (o_146 P) (.node (o_210 P) .nil .nil) .nil)) (.node (o_96 P) (.node (o_128 P) (.node (o_194 P) .nil .nil) .nil) (.node (o_162 P) .nil .nil)))) (.node (o_130 P) (.node (o_57 P) (.node (o_73 P) (.node (o_108 P) (.node (o_174 P) .nil .nil) .nil) (.node (o_142 P) (.node (o_206 P) .nil .nil) .nil)) (.node (o_92 P) (.node (o_124 P) (.node (o_190 P) .nil .nil) .nil) (.node (o_158 P) .nil .nil))) (.node (o_65 P) (.node (o_81 P) (.node (o_116 P) (.node (o_182 P) .nil .nil) .nil) (.node (o_150 P) .nil .nil)) (.node (o_100 P) (.node (o_134 P) (.node (o_198 P) .nil .nil) .nil) (.node (o_166 P) .nil .nil))))) (.node (PySem.W.boot_o_6 P) (.node (PySem.W.boot_o_10 P) (.node (o_55 P) (.node (o_71 P) (.node (o_106 P) (.node (o_172 P) .nil .nil) .nil) (.node (o_140 P) (.node (o_204 P) .nil .nil) .nil)) (.node (o_90 P) (.node (o_122 P) (.node (o_188 P) .nil .nil) .nil) (.node (o_156 P) .nil .nil))) (.node (o_63 P) (.node (o_79 P) (.node (o_114 P) (.node (o_180 P) .nil .nil) .nil) (.node (o_148 P) .nil .nil)) (.node (o_98 P) (.node (o_132 P) (.node (o_196 P) .nil .nil) .nil) (.node (o_164 P) .nil .nil)))) (.node (o_46 P) (.node (o_59 P) (.node (o_75 P) (.node (o_110 P) (.node (o_176 P) .nil .nil) .nil) (.node (o_144 P) (.node (o_208 P) .nil .nil) .nil)) (.node (o_94 P) (.node (o_126 P) (.node (o_192 P) .nil .nil) .nil) (.node (o_160 P) .nil .nil))) (.node (o_67 P) (.node (o_89 P) (.node (o_118 P) (.node (o_184 P) .nil .nil) .nil) (.node (o_152 P) .nil .nil)) (.node (o_102 P) (.node (o_136 P) (.node (o_200 P) .nil .nil) .nil) (.node (o_168 P) .nil .nil)))))))
noncomputable def tree_222 : Params → BT := fun P => (.node (PySem.W.boot_o_0 P) (.node (PySem.W.boot_o_1 P) (.node (o_211 P) (.node (PySem.W.boot_o_7 P) (.node (o_52 P) (.node (o_68 P) (.node (o_103 P) (.node (o_169 P) .nil .nil) .nil) (.node (o_137 P) (.node (o_201 P) .nil .nil) .nil)) (.node (o_84 P) (.node (o_119 P) (.node (o_185 P) .nil .nil) .nil) (.node (o_153 P) (.node (o_219 P) .nil .nil) .nil))) (.node (o_60 P) (.node (o_76 P) (.node (o_111 P) (.node (o_177 P) .nil .nil) .nil) (.node (o_145 P) (.node (o_209 P) .nil .nil) .nil)) (.node (o_95 P) (.node (o_127 P) (.node (o_193 P) .nil .nil) .nil) (.node (o_161 P) .nil .nil)))) (.node (o_43 P) (.node (o_56 P) (.node (o_72 P) (.node (o_107 P) (.node (o_173 P) .nil .nil) .nil) (.node (o_141 P) (.node (o_205 P) .nil .nil) .nil)) (.node (o_91 P) (.node (o_123 P) (.node (o_189 P) .nil .nil) .nil) (.node (o_157 P) .nil .nil))) (.node (o_64 P) (.node (o_80 P) (.node (o_115 P) (.node (o_181 P) .nil .nil) .nil) (.node (o_149 P) (.node (o_215 P) .nil .nil) .nil)) (.node (o_99 P) (.node (o_133 P) (.node (o_197 P) .nil .nil) .nil) (.node (o_165 P) .nil .nil))))) (.node (PySem.W.boot_o_5 P) (.node (PySem.W.boot_o_9 P) (.node (o_54 P) (.node (o_70 P) (.node (o_105 P) (.node (o_171 P) .nil .nil) .nil) (.node (o_139 P) (.node (o_203 P) .nil .nil) .nil)) (.node (o_86 P) (.node (o_121 P) (.node (o_187 P) .nil .nil) .nil) (.node (o_155 P) (.node (o_221 P) .nil .nil) .nil))) (.node (o_62 P) (.node (o_78 P) (.node (o_113 P) (.node (o_179 P) .nil .nil) .nil) (.node (o_147 P) (.node (o_213 P) .nil .nil) .nil)) (.node (o_97 P) (.node (o_131 P) (.node (o_195 P) .nil .nil) .nil) (.node (o_163 P) .nil .nil)))) (.node (o_45 P) (.node (o_58 P) (.node (o_74 P) (.node (o_109 P) (.node (o_175 P) .nil .nil) .nil) (.node (o_143 P) (.node (o_207 P) .nil .nil) .nil)) (.node (o_93 P) (.node (o_125 P) (.node (o_191 P) .nil .nil) .nil) (.node (o_159 P) .nil .nil))) (.node (o_66 P) (.node (o_82 P) (.node (o_117 P) (.node (o_183 P) .nil .nil) .nil) (.node (o_151 P) (.node (o_217 P) .nil .nil) .nil)) (.node (o_101 P) (.node (o_135 P) (.node (o_199 P) .nil .nil) .nil) (.node (o_167 P) .nil .nil)))))) (.node (o_49 P) (.node (PySem.W.boot_o_4 P) (.node (PySem.W.boot_o_8 P) (.node (o_53 P) (.node (o_69 P) (.node (o_104 P) (.node (o_170 P) .nil .nil) .nil) (.node (o_138 P) (.node (o_202 P) .nil .nil) .nil)) (.node (o_85 P) (.node (o_120 P) (.node (o_186 P) .nil .nil) .nil) (.node (o_154 P) (.node (o_220 P) .nil .nil) .nil))) (.node (o_61 P) (.node (o_77 P) (.node (o_112 P) (.node (o_178 P) .nil .nil) .nil) (.node (o_146 P) (.node (o_210 P) .nil .nil) .nil)) (.node (o_96 P) (.node (o_128 P) (.node (o_194 P) .nil .nil) .nil) (.node (o_162 P) .nil .nil)))) (.node (o_212 P) (.node (o_57 P) (.node (o_73 P) (.node (o_108 P) (.node (o_174 P) .nil .nil) .nil) (.node (o_142 P) (.node (o_206 P) .nil .nil) .nil)) (.node (o_92 P) (.node (o_124 P) (.node (o_190 P) .nil .nil) .nil) (.node (o_158 P) .nil .nil))) (.node (o_65 P) (.node (o_81 P) (.node (o_116 P) (.node (o_182 P) .nil .nil) .nil) (.node (o_150 P) (.node (o_216 P) .nil .nil) .nil)) (.node (o_100 P) (.node (o_134 P) (.node (o_198 P) .nil .nil) .nil) (.node (o_166 P) .nil .nil))))) (.node (PySem.W.boot_o_6 P) (.node (PySem.W.boot_o_10 P) (.node (o_55 P) (.node (o_71 P) (.node (o_106 P) (.node (o_172 P) .nil .nil) .nil) (.node (o_140 P) (.node (o_204 P) .nil .nil) .nil)) (.node (o_90 P) (.node (o_122 P) (.node (o_188 P) .nil .nil) .nil) (.node (o_156 P) (.node (o_222 P) .nil .nil) .nil))) (.node (o_63 P) (.node (o_79 P) (.node (o_114 P) (.node (o_180 P) .nil .nil) .nil) (.node (o_148 P) (.node (o_214 P) .nil .nil) .nil)) (.node (o_98 P) (.node (o_132 P) (.node (o_196 P) .nil .nil) .nil) (.node (o_164 P) .nil .nil)))) (.node (o_46 P) (.node (o_59 P) (.node (o_75 P) (.node (o_110 P) (.node (o_176 P) .nil .nil) .nil) (.node (o_144 P) (.node (o_208 P) .nil .nil) .nil)) (.node (o_94 P) (.node (o_126 P) (.node (o_192 P) .nil .nil) .nil) (.node (o_160 P) .nil .nil))) (.node (o_67 P) (.node (o_89 P) (.node (o_118 P) (.node (o_184 P) .nil .nil) .nil) (.node (o_152 P) (.node (o_218 P) .nil .nil) .nil)) (.node (o_102 P) (.node (o_136 P) (.node (o_200 P) .nil .nil) .nil) (.node (o_168 P) .nil .nil)))))))
noncomputable def heap_46 : Params → Heap := fun P => ⟨⟨[(PySem.W.boot_o_0 P), (PySem.W.boot_o_1 P), (PySem.W.boot_o_2 P), (PySem.W.boot_o_3 P), (PySem.W.boot_o_4 P), (PySem.W.boot_o_5 P), (PySem.W.boot_o_6 P), (PySem.W.boot_o_7 P), (PySem.W.boot_o_8 P), (PySem.W.boot_o_9 P), (PySem.W.boot_o_10 P), (o_43 P), (o_44 P), (o_45 P), (o_46 P)]⟩, ⟨[], [], [], 0, [], [], false, (List.toArray []), [], 0, false, false, false, 0, [2000, 10, 10], false, 0, true, [], [], 0, false⟩⟩
noncomputable def heap_223 : Params → Heap := fun P => ⟨⟨((PySem.W.boot_o_0 P) :: (PySem.W.boot_o_1 P) :: (o_49 P) :: (o_211 P) :: (PySem.W.boot_o_4 P) :: (PySem.W.boot_o_5 P) :: (PySem.W.boot_o_6 P) :: (PySem.W.boot_o_7 P) :: (PySem.W.boot_o_8 P) :: (PySem.W.boot_o_9 P) :: (PySem.W.boot_o_10 P) :: (o_43 P) :: (o_212 P) :: (o_45 P) :: (o_46 P) :: (o_52 P) :: (o_53 P) :: (o_54 P) :: (o_55 P) :: (o_56 P) :: (o_57 P) :: (o_58 P) :: (o_59 P) :: (o_60 P) :: (o_61 P) :: (o_62 P) :: (o_63 P) :: (o_64 P) :: (o_65 P) :: (o_66 P) :: (o_67 P) :: (o_68 P) :: (o_69 P) :: (o_70 P) :: (o_71 P) :: (o_72 P) :: (o_73 P) :: (o_74 P) :: (o_75 P) :: (o_76 P) :: (o_77 P) :: (o_78 P) :: (o_79 P) :: (o_80 P) :: (o_81 P) :: (o_82 P) :: (o_89 P) :: (o_84 P) :: (o_85 P) :: (o_86 P) :: (o_90 P) :: (o_91 P) :: (o_92 P) :: (o_93 P) :: (o_94 P) :: (o_95 P) :: (o_96 P) :: (o_97 P) :: (o_98 P) :: (o_99 P) :: (o_100 P) :: (o_101 P) :: (o_102 P) :: (o_103 P) :: (o_104 P) :: (o_105 P) :: (o_106 P) :: (o_107 P) :: (o_108 P) :: (o_109 P) :: (o_110 P) :: (o_111 P) :: (o_112 P) :: (o_113 P) :: (o_114 P) :: (o_115 P) :: (o_116 P) :: (o_117 P) :: (o_118 P) :: (o_119 P) :: (o_120 P) :: (o_121 P) :: (o_122 P) :: (o_123 P) :: (o_124 P) :: (o_125 P) :: (o_126 P) :: (o_127 P) :: (o_128 P) :: (o_131 P) :: (o_132 P) :: (o_133 P) :: (o_134 P) :: (o_135 P) :: (o_136 P) :: (o_137 P) :: (o_138 P) :: (o_139 P) :: (o_140 P) :: (o_141 P) :: (o_142 P) :: (o_143 P) :: (o_144 P) :: (o_145 P) :: (o_146 P) :: (o_147 P) :: (o_148 P) :: (o_149 P) :: (o_150 P) :: (o_151 P) :: (o_152 P) :: (o_153 P) :: (o_154 P) :: (o_155 P) :: (o_156 P) :: (o_157 P) :: (o_158 P) :: (o_159 P) :: (o_160 P) :: (o_161 P) :: (o_162 P) :: (o_163 P) :: (o_164 P) :: (o_165 P) :: (o_166 P) :: (o_167 P) :: (o_168 P) :: (o_169 P) :: (o_170 P) :: (o_171 P) :: (o_172 P) :: (o_173 P) :: (o_174 P) :: (o_175 P) :: (o_176 P) :: (o_177 P) :: (o_178 P) :: (o_179 P) :: (o_180 P) :: (o_181 P) :: (o_182 P) :: (o_183 P) :: (o_184 P) :: (o_185 P) :: (o_186 P) :: (o_187 P) :: (o_188 P) :: (o_189 P) :: (o_190 P) :: (o_191 P) :: (o_192 P) :: (o_193 P) :: (o_194 P) :: (o_195 P) :: (o_196 P) :: (o_197 P) :: (o_198 P) :: (o_199 P) :: (o_200 P) :: (o_201 P) :: (o_202 P) :: (o_203 P) :: (o_204 P) :: (o_205 P) :: (o_206 P) :: (o_207 P) :: (o_208 P) :: (o_209 P) :: (o_210 P) :: (o_213 P) :: (o_214 P) :: (o_215 P) :: (o_216 P) :: (o_217 P) :: (o_218 P) :: (o_219 P) :: (o_220 P) :: (o_221 P) :: (o_222 P) :: [])⟩, ⟨[], [], [], 0, [], [], false, (List.toArray []), [], 0, false, false, false, 0, [2000, 10, 10], false, 0, true, [], [], 0, false⟩⟩
noncomputable def heap_39 : Params → Frag := fun P => (nat_lit 2, (o_49 P)) :: (nat_lit 3, (o_211 P)) :: (nat_lit 15, (o_52 P)) :: (nat_lit 17, (o_54 P)) :: (nat_lit 18, (o_55 P)) :: (nat_lit 20, (o_57 P)) :: (nat_lit 21, (o_58 P)) :: (nat_lit 22, (o_59 P)) :: (nat_lit 29, (o_66 P)) :: (nat_lit 30, (o_67 P)) :: (nat_lit 32, (o_69 P)) :: (nat_lit 33, (o_70 P)) :: (nat_lit 35, (o_72 P)) :: (nat_lit 36, (o_73 P)) :: (nat_lit 37, (o_74 P)) :: (nat_lit 39, (o_76 P)) :: (nat_lit 40, (o_77 P)) :: (nat_lit 42, (o_79 P)) :: (nat_lit 43, (o_80 P)) :: (nat_lit 44, (o_81 P)) :: (nat_lit 45, (o_82 P)) :: (nat_lit 46, (o_89 P)) :: (nat_lit 47, (o_84 P)) :: (nat_lit 50, (o_90 P)) :: (nat_lit 57, (o_97 P)) :: (nat_lit 58, (o_98 P)) :: (nat_lit 59, (o_99 P)) :: (nat_lit 62, (o_102 P)) :: (nat_lit 63, (o_103 P)) :: (nat_lit 65, (o_105 P)) :: (nat_lit 66, (o_106 P)) :: (nat_lit 68, (o_108 P)) :: (nat_lit 69, (o_109 P)) :: (nat_lit 70, (o_110 P)) :: (nat_lit 73, (o_113 P)) :: (nat_lit 74, (o_114 P)) :: (nat_lit 75, (o_115 P)) :: (nat_lit 77, (o_117 P)) :: (nat_lit 78, (o_118 P)) :: (nat_lit 80, (o_120 P)) :: (nat_lit 81, (o_121 P)) :: (nat_lit 82, (o_122 P)) :: (nat_lit 84, (o_124 P)) :: (nat_lit 85, (o_125 P)) :: (nat_lit 87, (o_127 P)) :: (nat_lit 88, (o_128 P)) :: (nat_lit 89, (o_131 P)) :: (nat_lit 91, (o_133 P)) :: (nat_lit 92, (o_134 P)) :: (nat_lit 94, (o_136 P)) :: (nat_lit 95, (o_137 P)) :: (nat_lit 96, (o_138 P)) :: (nat_lit 98, (o_140 P)) :: (nat_lit 99, (o_141 P)) :: (nat_lit 101, (o_143 P)) :: (nat_lit 102, (o_144 P)) :: (nat_lit 103, (o_145 P)) :: (nat_lit 105, (o_147 P)) :: (nat_lit 106, (o_148 P)) :: (nat_lit 108, (o_150 P)) :: (nat_lit 109, (o_151 P)) :: (nat_lit 110, (o_152 P)) :: (nat_lit 112, (o_154 P)) :: (nat_lit 113, (o_155 P)) :: (nat_lit 115, (o_157 P)) :: (nat_lit 116, (o_158 P)) :: (nat_lit 117, (o_159 P)) :: (nat_lit 119, (o_161 P)) :: (nat_lit 120, (o_162 P)) :: (nat_lit 122, (o_164 P)) :: (nat_lit 123, (o_165 P)) :: (nat_lit 124, (o_166 P)) :: (nat_lit 126, (o_168 P)) :: (nat_lit 127, (o_169 P)) :: (nat_lit 129, (o_171 P)) :: (nat_lit 130, (o_172 P)) :: (nat_lit 131, (o_173 P)) :: (nat_lit 134, (o_176 P)) :: (nat_lit 135, (o_177 P)) :: (nat_lit 136, (o_178 P)) :: (nat_lit 139, (o_181 P)) :: (nat_lit 140, (o_182 P)) :: (nat_lit 141, (o_183 P)) :: (nat_lit 143, (o_185 P)) :: (nat_lit 144, (o_186 P)) :: (nat_lit 146, (o_188 P)) :: (nat_lit 147, (o_189 P)) :: (nat_lit 148, (o_190 P)) :: (nat_lit 150, (o_192 P)) :: (nat_lit 151, (o_193 P)) :: (nat_lit 153, (o_195 P)) :: (nat_lit 154, (o_196 P)) :: (nat_lit 155, (o_197 P)) :: (nat_lit 157, (o_199 P)) :: (nat_lit 158, (o_200 P)) :: (nat_lit 160, (o_202 P)) :: (nat_lit 161, (o_203 P)) :: (nat_lit 162, (o_204 P)) :: (nat_lit 164, (o_206 P)) :: (nat_lit 165, (o_207 P)) :: (nat_lit 167, (o_209 P)) :: (nat_lit 168, (o_210 P)) :: (nat_lit 169, (o_213 P)) :: (nat_lit 172, (o_216 P)) :: (nat_lit 173, (o_217 P)) :: (nat_lit 174, (o_218 P)) :: (nat_lit 177, (o_221 P)) :: (nat_lit 178, (o_222 P)) :: []
noncomputable def at_39 : List Nat := 2 :: 3 :: 15 :: 17 :: 18 :: 20 :: 21 :: 22 :: 29 :: 30 :: 32 :: 33 :: 35 :: 36 :: 37 :: 39 :: 40 :: 42 :: 43 :: 44 :: 45 :: 46 :: 47 :: 50 :: 57 :: 58 :: 59 :: 62 :: 63 :: 65 :: 66 :: 68 :: 69 :: 70 :: 73 :: 74 :: 75 :: 77 :: 78 :: 80 :: 81 :: 82 :: 84 :: 85 :: 87 :: 88 :: 89 :: 91 :: 92 :: 94 :: 95 :: 96 :: 98 :: 99 :: 101 :: 102 :: 103 :: 105 :: 106 :: 108 :: 109 :: 110 :: 112 :: 113 :: 115 :: 116 :: 117 :: 119 :: 120 :: 122 :: 123 :: 124 :: 126 :: 127 :: 129 :: 130 :: 131 :: 134 :: 135 :: 136 :: 139 :: 140 :: 141 :: 143 :: 144 :: 146 :: 147 :: 148 :: 150 :: 151 :: 153 :: 154 :: 155 :: 157 :: 158 :: 160 :: 161 :: 162 :: 164 :: 165 :: 167 :: 168 :: 169 :: 172 :: 173 :: 174 :: 177 :: 178 :: []
noncomputable abbrev pE : Program := PySem.Challenge.rw_nz0281_01.row.toRowW.1
noncomputable def env : Env := { scope := pE.main.scope, locals := mainNs, globals := mainNs, cells := [], code := .ref 13, frame := some 14 }
noncomputable abbrev bE : List Stmt := behindTheImports pE
noncomputable abbrev cE : Code := .body bE env
noncomputable abbrev pos0 : Pos := ⟨0, 0, 0, 0⟩
noncomputable abbrev pos1 : Pos := ⟨5, 0, 13, 16⟩
noncomputable abbrev pos2 : Pos := ⟨39, 0, 46, 20⟩
noncomputable abbrev pos3 : Pos := ⟨136, 0, 137, 78⟩
noncomputable abbrev pos4 : Pos := ⟨157, 0, 174, 15⟩
noncomputable abbrev fB : List Frame := [topFrame pos0]
noncomputable abbrev ann : Option Value := some (.ref 6)
noncomputable abbrev stT (t : Params → BT) (n k : Nat) (w : World) (os : OsState) : SharedT := ⟨t w.params, n, {}, ⟨[]⟩, ⟨0, 0, 0, 0⟩, k, os⟩
noncomputable abbrev stH (h : Params → Heap) (k : Nat) (w : World) (os : OsState) : Shared := ⟨h w.params, ⟨[]⟩, ⟨0, 0, 0, 0⟩, k, os⟩
noncomputable def sts_1 : List Stmt := bE.take 3
noncomputable def sts_2 : List Stmt := (bE.drop 3).take 11
noncomputable def sts_3 : List Stmt := (bE.drop 14).take 13
noncomputable def sts_4 : List Stmt := bE.drop 27
theorem bE_eq : bE = sts_1 ++ (sts_2 ++ (sts_3 ++ (sts_4 ++ []))) := by kernel_rfl
theorem q0 (w : World) (os : OsState) : topGo treeTable pE w 11 ann 12 ⟨boot_heap w.params, Array.mk [], boot_drawn, boot_toks, os⟩ (topStub pE) = some (stH heap_46 187 w os, ⟨denote treeTable cE, cE, pos0, fB⟩) := by kernel_rfl
theorem q1 (w : World) (os : OsState) : segRun treeTable pE w 11 ann 1 1 (stH heap_46 187 w os) (blockOf bE env cE pos0 fB) = some (.next, (stT tree_47 15 187 w os).abs, cE, pos0) := by kernel_rfl
theorem q2 (w : World) (os : OsState) : segRunT treeTable pE w 11 ann 1 307 (stT tree_47 15 187 w os) (piecesOf sts_1 env cE pos0 fB) = some (.next, stT tree_86 50 236 w os, cE, pos1) := by
  rw [PySem.W.Fast.te10110043849684766642, PySem.W.Fast.te14364793385576792824]; kernel_rfl
theorem q3 (w : World) (os : OsState) : segRunT treeTable pE w 11 ann 1 401 (stT tree_86 50 236 w os) (piecesOf sts_2 env cE pos1 fB) = some (.next, stT tree_128 89 295 w os, cE, pos2) := by
  rw [PySem.W.Fast.te10110043849684766642, PySem.W.Fast.te14364793385576792824]; kernel_rfl
theorem q4 (w : World) (os : OsState) : segRunT treeTable pE w 11 ann 1 385 (stT tree_128 89 295 w os) (piecesOf sts_3 env cE pos2 fB) = some (.next, stT tree_210 169 412 w os, cE, pos3) := by
  rw [PySem.W.Fast.te10110043849684766642, PySem.W.Fast.te14364793385576792824]; kernel_rfl
theorem q5 (w : World) (os : OsState) : segRunT treeTable pE w 11 ann 1 53 (stT tree_210 169 412 w os) (piecesOf sts_4 env cE pos3 fB) = some (.next, stT tree_222 179 424 w os, cE, pos4) := by
  rw [PySem.W.Fast.te10110043849684766642, PySem.W.Fast.te14364793385576792824]; kernel_rfl
theorem q6 (w : World) (os : OsState) : topRun treeTable pE w 11 ann 2 (stT tree_222 179 424 w os).abs (restOf [] env cE pos4 fB) = some (stH heap_223 424 w os) := by kernel_rfl
noncomputable abbrev runN : Nat := Nat.add 12 (Nat.add 1 (Nat.add 307 (Nat.add 401 (Nat.add 385 (Nat.add 53 2)))))
theorem run (w : World) (os : OsState) : topRun treeTable pE w 11 ann runN ⟨boot_heap w.params, Array.mk [], boot_drawn, boot_toks, os⟩ (topStub pE) = some (stH heap_223 424 w os) :=
  go_top (q0 w os) (piece_block (q1 w os) ((congrArg (fun l => topRun treeTable pE w 11 ann (Nat.add 307 (Nat.add 401 (Nat.add 385 (Nat.add 53 2)))) (stT tree_47 15 187 w os).abs (restOf l env cE pos0 fB)) bE_eq).trans
    (piece_app (segRun_of (q2 w os)) (piece_app (segRun_of (q3 w os)) (piece_app (segRun_of (q4 w os)) (piece_app (segRun_of (q5 w os)) (q6 w os)))))))
noncomputable abbrev loose : List Str := [.ofString "PostError", .ofString "CHARSETS", .ofString "UNKNOWN_SIGN"]
noncomputable abbrev lv : List (Str × WData) := [(.ofString "CHARSETS", .tuple [.str ⟨#[117, 115, 45, 97, 115, 99, 105, 105]⟩, .str ⟨#[105, 115, 111, 45, 56, 56, 53, 57, 45, 49]⟩, .str ⟨#[117, 116, 102, 45, 56]⟩]), (.ofString "UNKNOWN_SIGN", .str ⟨#[65533]⟩)]
noncomputable abbrev xt : Shared → Bool := fun s => xlAt view_39 lv s && recOk PySem.Challenge.rw_nz0281_01.row.records s
theorem eK : ∀ P, at_39 = (heap_39 P).map (·.1) := fun _ => by kernel_rfl
noncomputable abbrev hook : Hook := kHook heap_39 at_39 eK
theorem l0 (w : World) : ((boot_heap w.params).isNs mainGlobals && (Array.mk [] : Array GenState).size == 0, (boot_heap w.params).objs.size, (boot_heap w.params).nsMap mainGlobals "__annotations__") = (true, 11, ann) := by kernel_rfl
theorem l1 (w : World) (os : OsState) : (staticsOk (importedModules pE.main.body) (boot_heap w.params) (heap_223 w.params) && namesBound pE (heap_223 w.params) && gensDone (stH heap_223 424 w os) && laidKept (boot_heap w.params) (heap_223 w.params)) = true := by kernel_rfl
theorem l2 (w : World) (os : OsState) : seen ((recsOf view_39).map (·.name)) (ownsOf view_39) [] { stH heap_223 424 w os with gens := #[] } = expectedOf view_39 := by kernel_rfl
theorem l3 (w : World) (os : OsState) : (stH heap_223 424 w os).heap.bltView = bltViewBooted := by kernel_rfl
theorem l4 (w : World) (os : OsState) : ((stH heap_223 424 w os).heap.keysOk (looseW view_39 loose) ((recsOf view_39).map (·.name)) ((litsOf view_39).map (·.1)) ((clssOf view_39 (looseW view_39 loose)).map (·.name)) && (stH heap_223 424 w os).heap.accountedOkI (importedModules pE.main.body) && (stH heap_223 424 w os).heap.isNs mainGlobals && (stH heap_223 424 w os).heap.isNs builtinsNs && tablesOk view_39 (stH heap_223 424 w os).heap && xt (stH heap_223 424 w os) && (if true then (stH heap_223 424 w os).gens.size == 0 else !leftWithCleanup (stH heap_223 424 w os).gens)) = true := by kernel_rfl
theorem l5 (w : World) (os : OsState) : tabsOk view_39 (stH heap_223 424 w os) = true := by kernel_rfl
theorem l6 (w : World) (os : OsState) : pinSeenD view_39 (drecsOf view_39) (stH heap_223 424 w os) = pinGoodD (drecsOf view_39) := by kernel_rfl
theorem l7 (w : World) (os : OsState) : plainSeenE view_39 (looseW view_39 loose) (stH heap_223 424 w os) = plainGoodE view_39 (looseW view_39 loose) := by kernel_rfl
theorem l8 (w : World) (os : OsState) : plainSeenD view_39 loose (stH heap_223 424 w os) = plainGoodD view_39 loose := by kernel_rfl
theorem l9 (w : World) (os : OsState) : wideSeen view_39 (stH heap_223 424 w os) = wideGood view_39 := by kernel_rfl
theorem l10 (w : World) (os : OsState) : clsSeenW view_39 loose (stH heap_223 424 w os) = clsGoodW view_39 loose := by kernel_rfl
theorem l11 (w : World) (os : OsState) : hook.obs (stH heap_223 424 w os) = hook.val w := by kernel_rfl
theorem seen_ok (w : World) (os : OsState) : openSeen view_39 loose (importedModules pE.main.body) xt true (stH heap_223 424 w os) = openGood view_39 loose :=
  looks_pair (l2 w os) (looks_pair (l3 w os) (looks_pair (l4 w os) (looks_pair (l5 w os) (looks_pair (l6 w os) (looks_pair (l7 w os) (looks_pair (l8 w os) (looks_pair (l9 w os) (l10 w os))))))))
theorem left : LeftO pE view_39 loose xt hook.obs hook.val 2410 true :=
  LeftO.of_pieces (boot_open (by kernel_rfl) (by rfl) (fun s => by kernel_rfl)) l0 run (by rfl) (fun w => funext fun os => looks_pair (l1 w os) (looks_pair (seen_ok w os) (l11 w os)))
theorem w1 : namesResolve PySem.Challenge.rw_nz0281_01.row.prog = true := by kernel_rfl
theorem w2 : noRoadLSs { strict := !(importedModules PySem.Challenge.rw_nz0281_01.row.prog.main.body).all cThrough.contains, foot := none, bare := (["vars", "dir", "locals"] : List Str).filter (readsOut PySem.Challenge.rw_nz0281_01.row.prog PySem.Challenge.rw_nz0281_01.row.prog.main.body) } PySem.Challenge.rw_nz0281_01.row.prog.main.body = true := by kernel_rfl
theorem w3 : namesMeet PySem.Challenge.rw_nz0281_01.row.prog PySem.Challenge.rw_nz0281_01.row.prog.main.body (fun _ n => attrL n) = true := by kernel_rfl
theorem w4 : looksOpen PySem.Challenge.rw_nz0281_01.row.prog = true := by
  delta looksOpen
  repeat' (with_reducible refine look_both ?_ ?_)
  all_goals first | with_reducible exact w1 | with_reducible exact w2 | with_reducible exact w3 | kernel_rfl
theorem w5 : PySem.Challenge.rw_nz0281_01.row.wellSaid = true := by
  delta OpenRow.wellSaid
  repeat' (with_reducible refine look_both ?_ ?_)
  delta OpenRow.partSaid
  repeat' (with_reducible refine look_both ?_ ?_)
  all_goals first | with_reducible exact w4 | kernel_rfl
theorem w6 : (namesMeet PySem.Challenge.rw_nz0281_01.prog PySem.Challenge.rw_nz0281_01.footing fun sc n =>
      (!([.ofString "type", .ofString "isinstance", .ofString "issubclass", .ofString "getattr", .ofString "hasattr"] : List Str).contains n ||
          List.lookup n sc.names == some NameKind.globalImplicit) &&
        (PySem.Challenge.rw_nz0281_01.may != some n || sc.kind == ScopeKind.module ||
          List.lookup n sc.names == some NameKind.globalImplicit)) = true := by kernel_rfl
theorem ws : PySem.Challenge.rw_nz0281_01.wellSaid = true := by
  delta OpenLaw.wellSaid
  repeat' (with_reducible refine look_both ?_ ?_)
  all_goals first | with_reducible exact w5 | with_reducible exact w6 | kernel_rfl
end hd
theorem hd : let_mvar% ?a := (_ : Arguments); let_mvar% ?b := (_ : List Stmt); let_mvar% ?s := (_ : Scope); let_mvar% ?p := (_ : Pos); let_mvar% ?h := (rfl : PySem.Challenge.pw_nz0281_01.main.body[28]? = some (.FunctionDef _ ?a ?b _ _ _ ?s _ _ ?p));
    (WalkO hd.view_39 hd.loose (XL hd.view_39 hd.lv) (kHook hd.heap_39 hd.at_39 hd.eK).says PySem.Challenge.rw_nz0281_01.row.toRowW { name := .ofString "law", params := ?a, body := ?b, scope := ?s, pos := ?p } [] fun f vs => PySem.call f vs) → PySem.Challenge.rw_nz0281_01.Holds := fun walk => by
  refine holds_law hd.ws fun said => ?_
  refine holds_open (q := hd.view_39) (loose := hd.loose) (Xt := hd.xt) (XP := XL hd.view_39 hd.lv) (Yf := hd.hook.obs) (Ya := hd.hook.val) (YP := hd.hook.says) (N := 2410) hd.left hd.hook.of hd.hook.keeps (fun s e => xl_of s (Bool.and_eq_true_iff.mp e).1) XL.keeps (by rfl) (by rfl) (by rfl) (fun s e => recFacts_of (Bool.and_eq_true_iff.mp e).2) (by rfl) (by first | assumption | decide +kernel) (by decide +kernel) ⟨rfl, rfl, rfl, rfl, rfl, by decide +kernel⟩ ?hw walk
  case hw => w_witness2


noncomputable abbrev LOOSE : List Str := looseW hd.view_39 [Str.ofString "PostError", Str.ofString "CHARSETS", Str.ofString "UNKNOWN_SIGN"]

/-- the heap only grows -/
noncomputable def Ext (h h' : Heap) : Prop := ∀ b o, h.get? b = some o → h'.get? b = some o

/-- what a call gives back: the heap only grows, the value stands in R -/
noncomputable def PC (w : World) (d : Nat) (f : Addr) (vs : List Value) (R : Heap → Heap → Value → Prop) : Prop :=
  ∀ (mean : ExcName → Option Value) (mg mb : Str → Option Value) (dp un : Nat) (gd : Option (List Code)) (cn : Str) (cs : Scope) (a : Addr) (ccd : Value) (cl : List (Str × Addr)) (outer : List Env) (A₀ : Around) (base h₀ : Heap) (L : Addr) (m : Str → Option Value) (s : Shared) (Q E : Value → Shared → Prop),
    Below A₀ base outer h₀ → Fr h₀ L s.heap m → (hd.heap_39 w.params).In h₀ → Top hd.view_39 LOOSE mean mg mb h₀ → cs.kind = .function → dp + d < recursionLimit → un + 40 * d < cLine →
    (∀ v h' tk, Ext s.heap h' → R s.heap h' v → Q v { s with heap := h', toks := tk }) →
    wpAny (model PySem.Challenge.rw_nz0281_01.row.toRowW.prog w) (ktrTop dp un gd cn cs L a ccd cl outer) (call (.ref f) vs) Q E s

theorem pc_ret {h₀ g h' : Heap} {L L' : Addr} {m m' : Str → Option Value} {news' : List (Addr × Obj)} {s : Shared} {tk : Nat} {v : Value} {Q E : Value → Shared → Prop} {R : Heap → Heap → Value → Prop}
    (hret : ∀ v h' tk, Ext s.heap h' → R s.heap h' v → Q v { s with heap := h', toks := tk }) (G : GSub s.heap g (([] : List (Addr × Obj)).map (·.1)))
    (F' : Fr g L' h' m') (N' : News g L' h' news') (r : (∀ p ∈ news', h'.get? p.1 = some p.2 ∧ s.heap.get? p.1 = none) → R s.heap h' v) :
    LeaveK h₀ L m g (fun r s' => match r with | .ok (.ret v) => Q v s' | .ok _ => False | .error e => E e s') v { s with heap := h', toks := tk } := by
  refine ⟨L', m', news', F', N', fun _ _ => hret v h' tk (fun b o e => F'.keep b o (G b o e (by simp))) (r fun p hp => ⟨(N' p hp).1, ?_⟩)⟩
  cases q : s.heap.get? p.1 with
  | none => rfl
  | some o => have := (N' p hp).2.2; rw [G _ _ q (by simp)] at this; cases this

theorem pc_end {g h' : Heap} {L' : Addr} {m' : Str → Option Value} {s : Shared} {tk : Nat} {v : Value} {Q : Value → Shared → Prop} {R : Heap → Heap → Value → Prop}
    (hret : ∀ v h' tk, Ext s.heap h' → R s.heap h' v → Q v { s with heap := h', toks := tk }) (G : GSub s.heap g (([] : List (Addr × Obj)).map (·.1)))
    (F' : Fr g L' h' m') (r : R s.heap h' v) : Q v { s with heap := h', toks := tk } :=
  hret v h' tk (fun b o e => F'.keep b o (G b o e (by simp))) r
theorem pc_new {g h' h : Heap} {L' : Addr} {news' : List (Addr × Obj)} {a : Addr} {o : Obj} (G : GSub h g (([] : List (Addr × Obj)).map (·.1))) (N' : News g L' h' news') (hm : (a, o) ∈ news') : h'.get? a = some o ∧ h.get? a = none := by
  refine ⟨(N' _ hm).1, ?_⟩
  cases q : h.get? a with
  | none => rfl
  | some o => have := (N' _ hm).2.2; rw [G _ _ q (by simp)] at this; cases this
theorem int_eq {a b : Int} {t : Tok} (h : a = b) : ∃ t', Value.int a t = .int b t' := ⟨t, by rw [h]⟩
theorem str_eq {a b : Str} {t : Tok} (h : a = b) : ∃ t', Value.str a t = .str b t' := ⟨t, by rw [h]⟩
theorem bytes_eq {a b : Array UInt8} {t : Tok} (h : a = b) : ∃ t', Value.bytes a t = .bytes b t' := ⟨t, by rw [h]⟩
theorem bool_eq {a b : Bool} (h : a = b) : Value.bool a = .bool b := by rw [h]
noncomputable abbrev tupO (vs : List Value) : Obj := { cls := .type "tuple", data := .seq vs.toArray }
noncomputable abbrev RInt (n : Int) (_ _ : Heap) (v : Value) : Prop := ∃ t, v = .int n t
noncomputable abbrev RStr (x : Str) (_ _ : Heap) (v : Value) : Prop := ∃ t, v = .str x t
noncomputable abbrev RBytes (x : Array UInt8) (_ _ : Heap) (v : Value) : Prop := ∃ t, v = .bytes x t
noncomputable abbrev RNone (_ _ : Heap) (v : Value) : Prop := v = .none
noncomputable abbrev RBool (b : Bool) (_ _ : Heap) (v : Value) : Prop := v = .bool b
/-- a new object -/
noncomputable def RNew (o : Obj) (h h' : Heap) (v : Value) : Prop := ∃ a, v = .ref a ∧ h'.get? a = some o ∧ h.get? a = none
theorem rnew_news {h₀ h h' : Heap} {L : Addr} {m : Str → Option Value} {news : List (Addr × Obj)} {o : Obj} {v : Value} (F : Fr h₀ L h m) (N : News h₀ L h' news) (r : RNew o h h' v) :
    ∃ a, v = .ref a ∧ News h₀ L h' ((a, o) :: news) := by
  obtain ⟨a, rfl, e, n⟩ := r
  refine ⟨a, rfl, fun p hp => ?_⟩
  rcases List.mem_cons.mp hp with rfl | hp
  · refine ⟨e, fun q => ?_, ?_⟩
    · obtain ⟨o', _, _, hL, _⟩ := F.ns
      have q' : a = L := q
      rw [q', hL] at n; cases n
    · cases q : h₀.get? a with
      | none => rfl
      | some o' => rw [F.keep _ _ q] at n; cases n
  · exact N p hp

theorem pc_use {w : World} {d : Nat} {f : Addr} {vs : List Value} {R : Heap → Heap → Value → Prop} {mean : ExcName → Option Value} {mg mb : Str → Option Value} {dp un : Nat} {gd : Option (List Code)} {cn : Str} {cs : Scope} {a : Addr} {ccd : Value} {cl : List (Str × Addr)} {outer : List Env} {A₀ : Around} {base h₀ : Heap} {L : Addr} {m : Str → Option Value} {news : List (Addr × Obj)} {s : Shared} {Q E : Value → Shared → Prop}
    (C : PC w d f vs R) (B : Below A₀ base outer h₀) (F : Fr h₀ L s.heap m) (X : (hd.heap_39 w.params).In h₀) (T : Top hd.view_39 LOOSE mean mg mb h₀) (hk : cs.kind = .function) (N : News h₀ L s.heap news)
    (hdp : dp + d < recursionLimit) (hun : un + 40 * d < cLine)
    (h : ∀ v h' tk, Ext s.heap h' → R s.heap h' v → Fr h₀ L h' m → News h₀ L h' news → Q v { s with heap := h', toks := tk }) :
    wpAny (model PySem.Challenge.rw_nz0281_01.row.toRowW.prog w) (ktrTop dp un gd cn cs L a ccd cl outer) (call (.ref f) vs) Q E s :=
  C mean mg mb dp un gd cn cs a ccd cl outer A₀ base h₀ L m s Q E B F X T hk hdp hun fun v h' tk e r => h v h' tk e r (F.keeps e) (N.grown e)

noncomputable def RNewX {α : Type} (P : α → Prop) (o : α → Obj) (h h' : Heap) (v : Value) : Prop := ∃ x, P x ∧ RNew (o x) h h' v
theorem rnewx {α : Type} {P : α → Prop} {o : α → Obj} {h h' : Heap} {a : Addr} (x : α) (p : P x) (q : h'.get? a = some (o x) ∧ h.get? a = none) : RNewX P o h h' (.ref a) := ⟨x, p, a, rfl, q⟩
theorem off1_of {h h₀ : Heap} {L a : Addr} (n : h.get? a = none) : ∀ {news : List (Addr × Obj)}, News h₀ L h news → LCg.Off1 a news
  | [], _ => trivial
  | p :: _, N => ⟨fun (e : p.1 = a) => (by have := (N p (.head _)).1; rw [e, n] at this; cases this), off1_of n fun q hq => N q (.tail _ hq)⟩

theorem pc_useN {w : World} {d : Nat} {f : Addr} {vs : List Value} {α : Type} {P : α → Prop} {o : α → Obj} {mean : ExcName → Option Value} {mg mb : Str → Option Value} {dp un : Nat} {gd : Option (List Code)} {cn : Str} {cs : Scope} {a : Addr} {ccd : Value} {cl : List (Str × Addr)} {outer : List Env} {A₀ : Around} {base h₀ : Heap} {L : Addr} {m : Str → Option Value} {news : List (Addr × Obj)} {s : Shared} {Q E : Value → Shared → Prop}
    (C : PC w d f vs (RNewX P o)) (B : Below A₀ base outer h₀) (F : Fr h₀ L s.heap m) (X : (hd.heap_39 w.params).In h₀) (T : Top hd.view_39 LOOSE mean mg mb h₀) (hk : cs.kind = .function) (N : News h₀ L s.heap news)
    (hdp : dp + d < recursionLimit) (hun : un + 40 * d < cLine)
    (h : ∀ x a h' tk, P x → Fr h₀ L h' m → News h₀ L h' ((a, o x) :: news) → LCg.Off1 a news → Q (.ref a) { s with heap := h', toks := tk }) :
    wpAny (model PySem.Challenge.rw_nz0281_01.row.toRowW.prog w) (ktrTop dp un gd cn cs L a ccd cl outer) (call (.ref f) vs) Q E s := by
  refine pc_use C B F X T hk N hdp hun ?_
  rintro v h' tk _ ⟨x, p, r⟩ F' N'
  obtain ⟨a', e, N''⟩ := rnew_news F N' r
  obtain ⟨a'', e', _, n⟩ := r
  subst e
  cases e'
  exact h x a' h' tk p F' N'' (off1_of n N)

section
variable {prog : Program} {w : World} {A₀ A : Around} {s : Shared} {base h₀ : Heap} {outer : List Env} {L : Addr} {m : Str → Option Value} {env : Env} {news : List (Addr × Obj)} {K : Frag}
/-- a def whose locals are captured, entered with what its ground keeps -/
theorem code_defGC {p : Program} {loose : List Str} {mean : ExcName → Option Value} {mg mb : Str → Option Value} {R : Result → Shared → Prop} {name qual : Str} {params : Arguments} {body : List Stmt} {scope : Scope} {dV kV doc pm cdv ct oc : Value} {an od : Option Addr} {osl : Array (Option Value)} {f : Addr} {args : Args} {binds : List (Str × Value)}
    (B : Below A₀ base outer h₀) (F : Fr h₀ L s.heap m) (X₀ : K.In h₀) (N : News h₀ L s.heap news) (T : Top p loose mean mg mb h₀) (hA : A.frames = some (env :: outer)) (hf : env.frame = some L) (hke : env.scope.kind = .function)
    (ho : K.lookup f = some ⟨oc, od, .func (fnOf name qual params body scope dV kV doc pm an cdv ct), osl⟩) (hcd : codeIn K cdv qual = true) (hroom : A.depth < recursionLimit)
    (hbind : BindsTo s (fnOf name qual params body scope dV kV doc pm an cdv ct) args binds) (hkind : (binds.all fun y => scope.names.lookup y.1 == some .local || scope.names.lookup y.1 == some .cell) = true)
    (hnd : ((cellsFrom 0 scope.names []).map (·.1)).Nodup)
    (h : ∀ g L' h₁ tk cells, Fr h₀ L g m → Fr g L' h₁ (bindL (envOfC qual scope L' f cdv).kindOf binds fun _ => none) → News g L' h₁ (cells ++ news) →
      CellsAre (bindC (envOfC qual scope L' f cdv).kindOf binds fun _ => none) (cellsFrom (L' + 1) scope.names []) cells → Below A base (env :: outer) g → K.In g → Top p loose mean mg mb g → (∀ p ∈ news, p.1 < L') → GSub s.heap g (news.map (·.1)) →
      wpAny (model prog w) (A.deeper (envOfC qual scope L' f cdv)) (execs body (envOfC qual scope L' f cdv))
        (fun fl s' => LeaveK h₀ L m g R (match fl with | .ret v => v | _ => .none) s')
        (fun e s' => wpAny (model prog w) (A.deeper (envOfC qual scope L' f cdv)) (leaving (envOfC qual scope L' f cdv) e) (fun _ s'' => R (.error e) s'') (fun e' s'' => R (.error e') s'') s')
        { s with heap := h₁, toks := tk })
    (hco : scope.isCoroutine = false) (hgen : scope.isGenerator = false) (hk : scope.kind = .function) : codeAny (model prog w) A (.call (.ref f) args) R s := by
  obtain ⟨FG, BG, st, lv⟩ := groundX (R := R) B F N hA hf hke
  have X := X₀.keeps F.keep
  refine codeAny_call_function hroom (X _ _ ho) rfl hco hgen rfl (codeRec_of X hcd) (hbind _ _ _ _ ?_)
  refine wpAny_newFunctionEnv_cells hk (kindsX hkind _) fun env' he s' x => ?_
  subst he
  refine ⟨(T.nolimit.keeps F.keep).keeps x.toInCall.keep, codeAny_func ?_⟩
  obtain ⟨h₁, tk, rfl, _⟩ := x.done
  have hk₁ := x.toInCall.keep
  obtain ⟨cells, NC, Y⟩ := Cl.news (h₀ := s.heap) (Nat.le_refl _) fun n c hm => ⟨x.cell n c (lookup_of_mem_nodup (cellsFrom_names scope.names 0 (s.heap.objs.size + 1) [] [] rfl ▸ hnd) hm), x.above n c hm⟩
  have NN : News (hideAll s.heap (news.map (·.1))) s.heap.objs.size h₁ (cells ++ news) := fun p hp => by
    rcases List.mem_append.mp hp with hp | hp
    · refine ⟨(NC p hp).1, (NC p hp).2.1, ?_⟩
      cases q : (hideAll s.heap (news.map (·.1))).get? p.1 with
      | none => rfl
      | some o => have := of_hideAll _ q; rw [(NC p hp).2.2] at this; cases this
    · exact ⟨hk₁ _ _ (N p hp).1, Nat.ne_of_lt (Heap.lt_size (N p hp).1), hideAll_none _ (List.mem_map_of_mem hp)⟩
  have FF : Fr (hideAll s.heap (news.map (·.1))) s.heap.objs.size h₁ _ := ⟨x.toInCall.ns, fun b o e => hk₁ b o (of_hideAll _ e), Nat.le_of_eq (hideAll_size _ _)⟩
  exact wpAny_mono (h _ s.heap.objs.size h₁ tk cells FG FF NN Y BG (X₀.keeps st) (T.keeps st) (fun p hp => Heap.lt_size (N p hp).1) (fun b o e n => hideAll_get _ e n)) (fun fl s' hl => lv _ _ hl) fun _ _ y => y
end


local macro_rules | `(tactic| walk_at "pc enter") => `(tactic| k_extra "x1")
theorem xt1 : True := by
  k_with "x1" => ((refine wpAny_call ?_; first   | (refine' code_defG (news := []) ?k1x1 ?k2x1 ?k3x1 News.nil ?k5x1 ?kAx1 ?kFx1 ?kKx1 ?k6x1 ?k7x1 ?k8x1 ?k9x1 ?kBx1 ?_ ?c2x1 ?c3x1 ?c4x1 ?c5x1; (case kAx1 => exact rfl); (case kFx1 => exact rfl); (case kKx1 => assumption); (case k1x1 => k_asm); (case k2x1 => k_asm); (case k3x1 => k_asm); (case k5x1 => k_asm); (case k6x1 => k_is); (case k7x1 => k_is); (case k8x1 => ktr_room); (case k9x1 => exact BindsTo.of_eq rfl); (case c5x1 => decide); (case kBx1 => exact locs rfl); (case c2x1 => exact rfl); (case c3x1 => exact rfl); (case c4x1 => exact rfl); k_whole; intro gpq7 Lpq7 hpq7 FGpq7 Fpq7 Npq7 Bpq7 Xpq7 Tpq7 kGpq7; (try dsimp only); (try k_fold))   | (refine' code_defGC (news := []) ?k1x1 ?k2x1 ?k3x1 News.nil ?k5x1 ?kAx1 ?kFx1 ?kKx1 ?k6x1 ?k7x1 ?k8x1 ?k9x1 ?kBx1 ?kDx1 ?_ ?c2x1 ?c3x1 ?c4x1; (case kAx1 => exact rfl); (case kFx1 => exact rfl); (case kKx1 => assumption); (case k1x1 => k_asm); (case k2x1 => k_asm); (case k3x1 => k_asm); (case k5x1 => k_asm); (case k6x1 => k_is); (case k7x1 => k_is); (case k8x1 => ktr_room); (case k9x1 => exact BindsTo.of_eq rfl); (case kBx1 => exact rfl); (case kDx1 => decide +kernel); (case c2x1 => exact rfl); (case c3x1 => exact rfl); (case c4x1 => exact rfl); k_whole; intro gpq7 Lpq7 hpq7 tkpq7 cellspq7 FGpq7 Fpq7 Npq7 Ypq7 Bpq7 Xpq7 Tpq7 l1q7 kGpq7; clear l1q7; k_cells Ypq7; (try simp only [List.cons_append, List.nil_append] at Npq7); (try dsimp only); (try k_fold))))
  trivial
-- a call by its contract
local macro_rules | `(tactic| cell_ask $C) => `(tactic| first | (k_here; k_dflt (refine' pc_useN $C ?k1 ?k2 ?k3 ?k4 ?kK ?k5 ?kd ?ku ?_; (case k1 => k_asm); (case k2 => k_asm); (case k3 => k_asm); (case k4 => k_asm); (case kK => first | exact rfl | assumption); (case k5 => k_asm); (case kd => ktr_room); (case ku => ktr_units)); intro x9' a9' h9' tk9' P9' F9' N9' o9'; (try dsimp only at N9'); (try simp only [LCg.Off1, and_true] at o9'); (try k_sweep); (try dsimp only)) | (k_here; k_dflt (refine' pc_use $C ?k1 ?k2 ?k3 ?k4 ?kK ?k5 ?kd ?ku ?_; (case k1 => k_asm); (case k2 => k_asm); (case k3 => k_asm); (case k4 => k_asm); (case kK => first | exact rfl | assumption); (case k5 => k_asm); (case kd => ktr_room); (case ku => ktr_units)); intro v9' h9' tk9' Ex9' R9' F9' N9'; clear Ex9'; first | (obtain ⟨t9', e9'⟩ := R9'; subst e9') | (have e9' := R9'; clear R9'; subst e9'); (try k_sweep); (try dsimp only)))

/-! comprehensions over any source -/
section
variable {prog : Program} {w : World} {A : Around} {E : Value → Shared → Prop} {s : Shared} {h₀ : Heap} {L : Addr} {m : Str → Option Value} {env : Env}

/-- where `iter` is called on `xv` an iterator over n items P comes to stand at the heap's end -/
noncomputable def SrcG (prog : Program) (w : World) (A : Around) (h₀ : Heap) (L : Addr) (xv : Value) (n : Nat) (P : Nat → Value → Prop) (S : List (Addr × Obj) → Prop) (s₁ : Shared) : Prop :=
  ∀ (Q E : Value → Shared → Prop), (∀ (o : Obj) (fp : List Addr) (St : Nat → Heap → Prop),
      Walks prog w A s₁.heap.objs.size fp [s₁.heap.objs.size] n P St → (∀ i h, St i h → ∃ o, h.get? s₁.heap.objs.size = some o) →
      (∀ i h h' o nw, St i h → h.get? s₁.heap.objs.size = some o → h'.get? s₁.heap.objs.size = some o → (∀ b o, h₀.get? b = some o → h'.get? b = some o) → News h₀ L h' nw → S nw → St i h') →
      St 0 (s₁.heap.push o) → (∀ b ∈ fp, b ≤ s₁.heap.objs.size) → Q (.ref s₁.heap.objs.size) { s₁ with heap := s₁.heap.push o }) →
    wpAny (model prog w) A (pyIter xv) Q E s₁

theorem SrcG.tuple {ax : Addr} {its : List Value} {k : Nat} {news : List (Addr × Obj)} {s₁ : Shared} (hh : A.handled = none) (N : News h₀ L s₁.heap news)
    (hm : (ax, ({ cls := .type "tuple", data := .seq its.toArray k } : Obj)) ∈ news) :
    SrcG prog w A h₀ L (.ref ax) its.length (fun i v => its.toArray[i]? = some v) (fun nw => (ax, ({ cls := .type "tuple", data := .seq its.toArray k } : Obj)) ∈ nw) s₁ := by
  intro Q E h
  have ht : s₁.heap.IsTuple ax its.toArray := ⟨_, N.get hm, rfl, k, rfl⟩
  have hlt : ax < s₁.heap.objs.size := Heap.lt_size (N.get hm)
  refine wpAny_pyIter_tuple ht (h _ [s₁.heap.objs.size, ax] (fun i h => h.IsTupleIter s₁.heap.objs.size ax i ∧ h.IsTuple ax its.toArray) ?_ (fun i h st => let ⟨o, e, _⟩ := st.1; ⟨o, e⟩) ?_ ⟨⟨_, Heap.get?_push_size _ rfl, rfl, rfl⟩, ?_⟩ ?_)
  · have W := Walks.tuple (prog := prog) (w := w) hh s₁.heap.objs.size ax (Nat.ne_of_lt hlt) its.toArray
    simpa using W
  · intro i h h' o nw st e e' _ N' hm'
    refine ⟨?_, ⟨_, N'.get hm', rfl, k, rfl⟩⟩
    obtain ⟨o', q, r⟩ := st.1
    rw [e] at q; cases q
    exact ⟨o, e', r⟩
  · exact ⟨_, Heap.get?_push_of_some _ (N.get hm), rfl, k, rfl⟩
  · intro b hb
    rcases List.mem_cons.mp hb with rfl | hb
    · exact Nat.le_refl _
    · rw [List.mem_singleton.mp hb]; exact Nat.le_of_lt hlt

theorem SrcG.list {ax : Addr} {its : List Value} {k : Nat} {news : List (Addr × Obj)} {s₁ : Shared} (hh : A.handled = none) (N : News h₀ L s₁.heap news)
    (hm : (ax, ({ cls := .type "list", data := .seq its.toArray k } : Obj)) ∈ news) :
    SrcG prog w A h₀ L (.ref ax) its.length (fun i v => its.toArray[i]? = some v) (fun nw => (ax, ({ cls := .type "list", data := .seq its.toArray k } : Obj)) ∈ nw) s₁ := by
  intro Q E h
  have ht : s₁.heap.IsList ax its.toArray := ⟨_, N.get hm, rfl, k, rfl⟩
  have hlt : ax < s₁.heap.objs.size := Heap.lt_size (N.get hm)
  refine wpAny_pyIter_list ht (h _ [s₁.heap.objs.size, ax] (fun i h => h.IsListIter s₁.heap.objs.size ax i ∧ h.IsList ax its.toArray) ?_ (fun i h st => let ⟨o, e, _⟩ := st.1; ⟨o, e⟩) ?_ ⟨⟨_, Heap.get?_push_size _ rfl, rfl, rfl⟩, ?_⟩ ?_)
  · have W := Walks.list (prog := prog) (w := w) hh s₁.heap.objs.size ax (Nat.ne_of_lt hlt) its.toArray
    simpa using W
  · intro i h h' o nw st e e' _ N' hm'
    refine ⟨?_, ⟨_, N'.get hm', rfl, k, rfl⟩⟩
    obtain ⟨o', q, r⟩ := st.1
    rw [e] at q; cases q
    exact ⟨o, e', r⟩
  · exact ⟨_, Heap.get?_push_of_some _ (N.get hm), rfl, k, rfl⟩
  · intro b hb
    rcases List.mem_cons.mp hb with rfl | hb
    · exact Nat.le_refl _
    · rw [List.mem_singleton.mp hb]; exact Nat.le_of_lt hlt

theorem SrcG.range {r : Addr} {a b : Int} {t u v : Tok} {n : Nat} {s₁ : Shared} (hh : A.handled = none) (hr : IsRange s₁.heap r a b 1 t u v) (hsm : Builtin.Range.small a b 1 = true) (hn : Builtin.Range.rangeSize a b 1 = ((n : Nat) : Int)) :
    SrcG prog w A h₀ L (.ref r) n (fun i v => ∃ t, v = .int (a + (i : Int)) t) (fun _ => True) s₁ := by
  intro Q E h
  refine wpAny_pyIter_range hr hsm (h _ [s₁.heap.objs.size] _ (LCg.range_walks hh a n) (fun i h st => ⟨_, st⟩) LCg.range_st (by show IsRangeIter _ _ _ _ _; rw [hn]; simpa using Heap.get?_push_size _ rfl) (fun b hb => by rw [List.mem_singleton.mp hb]; exact Nat.le_refl _))

theorem SrcG.str {x : Str} {t : Tok} {s₁ : Shared} (hh : A.handled = none) : SrcG prog w A h₀ L (.str x t) x.cps.size (SignAt x) (fun _ => True) s₁ := by
  intro Q E h
  cases ha : x.cps.all (· < 128)
  · refine wpAny_pyIter_wide ha (h _ [s₁.heap.objs.size] _ (Walks.strWide hh _ x t) (fun i h st => let ⟨o, e, _⟩ := st; ⟨o, e⟩) ?_ ⟨_, Heap.get?_push_size _ rfl, rfl, rfl⟩ (fun b hb => by rw [List.mem_singleton.mp hb]; exact Nat.le_refl _))
    intro i h h' o nw st e e' _ _ _
    obtain ⟨o', q, r⟩ := st
    rw [e] at q; cases q
    exact ⟨o, e', r⟩
  · refine wpAny_pyIter_ascii ha (h _ [s₁.heap.objs.size] _ (Walks.strAscii hh _ x t) (fun i h st => let ⟨o, e, _⟩ := st; ⟨o, e⟩) ?_ ⟨_, Heap.get?_push_size _ rfl, rfl, rfl⟩ (fun b hb => by rw [List.mem_singleton.mp hb]; exact Nat.le_refl _))
    intro i h h' o nw st e e' _ _ _
    obtain ⟨o', q, r⟩ := st
    rw [e] at q; cases q
    exact ⟨o, e', r⟩

/-- what is asked of the source of a comprehension with one test -/
noncomputable def CSrcT (prog : Program) (w : World) (A : Around) (h₀ : Heap) (L : Addr) (m : Str → Option Value) (env : Env) (ct elt : Expr) (x : Str) (scope : Scope) (cl : List (Str × Addr)) (Fin : Shared → List Value → List (Addr × Obj) → Prop) (xv : Value) (s₁ : Shared) : Prop :=
  ∃ (n : Nat) (P : Nat → Value → Prop) (S : List (Addr × Obj) → Prop) (news : List (Addr × Obj)), Fr h₀ L s₁.heap m ∧ News h₀ L s₁.heap news ∧ S news ∧ n ≤ sizeLine ∧ SrcG prog w A h₀ L xv n P S s₁ ∧
    ∀ g, LCt.CompRestT prog w A h₀ L m env ct elt x scope cl { s₁ with heap := g } S P (Fin { s₁ with heap := g }) n 0 [] news
noncomputable def CSrcU (prog : Program) (w : World) (A : Around) (h₀ : Heap) (L : Addr) (m : Str → Option Value) (env : Env) (elt : Expr) (x : Str) (scope : Scope) (cl : List (Str × Addr)) (Fin : Shared → List Value → List (Addr × Obj) → Prop) (xv : Value) (s₁ : Shared) : Prop :=
  ∃ (n : Nat) (P : Nat → Value → Prop) (S : List (Addr × Obj) → Prop) (news : List (Addr × Obj)), Fr h₀ L s₁.heap m ∧ News h₀ L s₁.heap news ∧ S news ∧ n ≤ sizeLine ∧ SrcG prog w A h₀ L xv n P S s₁ ∧
    ∀ g, LCg.CompRest prog w A h₀ L m env elt x scope cl { s₁ with heap := g } S P (Fin { s₁ with heap := g }) n 0 [] news

theorem lcT {ct elt iter : Expr} {x : Str} {px : Pos} {scope : Scope} {cl : List (Str × Addr)} {pos : Pos} {Q : Value → Shared → Prop} (_F₀ : Fr h₀ L s.heap m)
    (hclos : closureFor scope env = pure cl) (hcell : ∀ y ∈ scope.names, y.2 ≠ .cell) (hkind : scope.kind = .function)
    (hnames : ∀ y ∈ scope.names, y.2 = .local → scope.names.lookup y.1 = some .local) (hx : scope.names.lookup x = some .local)
    (h : wpAny (model prog w) A (eval iter env) (CSrcT prog w A h₀ L m env ct elt x scope cl (fun s₂ => LCg.FinE h₀ L m s₂ Q)) E s)
    (hs : ∀ x, foldedSetIterable iter env x = pure x := by intro _; rfl) :
    wpAny (model prog w) A (eval (.ListComp elt [⟨.Name x px, iter, [ct], 0⟩] scope pos) env) Q E s := by
  rw [eval_ListComp]
  refine wpAny_comprehension_free (use := none) rfl hs hclos hkind hnames (wpAny_mono h (fun xv s₁ h₁ => ?_) fun _ _ e => e)
  obtain ⟨n, P, S, news, F, N, hS, hsz, src, R⟩ := h₁
  refine src _ _ fun o fp St W hIo hSt hst hfp => ?_
  have up : ∀ b o', s₁.heap.get? b = some o' → (s₁.heap.push o).get? b = some o' := fun b o' e => Heap.get?_push_of_some _ e
  refine LCt.block_T W hsz hIo hSt hcell hkind hx hst (fun b hb => ?_) (F.keeps up) (N.grown up) (Nat.ne_of_lt F.ns.lt) (next_is_new F) (fun p hp => Nat.ne_of_lt (Heap.lt_size (N p hp).1)) hS (R _) ?_
  · show b < (s₁.heap.push _).objs.size
    rw [Heap.size_push]
    exact Nat.lt_succ_of_le (hfp b hb)
  · intro D C h tk m' ys news' F' N' o1 hn hC₀ hD₀ hCL hDL hCD offC fin
    refine ⟨m', hn, fun h'' hs'' => fin D h'' tk (F'.change hs'' hCL hC₀) (fun p hp => ?_) o1⟩
    refine ⟨hs''.extBut _ _ ?_ (N' p hp).1, (N' p hp).2⟩
    rcases List.mem_cons.mp hp with rfl | hp
    · exact Ne.symm hCD
    · exact offC p hp

theorem lcU {elt iter : Expr} {x : Str} {px : Pos} {scope : Scope} {cl : List (Str × Addr)} {pos : Pos} {Q : Value → Shared → Prop} (_F₀ : Fr h₀ L s.heap m)
    (hclos : closureFor scope env = pure cl) (hcell : ∀ y ∈ scope.names, y.2 ≠ .cell) (hkind : scope.kind = .function)
    (hnames : ∀ y ∈ scope.names, y.2 = .local → scope.names.lookup y.1 = some .local) (hx : scope.names.lookup x = some .local)
    (h : wpAny (model prog w) A (eval iter env) (CSrcU prog w A h₀ L m env elt x scope cl (fun s₂ => LCg.FinE h₀ L m s₂ Q)) E s)
    (hs : ∀ x, foldedSetIterable iter env x = pure x := by intro _; rfl) :
    wpAny (model prog w) A (eval (.ListComp elt [⟨.Name x px, iter, [], 0⟩] scope pos) env) Q E s := by
  rw [eval_ListComp]
  refine wpAny_comprehension_free (use := none) rfl hs hclos hkind hnames (wpAny_mono h (fun xv s₁ h₁ => ?_) fun _ _ e => e)
  obtain ⟨n, P, S, news, F, N, hS, hsz, src, R⟩ := h₁
  refine src _ _ fun o fp St W hIo hSt hst hfp => ?_
  have up : ∀ b o', s₁.heap.get? b = some o' → (s₁.heap.push o).get? b = some o' := fun b o' e => Heap.get?_push_of_some _ e
  refine LCg.block_U W hsz hIo hSt hcell hkind hx hst (fun b hb => ?_) (F.keeps up) (N.grown up) (Nat.ne_of_lt F.ns.lt) (next_is_new F) (fun p hp => Nat.ne_of_lt (Heap.lt_size (N p hp).1)) hS (R _) ?_
  · show b < (s₁.heap.push _).objs.size
    rw [Heap.size_push]
    exact Nat.lt_succ_of_le (hfp b hb)
  · intro D C h tk m' ys news' F' N' o1 hn hC₀ hD₀ hCL hDL hCD offC fin
    refine ⟨m', hn, fun h'' hs'' => fin D h'' tk (F'.change hs'' hCL hC₀) (fun p hp => ?_) o1⟩
    refine ⟨hs''.extBut _ _ ?_ (N' p hp).1, (N' p hp).2⟩
    rcases List.mem_cons.mp hp with rfl | hp
    · exact Ne.symm hCD
    · exact offC p hp

/-- the turns of a comprehension by what stands between them -/
theorem cr_ind {elt : Expr} {x : Str} {scope : Scope} {cl : List (Str × Addr)} {S : List (Addr × Obj) → Prop} {P : Nat → Value → Prop} {Fin : List Value → List (Addr × Obj) → Prop} {n : Nat} {news : List (Addr × Obj)} (J : Nat → List Value → List (Addr × Obj) → Prop)
    (h0 : J 0 [] news)
    (turn : ∀ i v I oI C oC D m₂ ys nw h tk (E' : Value → Shared → Prop), i < n → P i v → J i ys nw → LCg.NsObj oC m₂ → m₂ x = some v → Fr h₀ L h m → News h₀ L h ((I, oI) :: (C, oC) :: (D, LCg.lst ys) :: nw) → LCg.Off3 I C D nw → ((@Ne Nat I C) ∧ (@Ne Nat I D) ∧ (@Ne Nat C D)) →
      wpAny (model prog w) A (eval elt (compEnvC scope cl C env)) (LCg.CompEnd h₀ L m { s with heap := h, toks := tk } I oI C oC D (LCg.lst ys) S (fun y news' => J (i + 1) (ys ++ [y]) news')) E' { s with heap := h, toks := tk })
    (fin : ∀ ys nw, J n ys nw → Fin ys nw) : LCg.CompRest prog w A h₀ L m env elt x scope cl s S P Fin n 0 [] news := by
  have key : ∀ (j i : Nat) (ys : List Value) (nw : List (Addr × Obj)), i + j = n → J i ys nw → LCg.CompRest prog w A h₀ L m env elt x scope cl s S P Fin j i ys nw := by
    intro j
    induction j with
    | zero =>
      intro i ys nw hi hJ
      obtain rfl : i = n := by omega
      exact LCg.CompRest.zero (fin ys nw hJ)
    | succ j ih =>
      intro i ys nw hi hJ
      refine LCg.CompRest.succ ?_
      intro v I oI C oC D m₂ h tk E' hv hC hx F N off ne
      refine wpAny_mono (turn i v I oI C oC D m₂ ys nw h tk E' (by omega) hv hJ hC hx F N off ne) (fun y s₂ hq => ?_) fun _ _ e => e
      obtain ⟨h', tk', nw', e, F', N', off', hS, hJ'⟩ := hq
      exact ⟨h', tk', nw', e, F', N', off', hS, ih (i + 1) _ nw' (by omega) hJ'⟩
  exact key n 0 [] news (by omega) h0

theorem crT_ind {ct elt : Expr} {x : Str} {scope : Scope} {cl : List (Str × Addr)} {S : List (Addr × Obj) → Prop} {P : Nat → Value → Prop} {Fin : List Value → List (Addr × Obj) → Prop} {n : Nat} {news : List (Addr × Obj)} (J : Nat → List Value → List (Addr × Obj) → Prop)
    (h0 : J 0 [] news)
    (turn : ∀ i v I oI C oC D m₂ ys nw h tk (E' : Value → Shared → Prop), i < n → P i v → J i ys nw → LCg.NsObj oC m₂ → m₂ x = some v → Fr h₀ L h m → News h₀ L h ((I, oI) :: (C, oC) :: (D, LCg.lst ys) :: nw) → LCg.Off3 I C D nw → ((@Ne Nat I C) ∧ (@Ne Nat I D) ∧ (@Ne Nat C D)) →
      wpAny (model prog w) A (isTrue ct (compEnvC scope cl C env) (eval ct (compEnvC scope cl C env))) (fun ok s' => if ok = true then
        wpAny (model prog w) A (eval elt (compEnvC scope cl C env)) (LCg.CompEnd h₀ L m { s with heap := h, toks := tk } I oI C oC D (LCg.lst ys) S (fun y news' => J (i + 1) (ys ++ [y]) news')) E' s'
        else LCg.CompEnd h₀ L m { s with heap := h, toks := tk } I oI C oC D (LCg.lst ys) S (fun _ news' => J (i + 1) ys news') Value.none s') E' { s with heap := h, toks := tk })
    (fin : ∀ ys nw, J n ys nw → Fin ys nw) : LCt.CompRestT prog w A h₀ L m env ct elt x scope cl s S P Fin n 0 [] news := by
  have key : ∀ (j i : Nat) (ys : List Value) (nw : List (Addr × Obj)), i + j = n → J i ys nw → LCt.CompRestT prog w A h₀ L m env ct elt x scope cl s S P Fin j i ys nw := by
    intro j
    induction j with
    | zero =>
      intro i ys nw hi hJ
      obtain rfl : i = n := by omega
      exact LCt.CompRestT.zero (fin ys nw hJ)
    | succ j ih =>
      intro i ys nw hi hJ
      refine LCt.CompRestT.succ ?_
      intro v I oI C oC D m₂ h tk E' hv hC hx F N off ne
      refine wpAny_mono (turn i v I oI C oC D m₂ ys nw h tk E' (by omega) hv hJ hC hx F N off ne) (fun ok s₂ hq => ?_) fun _ _ e => e
      cases ok with
      | true =>
        simp only [if_true] at hq ⊢
        refine wpAny_mono hq (fun y s₃ hq => ?_) fun _ _ e => e
        obtain ⟨h', tk', nw', e, F', N', off', hS, hJ'⟩ := hq
        exact ⟨h', tk', nw', e, F', N', off', hS, ih (i + 1) _ nw' (by omega) hJ'⟩
      | false =>
        simp only [Bool.false_eq_true, if_false] at hq ⊢
        obtain ⟨h', tk', nw', e, F', N', off', hS, hJ'⟩ := hq
        exact ⟨h', tk', nw', e, F', N', off', hS, ih (i + 1) _ nw' (by omega) hJ'⟩
  exact key n 0 [] news (by omega) h0
end


noncomputable def u8len (c : Int) : Int := if (55296 ≤ c ∧ c ≤ 57343) ∨ ¬ (0 ≤ c ∧ c ≤ 1114111) then 0 else if c ≤ 127 then 1 else if c ≤ 2047 then 2 else if c ≤ 65535 then 3 else 4
noncomputable def lawSize (c : Int) : Int := if c < 128 then 1 else if c < 2048 then 2 else if c < 65536 then 3 else 4
noncomputable abbrev sA : Str := Str.ofString "us-ascii"
noncomputable abbrev sL : Str := Str.ofString "iso-8859-1"
noncomputable abbrev sU : Str := Str.ofString "utf-8"
noncomputable def IsCs (x : Str) : Prop := x = sA ∨ x = sL ∨ x = sU

theorem u8_0a {c : Int} (a : 55296 ≤ c) (b : c ≤ 57343) : 0 = u8len c := (if_pos (.inl ⟨a, b⟩)).symm
theorem u8_0b {c : Int} (a : ¬ 0 ≤ c) : 0 = u8len c := (if_pos (.inr fun h => a h.1)).symm
theorem u8_0c {c : Int} (a : ¬ c ≤ 1114111) : 0 = u8len c := (if_pos (.inr fun h => a h.2)).symm
theorem u8_in {c : Int} (a : ¬ (55296 ≤ c ∧ c ≤ 57343)) (b : 0 ≤ c) (d : c ≤ 1114111) : u8len c = if c ≤ 127 then 1 else if c ≤ 2047 then 2 else if c ≤ 65535 then 3 else 4 := if_neg fun h => h.elim a fun h => h ⟨b, d⟩
theorem u8_1 {c : Int} (b : 0 ≤ c) (d : c ≤ 127) : 1 = u8len c := by rw [u8_in (by omega) b (by omega), if_pos d]
theorem u8_2 {c : Int} (b : ¬ c ≤ 127) (d : c ≤ 2047) : 2 = u8len c := by rw [u8_in (by omega) (by omega) (by omega), if_neg b, if_pos d]
theorem u8_3 {c : Int} (a : ¬ (55296 ≤ c ∧ c ≤ 57343)) (b : ¬ c ≤ 2047) (d : c ≤ 65535) : 3 = u8len c := by rw [u8_in a (by omega) (by omega), if_neg (by omega), if_neg b, if_pos d]
theorem u8_4 {c : Int} (b : ¬ c ≤ 65535) (d : c ≤ 1114111) : 4 = u8len c := by rw [u8_in (by omega) (by omega) d, if_neg (by omega), if_neg (by omega), if_neg b]
section
local macro_rules | `(tactic| walk_at "eval ListComp") => `(tactic| k_extra "x2")
local macro_rules | `(tactic| walk_at "CSrcT") => `(tactic| k_extra "x3")
local macro_rules | `(tactic| lcg_src) => `(tactic| k_mem)

theorem xt3 : True := by
  k_with "x2" => ((k_here; k_dflt (refine lcT (by k_asm) (by with_unfolding_all rfl) (by decide) (by rfl) (by decide) (by rfl) ?_)))
  k_with "x3" => ((k_here; k_dflt (refine ⟨_, _, _, _, by k_asm, by k_asm, ?_, ?_, SrcG.tuple (by rfl) (by k_asm) (by k_mem), fun g => ?_⟩; (k_mem); (exact Nat.le_of_ble_eq_true rfl))))
  trivial
theorem c_utf8_length (w : World) (c : Int) (t : Tok) : PC w 2 74 [.int c t] (RInt (u8len c)) := by
  unfold PC
  k_fill
  w_top off
  intro mean mg mb dp un gd cn cs a ccd cl outer A₀ base h₀ L m s Q E B F X T hk hd hu hret
  k_dflt (walk_at "pc enter")
  k_steps
  all_goals (refine pc_end hret (by assumption) (by assumption) (int_eq ?_); first | exact u8_0a (by assumption) (by assumption) | exact u8_0b (by assumption) | exact u8_0c (by assumption) | exact u8_1 (by assumption) (by omega) | exact u8_2 (by omega) (by omega) | exact u8_3 (by omega) (by omega) (by omega) | exact u8_4 (by omega) (by assumption))
end
local macro_rules | `(tactic| walk_at "call ref cons") => `(tactic| cell_ask (c_utf8_length _ _ _))

section
local macro_rules | `(tactic| walk_at "compareOp NotIn str ref") => `(tactic| k_extra "x4")
theorem xt4 : True := by
  k_with "x4" => ((k_here; k_dflt (refine' notin_tuple_strs ?k1x4a ?k2x4a ?_; (case k1x4a => exact tupK (Frag.In.keeps (by k_asm) (Fr.keep (by k_asm))) (by k_is)); (case k2x4a => kde_strs); k_whole)))
  k_with "x4" => ((k_here; k_dflt (refine' notin_tuple_strs ?k1x4b ?k2x4b ?_; (case k1x4b => exact tupK (Frag.In.keeps (by k_asm) (Fr.keep (by k_asm))) (by k_is)); (case k2x4b => kde_strs); k_whole)))
  k_with "x4" => ((k_here; k_dflt (refine' notin_tuple_strs ?k1x4c ?k2x4c ?_; (case k1x4c => exact tupK (Frag.In.keeps (by k_asm) (Fr.keep (by k_asm))) (by k_is)); (case k2x4c => kde_strs); k_whole)))
  k_with "x4" => ((k_here; k_dflt (refine' notin_tuple_strs ?k1x4d ?k2x4d ?_; (case k1x4d => exact tupK (Frag.In.keeps (by k_asm) (Fr.keep (by k_asm))) (by k_is)); (case k2x4d => kde_strs); k_whole)))
  k_with "x4" => ((k_here; k_dflt (refine' notin_tuple_strs ?k1x4e ?k2x4e ?_; (case k1x4e => exact tupK (Frag.In.keeps (by k_asm) (Fr.keep (by k_asm))) (by k_is)); (case k2x4e => kde_strs); k_whole)))
  k_with "x4" => ((k_here; k_dflt (refine' notin_tuple_strs ?k1x4f ?k2x4f ?_; (case k1x4f => exact tupK (Frag.In.keeps (by k_asm) (Fr.keep (by k_asm))) (by k_is)); (case k2x4f => kde_strs); k_whole)))
  k_with "x4" => ((k_here; k_dflt (refine' notin_tuple_strs ?k1x4g ?k2x4g ?_; (case k1x4g => exact tupK (Frag.In.keeps (by k_asm) (Fr.keep (by k_asm))) (by k_is)); (case k2x4g => kde_strs); k_whole)))
  k_with "x4" => ((k_here; k_dflt (refine' notin_tuple_strs ?k1x4h ?k2x4h ?_; (case k1x4h => exact tupK (Frag.In.keeps (by k_asm) (Fr.keep (by k_asm))) (by k_is)); (case k2x4h => kde_strs); k_whole)))
  k_with "x4" => ((k_here; k_dflt (refine' notin_tuple_strs ?k1x4i ?k2x4i ?_; (case k1x4i => exact tupK (Frag.In.keeps (by k_asm) (Fr.keep (by k_asm))) (by k_is)); (case k2x4i => kde_strs); k_whole)))
  k_with "x4" => ((k_here; k_dflt (refine' notin_tuple_strs ?k1x4j ?k2x4j ?_; (case k1x4j => exact tupK (Frag.In.keeps (by k_asm) (Fr.keep (by k_asm))) (by k_is)); (case k2x4j => kde_strs); k_whole)))
  k_with "x4" => ((k_here; k_dflt (refine' notin_tuple_strs ?k1x4k ?k2x4k ?_; (case k1x4k => exact tupK (Frag.In.keeps (by k_asm) (Fr.keep (by k_asm))) (by k_is)); (case k2x4k => kde_strs); k_whole)))
  k_with "x4" => ((k_here; k_dflt (refine' notin_tuple_strs ?k1x4l ?k2x4l ?_; (case k1x4l => exact tupK (Frag.In.keeps (by k_asm) (Fr.keep (by k_asm))) (by k_is)); (case k2x4l => kde_strs); k_whole)))
  k_with "x4" => ((k_here; k_dflt (refine' notin_tuple_strs ?k1x4m ?k2x4m ?_; (case k1x4m => exact tupK (Frag.In.keeps (by k_asm) (Fr.keep (by k_asm))) (by k_is)); (case k2x4m => kde_strs); k_whole)))
  k_with "x4" => ((k_here; k_dflt (refine' notin_tuple_strs ?k1x4n ?k2x4n ?_; (case k1x4n => exact tupK (Frag.In.keeps (by k_asm) (Fr.keep (by k_asm))) (by k_is)); (case k2x4n => kde_strs); k_whole)))
  k_with "x4" => ((k_here; k_dflt (refine' notin_tuple_strs ?k1x4o ?k2x4o ?_; (case k1x4o => exact tupK (Frag.In.keeps (by k_asm) (Fr.keep (by k_asm))) (by k_is)); (case k2x4o => kde_strs); k_whole)))
  k_with "x4" => ((k_here; k_dflt (refine' notin_tuple_strs ?k1x4p ?k2x4p ?_; (case k1x4p => exact tupK (Frag.In.keeps (by k_asm) (Fr.keep (by k_asm))) (by k_is)); (case k2x4p => kde_strs); k_whole)))
  trivial
local macro_rules | `(tactic| walk_at "void 1") => `(tactic| fail)
theorem c_need_charset (w : World) (x : Str) (t : Tok) (hx : IsCs x) : PC w 2 69 [.str x t] RNone := by
  rcases hx with rfl | rfl | rfl
  all_goals (
    unfold PC
    k_fill
    w_top off
    intro mean mg mb dp un gd cn cs a ccd cl outer A₀ base h₀ L m s Q E B F X T hk hd hu hret
    k_dflt (walk_at "pc enter")
    k_steps)
  all_goals exact pc_end hret (by assumption) (by assumption) rfl
end
local macro_rules | `(tactic| walk_at "call ref cons") => `(tactic| k_extra "calls")

theorem xt5 : True := by
  k_with "calls" => (cell_ask (c_need_charset _ _ _ (by assumption)))
  trivial
theorem ls_1 {c : Int} (a : c < 128) : 1 = lawSize c := (if_pos a).symm
theorem ls_2 {c : Int} (a : ¬ c < 128) (b : c < 2048) : 2 = lawSize c := by unfold lawSize; rw [if_neg a, if_pos b]
theorem ls_3 {c : Int} (a : ¬ c < 2048) (b : c < 65536) : 3 = lawSize c := by unfold lawSize; rw [if_neg (by omega), if_neg a, if_pos b]
theorem ls_4 {c : Int} (a : ¬ c < 65536) : 4 = lawSize c := by unfold lawSize; rw [if_neg (by omega), if_neg (by omega), if_neg a]
theorem c_law_size (w : World) (c : Int) (t : Tok) : PC w 2 168 [.int c t] (RInt (lawSize c)) := by
  unfold PC
  k_fill
  w_top off
  intro mean mg mb dp un gd cn cs a ccd cl outer A₀ base h₀ L m s Q E B F X T hk hd hu hret
  k_dflt (walk_at "pc enter")
  k_steps
  all_goals (refine pc_end hret (by assumption) (by assumption) (int_eq ?_); first | exact ls_1 (by assumption) | exact ls_2 (by assumption) (by assumption) | exact ls_3 (by assumption) (by assumption) | exact ls_4 (by assumption))

local macro_rules | `(tactic| walk_at "call ref cons") => `(tactic| cell_ask (c_law_size _ _ _))

noncomputable def span (l : Int) : Int × Int × Int :=
  if 194 ≤ l ∧ l ≤ 223 then (128, 191, 1)
  else if 224 ≤ l ∧ l ≤ 239 then (if l = 224 then 160 else 128, if l = 237 then 159 else 191, 2)
  else if 240 ≤ l ∧ l ≤ 244 then (if l = 240 then 144 else 128, if l = 244 then 143 else 191, 3)
  else (0, 0, 0)
noncomputable abbrev RTup3 (p : Int × Int × Int) : Heap → Heap → Value → Prop := RNewX (fun _ : Tok × Tok × Tok => True) (fun t => tupO [.int p.1 t.1, .int p.2.1 t.2.1, .int p.2.2 t.2.2])
noncomputable def hasSign (x : Str) (c : Int) : Bool := if x = sU then decide (u8len c > 0) else decide (c < (if x = sA then 128 else 256))
theorem rtup3_mk' {p : Int × Int × Int} {x y z : Int} {t1 t2 t3 : Tok} {a : Addr} {h h' : Heap} (q : h'.get? a = some (tupO [.int x t1, .int y t2, .int z t3]) ∧ h.get? a = none) (e : p = (x, y, z)) : RTup3 p h h' (.ref a) := by
  subst e
  exact rnewx (t1, t2, t3) trivial q
theorem sp_1 {l : Int} (a : 194 ≤ l) (b : l ≤ 223) : span l = (128, 191, 1) := if_pos ⟨a, b⟩
theorem sp_2a {l : Int} (h : l = 224) : span l = (160, 191, 2) := by subst h; decide
theorem sp_2b {l : Int} (h : l = 237) : span l = (128, 159, 2) := by subst h; decide
theorem sp_2c {l : Int} (b : ¬ l ≤ 223) (c : l ≤ 239) (d : ¬ l = 224) (e : ¬ l = 237) : span l = (128, 191, 2) := by unfold span; rw [if_neg (by omega), if_pos (by omega), if_neg d, if_neg e]
theorem sp_3a {l : Int} (h : l = 240) : span l = (144, 191, 3) := by subst h; decide
theorem sp_3b {l : Int} (h : l = 244) : span l = (128, 143, 3) := by subst h; decide
theorem sp_3c {l : Int} (b : ¬ l ≤ 239) (c : l ≤ 244) (d : ¬ l = 240) (e : ¬ l = 244) : span l = (128, 191, 3) := by unfold span; rw [if_neg (by omega), if_neg (by omega), if_pos (by omega), if_neg d, if_neg e]
theorem sp_0a {l : Int} (c : ¬ l ≤ 244) : span l = (0, 0, 0) := by unfold span; rw [if_neg (by omega), if_neg (by omega), if_neg (by omega)]
theorem sp_0b {l : Int} (c : ¬ 194 ≤ l) : span l = (0, 0, 0) := by unfold span; rw [if_neg (by omega), if_neg (by omega), if_neg (by omega)]
theorem c_follower_span (w : World) (l : Int) (t : Tok) : PC w 2 88 [.int l t] (RTup3 (span l)) := by
  unfold PC
  k_fill
  w_top off
  intro mean mg mb dp un gd cn cs a ccd cl outer A₀ base h₀ L m s Q E B F X T hk hd hu hret
  k_dflt (walk_at "pc enter")
  k_steps
  all_goals (
    refine pc_end hret (by assumption) (by assumption) ?_
    refine rtup3_mk' (pc_new (by assumption) (by assumption) (by k_mem)) ?_
    first | exact sp_2a (by assumption) | exact sp_2b (by assumption) | exact sp_3a (by assumption) | exact sp_3b (by assumption) | exact sp_1 (by assumption) (by assumption) | exact sp_2c (by assumption) (by assumption) (by assumption) (by assumption) | exact sp_3c (by assumption) (by assumption) (by assumption) (by assumption) | exact sp_0a (by assumption) | exact sp_0b (by assumption))

local macro_rules | `(tactic| walk_at "call ref cons") => `(tactic| cell_ask (c_follower_span _ _ _))

theorem c_has_sign (w : World) (x : Str) (c : Int) (t t' : Tok) (hx : IsCs x) : PC w 4 123 [.str x t, .int c t'] (RBool (hasSign x c)) := by
  rcases hx with rfl | rfl | rfl
  all_goals (
    unfold PC
    k_fill
    w_top off
    intro mean mg mb dp un gd cn cs a ccd cl outer A₀ base h₀ L m s Q E B F X T hk hd hu hret
    k_dflt (walk_at "pc enter")
    k_steps)
  all_goals (refine pc_end hret (by assumption) (by assumption) (bool_eq ?_); unfold hasSign; first | rw [if_neg (show ¬ sA = sU by decide), if_pos rfl] | rw [if_neg (show ¬ sL = sU by decide), if_neg (show ¬ sL = sA by decide)] | rw [if_pos rfl])


theorem xt6 : True := by
  k_with "calls" => (cell_ask (c_has_sign _ _ _ _ _ (by assumption)))
  trivial
noncomputable def encL (c : Int) : List Int :=
  if c ≤ 127 then [c] else if c ≤ 2047 then [192 + c / 64, 128 + c % 64]
  else if c ≤ 65535 then [224 + c / 4096, 128 + c / 64 % 64, 128 + c % 64]
  else [240 + c / 262144, 128 + c / 4096 % 64, 128 + c / 64 % 64, 128 + c % 64]
noncomputable abbrev RInts (ns : List Int) : Heap → Heap → Value → Prop := RNewX (fun x : List Value × Nat => IntsAre x.1 ns) (fun x => { cls := .type "list", data := .seq x.1.toArray x.2 })
theorem u8len_cases {c : Int} (h : 0 < u8len c) : (u8len c = 1 ∧ 0 ≤ c ∧ c ≤ 127) ∨ (u8len c = 2 ∧ 128 ≤ c ∧ c ≤ 2047) ∨ (u8len c = 3 ∧ 2048 ≤ c ∧ c ≤ 65535) ∨ (u8len c = 4 ∧ 65536 ≤ c ∧ c ≤ 1114111) := by
  by_cases a : (55296 ≤ c ∧ c ≤ 57343) ∨ ¬ (0 ≤ c ∧ c ≤ 1114111)
  · exact absurd h (by unfold u8len; rw [if_pos a]; decide)
  · obtain ⟨na, b⟩ := not_or.mp a
    have b' := Decidable.not_not.mp b
    have e := u8_in na b'.1 b'.2
    by_cases c1 : c ≤ 127
    · exact .inl ⟨by rw [e, if_pos c1], b'.1, c1⟩
    · by_cases c2 : c ≤ 2047
      · exact .inr (.inl ⟨by rw [e, if_neg c1, if_pos c2], Int.not_le.mp c1, c2⟩)
      · by_cases c3 : c ≤ 65535
        · exact .inr (.inr (.inl ⟨by rw [e, if_neg c1, if_neg c2, if_pos c3], Int.not_le.mp c2, c3⟩))
        · exact .inr (.inr (.inr ⟨by rw [e, if_neg c1, if_neg c2, if_neg c3], Int.not_le.mp c3, b'.2⟩))
theorem rints_mk {ns ns' : List Int} {a : Addr} {h h' : Heap} {vs : List Value} {n : Nat} (q : h'.get? a = some (W.listOf vs.toArray n) ∧ h.get? a = none) (i : IntsAre vs ns') (e : ns' = ns) : RInts ns h h' (.ref a) := by
  subst e
  exact rnewx (vs, n) i q
theorem fd (a b : Int) (h : 0 ≤ b) : a.fdiv b = a / b := Int.fdiv_eq_ediv_of_nonneg a h
theorem fm (a b : Int) (h : 0 ≤ b) : a.fmod b = a % b := Int.fmod_eq_emod_of_nonneg a h
theorem enc1 {c : Int} (h2 : c ≤ 127) : (List.replicate (Int.toNat 1) [c]).flatten = encL c := by
  rw [encL, if_pos h2]; rfl
theorem enc2 {c : Int} (h1 : 128 ≤ c) (h2 : c ≤ 2047) : [256 - Int.fdiv 256 (2 ^ Int.toNat 2) + c.fdiv 64, 128 + c.fmod 64] = encL c := by
  rw [encL, if_neg (by omega), if_pos (by omega), fd c 64 (by decide), fm c 64 (by decide), show (256 - Int.fdiv 256 (2 ^ Int.toNat 2) : Int) = 192 by decide]
theorem enc3 {c : Int} (h1 : 2048 ≤ c) (h2 : c ≤ 65535) : [256 - Int.fdiv 256 (2 ^ Int.toNat 3) + (c.fdiv 64).fdiv 64, 128 + (c.fdiv 64).fmod 64, 128 + c.fmod 64] = encL c := by
  rw [encL, if_neg (by omega), if_neg (by omega), if_pos (by omega), show (256 - Int.fdiv 256 (2 ^ Int.toNat 3) : Int) = 224 by decide]
  simp only [fd _ 64 (by decide), fm _ 64 (by decide)]
  rw [show c / 64 / 64 = c / 4096 by omega]
theorem enc4 {c : Int} (h1 : 65536 ≤ c) (h2 : c ≤ 1114111) : [256 - Int.fdiv 256 (2 ^ Int.toNat 4) + ((c.fdiv 64).fdiv 64).fdiv 64, 128 + ((c.fdiv 64).fdiv 64).fmod 64, 128 + (c.fdiv 64).fmod 64, 128 + c.fmod 64] = encL c := by
  rw [encL, if_neg (by omega), if_neg (by omega), if_neg (by omega), show (256 - Int.fdiv 256 (2 ^ Int.toNat 4) : Int) = 240 by decide]
  simp only [fd _ 64 (by decide), fm _ 64 (by decide)]
  rw [show c / 64 / 64 / 64 = c / 262144 by omega, show c / 64 / 64 = c / 4096 by omega]
section
local macro_rules | `(tactic| walk_at "call ref cons") => `(tactic| cell_ask (by assumption))
local macro_rules | `(tactic| walk_at "exec For Name Call cons nil") => `(tactic| k_extra "x7")
local macro_rules | `(tactic| walk_at "pyIter ref") => `(tactic| k_extra "x8")
local macro_rules | `(tactic| walk_at "rints end") => `(tactic| (refine' rints_mk (pc_new (by assumption) (by assumption) (by k_mem)) ?i ?e; (case i => first | assumption | (repeat' (first | with_unfolding_all exact IntsAre.nil | refine' IntsAre.cons _ _ ?_)))))

theorem xt8 : True := by
  k_with "x7" => ((k_here; (rename Fr _ _ _ _ => lFpq7); (with_unfolding_all refine' For_invVF lFpq7 ?k1x7a ?k2x7a ?_; (case k1x7a => exact rfl); (case k2x7a => exact rfl); k_whole)))
  k_with "x7" => ((k_here; (rename Fr _ _ _ _ => lFpq7); (with_unfolding_all refine' For_invVF lFpq7 ?k1x7b ?k2x7b ?_; (case k1x7b => exact rfl); (case k2x7b => exact rfl); k_whole)))
  k_with "x7" => ((k_here; (rename Fr _ _ _ _ => lFpq7); (with_unfolding_all refine' For_invVF lFpq7 ?k1x7c ?k2x7c ?_; (case k1x7c => exact rfl); (case k2x7c => exact rfl); k_whole)))
  k_with "x7" => ((k_here; (rename Fr _ _ _ _ => lFpq7); (with_unfolding_all refine' For_invVF lFpq7 ?k1x7d ?k2x7d ?_; (case k1x7d => exact rfl); (case k2x7d => exact rfl); k_whole)))
  k_with "x7" => ((k_here; (rename Fr _ _ _ _ => lFpq7); (with_unfolding_all refine' For_invVF lFpq7 ?k1x7e ?k2x7e ?_; (case k1x7e => exact rfl); (case k2x7e => exact rfl); k_whole)))
  k_with "x7" => ((k_here; (rename Fr _ _ _ _ => lFpq7); (with_unfolding_all refine' For_invVF lFpq7 ?k1x7f ?k2x7f ?_; (case k1x7f => exact rfl); (case k2x7f => exact rfl); k_whole)))
  k_with "x7" => ((k_here; (rename Fr _ _ _ _ => lFpq7); (with_unfolding_all refine' For_invVF lFpq7 ?k1x7g ?k2x7g ?_; (case k1x7g => exact rfl); (case k2x7g => exact rfl); k_whole)))
  k_with "x7" => ((k_here; (rename Fr _ _ _ _ => lFpq7); (with_unfolding_all refine' For_invVF lFpq7 ?k1x7h ?k2x7h ?_; (case k1x7h => exact rfl); (case k2x7h => exact rfl); k_whole)))
  k_with "x7" => ((k_here; (rename Fr _ _ _ _ => lFpq7); (with_unfolding_all refine' For_invVF lFpq7 ?k1x7i ?k2x7i ?_; (case k1x7i => exact rfl); (case k2x7i => exact rfl); k_whole)))
  k_with "x7" => ((k_here; (rename Fr _ _ _ _ => lFpq7); (with_unfolding_all refine' For_invVF lFpq7 ?k1x7j ?k2x7j ?_; (case k1x7j => exact rfl); (case k2x7j => exact rfl); k_whole)))
  k_with "x7" => ((k_here; (rename Fr _ _ _ _ => lFpq7); (with_unfolding_all refine' For_invVF lFpq7 ?k1x7k ?k2x7k ?_; (case k1x7k => exact rfl); (case k2x7k => exact rfl); k_whole)))
  k_with "x7" => ((k_here; (rename Fr _ _ _ _ => lFpq7); (with_unfolding_all refine' For_invVF lFpq7 ?k1x7l ?k2x7l ?_; (case k1x7l => exact rfl); (case k2x7l => exact rfl); k_whole)))
  k_with "x7" => ((k_here; (rename Fr _ _ _ _ => lFpq7); (with_unfolding_all refine' For_invVF lFpq7 ?k1x7m ?k2x7m ?_; (case k1x7m => exact rfl); (case k2x7m => exact rfl); k_whole)))
  k_with "x7" => ((k_here; (rename Fr _ _ _ _ => lFpq7); (with_unfolding_all refine' For_invVF lFpq7 ?k1x7n ?k2x7n ?_; (case k1x7n => exact rfl); (case k2x7n => exact rfl); k_whole)))
  k_with "x7" => ((k_here; (rename Fr _ _ _ _ => lFpq7); (with_unfolding_all refine' For_invVF lFpq7 ?k1x7o ?k2x7o ?_; (case k1x7o => exact rfl); (case k2x7o => exact rfl); k_whole)))
  k_with "x7" => ((k_here; (rename Fr _ _ _ _ => lFpq7); (with_unfolding_all refine' For_invVF lFpq7 ?k1x7p ?k2x7p ?_; (case k1x7p => exact rfl); (case k2x7p => exact rfl); k_whole)))
  k_with "x8" => (((with_reducible show wpAny _ _ (pyIter (Value.ref _)) (fun it s₂ => LoopAtV _ _ _ _ _ _ _ _ _ it s₂) _ _); k_rangeUnr))
  trivial
theorem c_utf8_octets (w : World) (c : Int) (t : Tok) (h0 : 0 < u8len c) : PC w 4 81 [.int c t] (RInts (encL c)) := by
  rcases u8len_cases h0 with ⟨e, h1, h2⟩ | ⟨e, h1, h2⟩ | ⟨e, h1, h2⟩ | ⟨e, h1, h2⟩
  all_goals (
    have C : ∀ t, PC w 2 74 [.int c t] _ := c_utf8_length w c
    rw [e] at C
    replace C := C t
    unfold PC
    k_fill
    w_top off
    intro mean mg mb dp un gd cn cs a ccd cl outer A₀ base h₀ L m s Q E B F X T hk hd hu hret
    k_dflt (walk_at "pc enter")
    k_steps)
  all_goals (refine pc_end hret (by assumption) (by assumption) ?_; walk_at "rints end")
  · exact enc1 h2
  · exact enc2 h1 h2
  · exact enc3 h1 h2
  · exact enc4 h1 h2
end


theorem xt9 : True := by
  k_with "calls" => (cell_ask (c_utf8_octets _ _ _ (by assumption)))
  trivial
/-- the octet at a place -/
noncomputable def bAt (l : List UInt8) (i : Int) : Int := ((l.getD i.toNat 0).toNat : Int)
theorem bAt_def (l : List UInt8) (i : Int) : bAt l i = ((l.getD i.toNat 0).toNat : Int) := rfl
theorem bAt_lo (l : List UInt8) (i : Int) : 0 ≤ bAt l i := Int.natCast_nonneg _
theorem bAt_hi (l : List UInt8) (i : Int) : bAt l i < 256 := by
  have := (l.getD i.toNat 0).toNat_lt
  unfold bAt; omega
noncomputable abbrev okAt (l : List UInt8) (i lo hi : Int) : Prop := i < l.length ∧ lo ≤ bAt l i ∧ bAt l i ≤ hi
/-- what utf8_sign gives back: the code (or -1), the octets taken -/
noncomputable def decAt (l : List UInt8) (i : Int) : Int × Int :=
  let b := bAt l i
  let s := span b
  if b < 128 then (b, 1)
  else if s.2.2 = 0 then (-1, 1)
  else if ¬ okAt l (i + 1) s.1 s.2.1 then (-1, 1)
  else if s.2.2 = 1 then (b % 32 * 64 + bAt l (i + 1) % 64, 2)
  else if ¬ okAt l (i + 2) 128 191 then (-1, 2)
  else if s.2.2 = 2 then ((b % 16 * 64 + bAt l (i + 1) % 64) * 64 + bAt l (i + 2) % 64, 3)
  else if ¬ okAt l (i + 3) 128 191 then (-1, 3)
  else (((b % 8 * 64 + bAt l (i + 1) % 64) * 64 + bAt l (i + 2) % 64) * 64 + bAt l (i + 3) % 64, 4)
/-- the same, spelled as the walk spells it -/
noncomputable def decRaw (l : List UInt8) (i : Int) : Int × Int :=
  if (((l.getD i.toNat 0).toNat : Nat) : Int) < 128 then ((((l.getD i.toNat 0).toNat : Nat) : Int), 1)
  else if (span (((l.getD i.toNat 0).toNat : Nat) : Int)).2.2 = 0 then (-1, 1)
  else if ((l.toArray.size : Nat) : Int) ≤ i + (1 + ((0 : Nat) : Int)) then (-1, 1 + ((0 : Nat) : Int))
  else if ¬ (span (((l.getD i.toNat 0).toNat : Nat) : Int)).1 ≤ (((l.getD (i + (1 + ((0 : Nat) : Int))).toNat 0).toNat : Nat) : Int) then (-1, 1 + ((0 : Nat) : Int))
  else if ¬ (((l.getD (i + (1 + ((0 : Nat) : Int))).toNat 0).toNat : Nat) : Int) ≤ (span (((l.getD i.toNat 0).toNat : Nat) : Int)).2.1 then (-1, 1 + ((0 : Nat) : Int))
  else if (span (((l.getD i.toNat 0).toNat : Nat) : Int)).2.2 = 1 then ((((l.getD i.toNat 0).toNat : Nat) : Int).fmod (Int.fdiv 64 (2 ^ Int.toNat 1)) * 64 + (((l.getD (i + (1 + ((0 : Nat) : Int))).toNat 0).toNat : Nat) : Int).fmod 64, 1 + 1)
  else if ((l.toArray.size : Nat) : Int) ≤ i + (1 + ((0 + 1 : Nat) : Int)) then (-1, 1 + ((0 + 1 : Nat) : Int))
  else if ¬ 128 ≤ (((l.getD (i + (1 + ((0 + 1 : Nat) : Int))).toNat 0).toNat : Nat) : Int) then (-1, 1 + ((0 + 1 : Nat) : Int))
  else if ¬ (((l.getD (i + (1 + ((0 + 1 : Nat) : Int))).toNat 0).toNat : Nat) : Int) ≤ 191 then (-1, 1 + ((0 + 1 : Nat) : Int))
  else if (span (((l.getD i.toNat 0).toNat : Nat) : Int)).2.2 = 2 then (((((l.getD i.toNat 0).toNat : Nat) : Int).fmod (Int.fdiv 64 (2 ^ Int.toNat 2)) * 64 + (((l.getD (i + (1 + ((0 : Nat) : Int))).toNat 0).toNat : Nat) : Int).fmod 64) * 64 + (((l.getD (i + (1 + ((0 + 1 : Nat) : Int))).toNat 0).toNat : Nat) : Int).fmod 64, 2 + 1)
  else if ((l.toArray.size : Nat) : Int) ≤ i + (1 + ((0 + 1 + 1 : Nat) : Int)) then (-1, 1 + ((0 + 1 + 1 : Nat) : Int))
  else if ¬ 128 ≤ (((l.getD (i + (1 + ((0 + 1 + 1 : Nat) : Int))).toNat 0).toNat : Nat) : Int) then (-1, 1 + ((0 + 1 + 1 : Nat) : Int))
  else if ¬ (((l.getD (i + (1 + ((0 + 1 + 1 : Nat) : Int))).toNat 0).toNat : Nat) : Int) ≤ 191 then (-1, 1 + ((0 + 1 + 1 : Nat) : Int))
  else ((((((l.getD i.toNat 0).toNat : Nat) : Int).fmod (Int.fdiv 64 (2 ^ Int.toNat 3)) * 64 + (((l.getD (i + (1 + ((0 : Nat) : Int))).toNat 0).toNat : Nat) : Int).fmod 64) * 64 + (((l.getD (i + (1 + ((0 + 1 : Nat) : Int))).toNat 0).toNat : Nat) : Int).fmod 64) * 64 + (((l.getD (i + (1 + ((0 + 1 + 1 : Nat) : Int))).toNat 0).toNat : Nat) : Int).fmod 64, 3 + 1)
theorem if3 {α : Type} {n k : Int} {B C : Prop} [Decidable B] [Decidable C] (x y : α) : (if n ≤ k then x else if ¬ B then x else if ¬ C then x else y) = (if ¬ (k < n ∧ B ∧ C) then x else y) := by
  by_cases h1 : n ≤ k
  · rw [if_pos h1, if_pos (fun h => absurd h.1 (Int.not_lt.mpr h1))]
  · rw [if_neg h1]
    by_cases h2 : B
    · rw [if_neg (fun h => h h2)]
      by_cases h3 : C
      · rw [if_neg (fun h => h h3), if_neg (fun h => h ⟨Int.not_le.mp h1, h2, h3⟩)]
      · rw [if_pos h3, if_pos (fun h => h3 h.2.2)]
    · rw [if_pos h2, if_pos (fun h => h2 h.2.1)]
theorem decRaw_eq (l : List UInt8) (i : Int) : decRaw l i = decAt l i := by
  have e1 : (1 + ((0 : Nat) : Int)) = 1 := rfl
  have e2 : (1 + ((0 + 1 : Nat) : Int)) = 2 := rfl
  have e3 : (1 + ((0 + 1 + 1 : Nat) : Int)) = 3 := rfl
  have f1 : (Int.fdiv 64 (2 ^ Int.toNat 1) : Int) = 32 := by decide
  have f2 : (Int.fdiv 64 (2 ^ Int.toNat 2) : Int) = 16 := by decide
  have f3 : (Int.fdiv 64 (2 ^ Int.toNat 3) : Int) = 8 := by decide
  have hs : ((l.toArray.size : Nat) : Int) = (l.length : Int) := by rw [List.size_toArray]
  unfold decRaw decAt
  simp only [e1, e2, e3, f1, f2, f3, hs, fm _ 64 (by decide), fm _ 32 (by decide), fm _ 16 (by decide), fm _ 8 (by decide), ← bAt_def]
  simp only [if3]
  rfl
theorem or3 {α : Type} {n k : Int} {B C : Prop} [Decidable B] [Decidable C] {x y : α} (h : n ≤ k ∨ ¬ B ∨ ¬ C) : (if n ≤ k then x else if ¬ B then x else if ¬ C then x else y) = x := by
  rw [if3]; exact if_pos fun e => h.elim (fun h => absurd e.1 (Int.not_lt.mpr h)) fun h => h.elim (absurd e.2.1) (absurd e.2.2)
theorem ok3 {α : Type} {n k : Int} {B C : Prop} [Decidable B] [Decidable C] {x y : α} (h : ¬ n ≤ k) (b : B) (c : C) : (if n ≤ k then x else if ¬ B then x else if ¬ C then x else y) = y := by
  rw [if3]; exact if_neg fun e => e ⟨Int.not_le.mp h, b, c⟩
theorem dec_a {l : List UInt8} {i : Int} (h : (((l.getD i.toNat 0).toNat : Nat) : Int) < 128) : decAt l i = ((((l.getD i.toNat 0).toNat : Nat) : Int), 1) := by
  rw [← decRaw_eq]; unfold decRaw; exact if_pos h
theorem dec_b {l : List UInt8} {i lo hh : Int} (h : ¬ (((l.getD i.toNat 0).toNat : Nat) : Int) < 128) (es : span (((l.getD i.toNat 0).toNat : Nat) : Int) = (lo, hh, 0)) : decAt l i = (-1, 1) := by
  rw [← decRaw_eq]; unfold decRaw; rw [if_neg h, es]; exact if_pos rfl
theorem dec_f0 {l : List UInt8} {i lo hh n : Int} (h : ¬ (((l.getD i.toNat 0).toNat : Nat) : Int) < 128) (es : span (((l.getD i.toNat 0).toNat : Nat) : Int) = (lo, hh, n)) (n0 : n ≠ 0)  (bad : (((l.toArray.size : Nat) : Int) ≤ i + (1 + ((0 : Nat) : Int)) ∨ ¬ lo ≤ (((l.getD (i + (1 + ((0 : Nat) : Int))).toNat 0).toNat : Nat) : Int) ∨ ¬ (((l.getD (i + (1 + ((0 : Nat) : Int))).toNat 0).toNat : Nat) : Int) ≤ hh)) : decAt l i = (-1, 1 + ((0 : Nat) : Int)) := by
  rw [← decRaw_eq]; unfold decRaw; rw [if_neg h]; simp only [es]; rw [if_neg n0]; exact or3 bad
theorem dec_f1 {l : List UInt8} {i lo hh n : Int} (h : ¬ (((l.getD i.toNat 0).toNat : Nat) : Int) < 128) (es : span (((l.getD i.toNat 0).toNat : Nat) : Int) = (lo, hh, n)) (n0 : n ≠ 0) (s0 : ¬ ((l.toArray.size : Nat) : Int) ≤ i + (1 + ((0 : Nat) : Int))) (a0 : lo ≤ (((l.getD (i + (1 + ((0 : Nat) : Int))).toNat 0).toNat : Nat) : Int)) (b0 : (((l.getD (i + (1 + ((0 : Nat) : Int))).toNat 0).toNat : Nat) : Int) ≤ hh) (n1 : n ≠ 1) (bad : (((l.toArray.size : Nat) : Int) ≤ i + (1 + ((0 + 1 : Nat) : Int)) ∨ ¬ 128 ≤ (((l.getD (i + (1 + ((0 + 1 : Nat) : Int))).toNat 0).toNat : Nat) : Int) ∨ ¬ (((l.getD (i + (1 + ((0 + 1 : Nat) : Int))).toNat 0).toNat : Nat) : Int) ≤ 191)) : decAt l i = (-1, 1 + ((0 + 1 : Nat) : Int)) := by
  rw [← decRaw_eq]; unfold decRaw; rw [if_neg h]; simp only [es]; rw [if_neg n0, ok3 s0 a0 b0, if_neg n1]; exact or3 bad
theorem dec_f2 {l : List UInt8} {i lo hh n : Int} (h : ¬ (((l.getD i.toNat 0).toNat : Nat) : Int) < 128) (es : span (((l.getD i.toNat 0).toNat : Nat) : Int) = (lo, hh, n)) (n0 : n ≠ 0) (s0 : ¬ ((l.toArray.size : Nat) : Int) ≤ i + (1 + ((0 : Nat) : Int))) (a0 : lo ≤ (((l.getD (i + (1 + ((0 : Nat) : Int))).toNat 0).toNat : Nat) : Int)) (b0 : (((l.getD (i + (1 + ((0 : Nat) : Int))).toNat 0).toNat : Nat) : Int) ≤ hh) (n1 : n ≠ 1) (s1 : ¬ ((l.toArray.size : Nat) : Int) ≤ i + (1 + ((0 + 1 : Nat) : Int))) (a1 : 128 ≤ (((l.getD (i + (1 + ((0 + 1 : Nat) : Int))).toNat 0).toNat : Nat) : Int)) (b1 : (((l.getD (i + (1 + ((0 + 1 : Nat) : Int))).toNat 0).toNat : Nat) : Int) ≤ 191) (n2 : n ≠ 2) (bad : (((l.toArray.size : Nat) : Int) ≤ i + (1 + ((0 + 1 + 1 : Nat) : Int)) ∨ ¬ 128 ≤ (((l.getD (i + (1 + ((0 + 1 + 1 : Nat) : Int))).toNat 0).toNat : Nat) : Int) ∨ ¬ (((l.getD (i + (1 + ((0 + 1 + 1 : Nat) : Int))).toNat 0).toNat : Nat) : Int) ≤ 191)) : decAt l i = (-1, 1 + ((0 + 1 + 1 : Nat) : Int)) := by
  rw [← decRaw_eq]; unfold decRaw; rw [if_neg h]; simp only [es]; rw [if_neg n0, ok3 s0 a0 b0, if_neg n1, ok3 s1 a1 b1, if_neg n2]; exact or3 bad
theorem dec_o0 {l : List UInt8} {i lo hh : Int} (h : ¬ (((l.getD i.toNat 0).toNat : Nat) : Int) < 128) (es : span (((l.getD i.toNat 0).toNat : Nat) : Int) = (lo, hh, 1)) (s0 : ¬ ((l.toArray.size : Nat) : Int) ≤ i + (1 + ((0 : Nat) : Int))) (a0 : lo ≤ (((l.getD (i + (1 + ((0 : Nat) : Int))).toNat 0).toNat : Nat) : Int)) (b0 : (((l.getD (i + (1 + ((0 : Nat) : Int))).toNat 0).toNat : Nat) : Int) ≤ hh) : decAt l i = ((((l.getD i.toNat 0).toNat : Nat) : Int).fmod (Int.fdiv 64 (2 ^ Int.toNat 1)) * 64 + (((l.getD (i + (1 + ((0 : Nat) : Int))).toNat 0).toNat : Nat) : Int).fmod 64, 1 + 1) := by
  rw [← decRaw_eq]; unfold decRaw; rw [if_neg h]; simp only [es]; rw [if_neg (by decide), ok3 s0 a0 b0]; exact if_pos trivial
theorem dec_o1 {l : List UInt8} {i lo hh : Int} (h : ¬ (((l.getD i.toNat 0).toNat : Nat) : Int) < 128) (es : span (((l.getD i.toNat 0).toNat : Nat) : Int) = (lo, hh, 2)) (s0 : ¬ ((l.toArray.size : Nat) : Int) ≤ i + (1 + ((0 : Nat) : Int))) (a0 : lo ≤ (((l.getD (i + (1 + ((0 : Nat) : Int))).toNat 0).toNat : Nat) : Int)) (b0 : (((l.getD (i + (1 + ((0 : Nat) : Int))).toNat 0).toNat : Nat) : Int) ≤ hh) (s1 : ¬ ((l.toArray.size : Nat) : Int) ≤ i + (1 + ((0 + 1 : Nat) : Int))) (a1 : 128 ≤ (((l.getD (i + (1 + ((0 + 1 : Nat) : Int))).toNat 0).toNat : Nat) : Int)) (b1 : (((l.getD (i + (1 + ((0 + 1 : Nat) : Int))).toNat 0).toNat : Nat) : Int) ≤ 191) : decAt l i = (((((l.getD i.toNat 0).toNat : Nat) : Int).fmod (Int.fdiv 64 (2 ^ Int.toNat 2)) * 64 + (((l.getD (i + (1 + ((0 : Nat) : Int))).toNat 0).toNat : Nat) : Int).fmod 64) * 64 + (((l.getD (i + (1 + ((0 + 1 : Nat) : Int))).toNat 0).toNat : Nat) : Int).fmod 64, 2 + 1) := by
  rw [← decRaw_eq]; unfold decRaw; rw [if_neg h]; simp only [es]; rw [if_neg (by decide), ok3 s0 a0 b0, if_neg (by decide), ok3 s1 a1 b1]; exact if_pos trivial
theorem dec_o2 {l : List UInt8} {i lo hh : Int} (h : ¬ (((l.getD i.toNat 0).toNat : Nat) : Int) < 128) (es : span (((l.getD i.toNat 0).toNat : Nat) : Int) = (lo, hh, 3)) (s0 : ¬ ((l.toArray.size : Nat) : Int) ≤ i + (1 + ((0 : Nat) : Int))) (a0 : lo ≤ (((l.getD (i + (1 + ((0 : Nat) : Int))).toNat 0).toNat : Nat) : Int)) (b0 : (((l.getD (i + (1 + ((0 : Nat) : Int))).toNat 0).toNat : Nat) : Int) ≤ hh) (s1 : ¬ ((l.toArray.size : Nat) : Int) ≤ i + (1 + ((0 + 1 : Nat) : Int))) (a1 : 128 ≤ (((l.getD (i + (1 + ((0 + 1 : Nat) : Int))).toNat 0).toNat : Nat) : Int)) (b1 : (((l.getD (i + (1 + ((0 + 1 : Nat) : Int))).toNat 0).toNat : Nat) : Int) ≤ 191) (s2 : ¬ ((l.toArray.size : Nat) : Int) ≤ i + (1 + ((0 + 1 + 1 : Nat) : Int))) (a2 : 128 ≤ (((l.getD (i + (1 + ((0 + 1 + 1 : Nat) : Int))).toNat 0).toNat : Nat) : Int)) (b2 : (((l.getD (i + (1 + ((0 + 1 + 1 : Nat) : Int))).toNat 0).toNat : Nat) : Int) ≤ 191) : decAt l i = ((((((l.getD i.toNat 0).toNat : Nat) : Int).fmod (Int.fdiv 64 (2 ^ Int.toNat 3)) * 64 + (((l.getD (i + (1 + ((0 : Nat) : Int))).toNat 0).toNat : Nat) : Int).fmod 64) * 64 + (((l.getD (i + (1 + ((0 + 1 : Nat) : Int))).toNat 0).toNat : Nat) : Int).fmod 64) * 64 + (((l.getD (i + (1 + ((0 + 1 + 1 : Nat) : Int))).toNat 0).toNat : Nat) : Int).fmod 64, 3 + 1) := by
  rw [← decRaw_eq]; unfold decRaw; rw [if_neg h]; simp only [es]; rw [if_neg (by decide), ok3 s0 a0 b0, if_neg (by decide), ok3 s1 a1 b1, if_neg (by decide), ok3 s2 a2 b2]
noncomputable abbrev RTup2 (p : Int × Int) : Heap → Heap → Value → Prop := RNewX (fun _ : Tok × Tok => True) (fun t => tupO [.int p.1 t.1, .int p.2 t.2])
theorem rtup2_mk {p : Int × Int} {x y : Int} {t1 t2 : Tok} {a : Addr} {h h' : Heap} (q : h'.get? a = some (tupO [.int x t1, .int y t2]) ∧ h.get? a = none) (e : p = (x, y)) : RTup2 p h h' (.ref a) := by
  subst e
  exact rnewx (t1, t2) trivial q
theorem span_cases (b : Int) : ∃ lo hi, span b = (lo, hi, 0) ∨ span b = (lo, hi, 1) ∨ span b = (lo, hi, 2) ∨ span b = (lo, hi, 3) := by
  unfold span
  split
  · exact ⟨_, _, .inr (.inl rfl)⟩
  · split
    · exact ⟨_, _, .inr (.inr (.inl rfl))⟩
    · split
      · exact ⟨_, _, .inr (.inr (.inr rfl))⟩
      · exact ⟨_, _, .inl rfl⟩
section
local macro_rules | `(tactic| walk_at "exec For Name Call cons nil") => `(tactic| k_extra "x10")
local macro_rules | `(tactic| walk_at "pyIter ref") => `(tactic| k_extra "x11")
local macro_rules | `(tactic| walk_at "call ref cons") => `(tactic| k_extra "x12")
theorem xt12 : True := by
  k_with "x10" => ((k_here; (rename Fr _ _ _ _ => lFpq7); (with_unfolding_all refine' For_invVF lFpq7 ?k1x10a ?k2x10a ?_; (case k1x10a => exact rfl); (case k2x10a => exact rfl); k_whole)))
  k_with "x10" => ((k_here; (rename Fr _ _ _ _ => lFpq7); (with_unfolding_all refine' For_invVF lFpq7 ?k1x10b ?k2x10b ?_; (case k1x10b => exact rfl); (case k2x10b => exact rfl); k_whole)))
  k_with "x10" => ((k_here; (rename Fr _ _ _ _ => lFpq7); (with_unfolding_all refine' For_invVF lFpq7 ?k1x10c ?k2x10c ?_; (case k1x10c => exact rfl); (case k2x10c => exact rfl); k_whole)))
  k_with "x10" => ((k_here; (rename Fr _ _ _ _ => lFpq7); (with_unfolding_all refine' For_invVF lFpq7 ?k1x10d ?k2x10d ?_; (case k1x10d => exact rfl); (case k2x10d => exact rfl); k_whole)))
  k_with "x10" => ((k_here; (rename Fr _ _ _ _ => lFpq7); (with_unfolding_all refine' For_invVF lFpq7 ?k1x10e ?k2x10e ?_; (case k1x10e => exact rfl); (case k2x10e => exact rfl); k_whole)))
  k_with "x10" => ((k_here; (rename Fr _ _ _ _ => lFpq7); (with_unfolding_all refine' For_invVF lFpq7 ?k1x10f ?k2x10f ?_; (case k1x10f => exact rfl); (case k2x10f => exact rfl); k_whole)))
  k_with "x10" => ((k_here; (rename Fr _ _ _ _ => lFpq7); (with_unfolding_all refine' For_invVF lFpq7 ?k1x10g ?k2x10g ?_; (case k1x10g => exact rfl); (case k2x10g => exact rfl); k_whole)))
  k_with "x10" => ((k_here; (rename Fr _ _ _ _ => lFpq7); (with_unfolding_all refine' For_invVF lFpq7 ?k1x10h ?k2x10h ?_; (case k1x10h => exact rfl); (case k2x10h => exact rfl); k_whole)))
  k_with "x10" => ((k_here; (rename Fr _ _ _ _ => lFpq7); (with_unfolding_all refine' For_invVF lFpq7 ?k1x10i ?k2x10i ?_; (case k1x10i => exact rfl); (case k2x10i => exact rfl); k_whole)))
  k_with "x10" => ((k_here; (rename Fr _ _ _ _ => lFpq7); (with_unfolding_all refine' For_invVF lFpq7 ?k1x10j ?k2x10j ?_; (case k1x10j => exact rfl); (case k2x10j => exact rfl); k_whole)))
  k_with "x10" => ((k_here; (rename Fr _ _ _ _ => lFpq7); (with_unfolding_all refine' For_invVF lFpq7 ?k1x10k ?k2x10k ?_; (case k1x10k => exact rfl); (case k2x10k => exact rfl); k_whole)))
  k_with "x10" => ((k_here; (rename Fr _ _ _ _ => lFpq7); (with_unfolding_all refine' For_invVF lFpq7 ?k1x10l ?k2x10l ?_; (case k1x10l => exact rfl); (case k2x10l => exact rfl); k_whole)))
  k_with "x10" => ((k_here; (rename Fr _ _ _ _ => lFpq7); (with_unfolding_all refine' For_invVF lFpq7 ?k1x10m ?k2x10m ?_; (case k1x10m => exact rfl); (case k2x10m => exact rfl); k_whole)))
  k_with "x10" => ((k_here; (rename Fr _ _ _ _ => lFpq7); (with_unfolding_all refine' For_invVF lFpq7 ?k1x10n ?k2x10n ?_; (case k1x10n => exact rfl); (case k2x10n => exact rfl); k_whole)))
  k_with "x10" => ((k_here; (rename Fr _ _ _ _ => lFpq7); (with_unfolding_all refine' For_invVF lFpq7 ?k1x10o ?k2x10o ?_; (case k1x10o => exact rfl); (case k2x10o => exact rfl); k_whole)))
  k_with "x10" => ((k_here; (rename Fr _ _ _ _ => lFpq7); (with_unfolding_all refine' For_invVF lFpq7 ?k1x10p ?k2x10p ?_; (case k1x10p => exact rfl); (case k2x10p => exact rfl); k_whole)))
  k_with "x11" => (((with_reducible show wpAny _ _ (pyIter (Value.ref _)) (fun it s₂ => LoopAtV _ _ _ _ _ _ _ _ _ it s₂) _ _); k_rangeUnr))
  k_with "x12" => ((cell_ask (c_follower_span _ _ _); (rename News _ _ _ _ => nn9pq7); rw [(by assumption : span _ = _)] at nn9pq7; dsimp only at nn9pq7))
  trivial
theorem c_utf8_sign (w : World) (l : List UInt8) (i : Int) (t t' : Tok) (h0 : 0 ≤ i) (hi : i < l.length) (hsz : l.length < 1000) : PC w 4 95 [.bytes l.toArray t, .int i t'] (RTup2 (decAt l i)) := by
  obtain ⟨lo, hh, es⟩ := span_cases (bAt l i)
  unfold bAt at es
  rcases es with es | es | es | es
  all_goals (
    unfold PC
    k_fill
    w_top off
    intro mean mg mb dp un gd cn cs a ccd cl outer A₀ base h₀ L m s Q E B F X T hk hd hu hret
    k_dflt (walk_at "pc enter")
    k_steps)
  all_goals (refine pc_end hret (by assumption) (by assumption) ?_; refine rtup2_mk (pc_new (by assumption) (by assumption) (by k_mem)) ?_)
  all_goals first
    | exact dec_a (by assumption)
    | exact dec_b (by assumption) (by assumption)
    | exact dec_f0 (by assumption) (by assumption) (by decide)  (.inl (by assumption))
    | exact dec_f0 (by assumption) (by assumption) (by decide)  (.inr (.inl (by assumption)))
    | exact dec_f0 (by assumption) (by assumption) (by decide)  (.inr (.inr (by assumption)))
    | exact dec_f1 (by assumption) (by assumption) (by decide) (by assumption) (by assumption) (by assumption) (by decide) (.inl (by assumption))
    | exact dec_f1 (by assumption) (by assumption) (by decide) (by assumption) (by assumption) (by assumption) (by decide) (.inr (.inl (by assumption)))
    | exact dec_f1 (by assumption) (by assumption) (by decide) (by assumption) (by assumption) (by assumption) (by decide) (.inr (.inr (by assumption)))
    | exact dec_f2 (by assumption) (by assumption) (by decide) (by assumption) (by assumption) (by assumption) (by decide) (by assumption) (by assumption) (by assumption) (by decide) (.inl (by assumption))
    | exact dec_f2 (by assumption) (by assumption) (by decide) (by assumption) (by assumption) (by assumption) (by decide) (by assumption) (by assumption) (by assumption) (by decide) (.inr (.inl (by assumption)))
    | exact dec_f2 (by assumption) (by assumption) (by decide) (by assumption) (by assumption) (by assumption) (by decide) (by assumption) (by assumption) (by assumption) (by decide) (.inr (.inr (by assumption)))
    | exact dec_o0 (by assumption) (by assumption) (by assumption) (by assumption) (by assumption)
    | exact dec_o1 (by assumption) (by assumption) (by assumption) (by assumption) (by assumption) (by assumption) (by assumption) (by assumption)
    | exact dec_o2 (by assumption) (by assumption) (by assumption) (by assumption) (by assumption) (by assumption) (by assumption) (by assumption) (by assumption) (by assumption) (by assumption)
end


theorem xt13 : True := by
  k_with "calls" => (cell_ask (c_utf8_sign _ _ _ _ _ (by first | assumption | omega) (by first | assumption | omega) (by first | assumption | omega)))
  trivial
noncomputable def signAt (x : Str) (l : List UInt8) (i : Int) : Int × Int :=
  if x = sU then decAt l i else if x = sA ∧ 127 < bAt l i then (-1, 1) else (bAt l i, 1)
section
theorem rtup2_of {p : Int × Int} {a : Addr} {h h' : Heap} {x : Tok × Tok} (q : h'.get? a = some (tupO [.int p.1 x.1, .int p.2 x.2]) ∧ h.get? a = none) : RTup2 p h h' (.ref a) := rnewx x trivial q
theorem c_sign_at (w : World) (x : Str) (l : List UInt8) (i : Int) (t t' t'' : Tok) (hx : IsCs x) (h0 : 0 ≤ i) (hi : i < l.length) (hsz : l.length < 1000) : PC w 6 102 [.str x t'', .bytes l.toArray t, .int i t'] (RTup2 (signAt x l i)) := by
  rcases hx with rfl | rfl | rfl
  all_goals (
    unfold PC
    k_fill
    w_top off
    intro mean mg mb dp un gd cn cs a ccd cl outer A₀ base h₀ L m s Q E B F X T hk hd hu hret
    k_dflt (walk_at "pc enter")
    k_steps)
  all_goals (refine pc_end hret (by assumption) (by assumption) ?_)
  · refine rtup2_mk (pc_new (by assumption) (by assumption) (by k_mem)) ?_
    rw [signAt, if_neg (show ¬ sA = sU by decide), if_pos ⟨rfl, by assumption⟩]
  · refine rtup2_mk (pc_new (by assumption) (by assumption) (by k_mem)) ?_
    rw [signAt, if_neg (show ¬ sA = sU by decide), if_neg (fun h => absurd h.2 (by assumption))]; rfl
  · refine rtup2_mk (pc_new (by assumption) (by assumption) (by k_mem)) ?_
    rw [signAt, if_neg (show ¬ sL = sU by decide), if_neg (fun h => absurd h.1 (by decide))]; rfl
  · rw [signAt, if_pos rfl]
    exact rtup2_of (pc_new (by assumption) (by assumption) (by k_mem))
end

theorem span_info (b : Int) : span b = (0, 0, 0) ∨ (span b = (128, 191, 1) ∧ 194 ≤ b ∧ b ≤ 223) ∨ (∃ lo hi, span b = (lo, hi, 2) ∧ 224 ≤ b ∧ b ≤ 239 ∧ 128 ≤ lo ∧ hi ≤ 191) ∨ (∃ lo hi, span b = (lo, hi, 3) ∧ 240 ≤ b ∧ b ≤ 244 ∧ 128 ≤ lo ∧ hi ≤ 191 ∧ (hi ≤ 143 ∨ b ≤ 243)) := by
  unfold span
  split
  · exact .inr (.inl ⟨rfl, by omega, by omega⟩)
  · split
    · refine .inr (.inr (.inl ⟨_, _, rfl, by omega, by omega, ?_, ?_⟩)) <;> split <;> omega
    · split
      · refine .inr (.inr (.inr ⟨_, _, rfl, by omega, by omega, ?_, ?_, ?_⟩)) <;> split <;> omega
      · exact .inl rfl
theorem ite_all {α : Type} {P : α → Prop} {c : Prop} [Decidable c] {x y : α} (hx : c → P x) (hy : ¬ c → P y) : P (if c then x else y) := by
  by_cases h : c
  · rw [if_pos h]; exact hx h
  · rw [if_neg h]; exact hy h
noncomputable def InB (p : Int × Int) : Prop := -1 ≤ p.1 ∧ p.1 ≤ 1114111 ∧ 1 ≤ p.2 ∧ p.2 ≤ 4
theorem inB_no (k : Int) (a : 1 ≤ k) (b : k ≤ 4) : InB (-1, k) := ⟨show (-1 : Int) ≤ -1 by decide, show (-1 : Int) ≤ 1114111 by decide, a, b⟩
theorem inB_1 {b : Int} (h : 0 ≤ b) (h' : b < 128) : InB (b, 1) := ⟨by show -1 ≤ b; omega, by show b ≤ 1114111; omega, show (1 : Int) ≤ 1 by decide, show (1 : Int) ≤ 4 by decide⟩
theorem inB_2 (b x : Int) : InB (b % 32 * 64 + x % 64, 2) := ⟨by show -1 ≤ b % 32 * 64 + x % 64; omega, by show b % 32 * 64 + x % 64 ≤ 1114111; omega, show (1 : Int) ≤ 2 by decide, show (2 : Int) ≤ 4 by decide⟩
theorem inB_3 (b x y : Int) : InB ((b % 16 * 64 + x % 64) * 64 + y % 64, 3) := ⟨by show -1 ≤ (b % 16 * 64 + x % 64) * 64 + y % 64; omega, by show (b % 16 * 64 + x % 64) * 64 + y % 64 ≤ 1114111; omega, show (1 : Int) ≤ 3 by decide, show (3 : Int) ≤ 4 by decide⟩
theorem inB_4 {b x y z : Int} (h : 240 ≤ b) (h2 : b ≤ 244) (h3 : 128 ≤ x) (h4 : x ≤ 191) (h5 : b = 244 → x ≤ 143) : InB (((b % 8 * 64 + x % 64) * 64 + y % 64) * 64 + z % 64, 4) :=
  ⟨by show -1 ≤ ((b % 8 * 64 + x % 64) * 64 + y % 64) * 64 + z % 64; omega, by show ((b % 8 * 64 + x % 64) * 64 + y % 64) * 64 + z % 64 ≤ 1114111; omega, show (1 : Int) ≤ 4 by decide, show (4 : Int) ≤ 4 by decide⟩
theorem decAt_bounds (l : List UInt8) (i : Int) : -1 ≤ (decAt l i).1 ∧ (decAt l i).1 ≤ 1114111 ∧ 1 ≤ (decAt l i).2 ∧ (decAt l i).2 ≤ 4 := by
  show InB (decAt l i)
  unfold decAt
  dsimp only
  refine ite_all (fun h => inB_1 (bAt_lo l i) h) fun _ => ite_all (fun _ => inB_no _ (by decide) (by decide)) fun n0 => ite_all (fun _ => inB_no _ (by decide) (by decide)) fun k1 => ite_all (fun _ => inB_2 _ _) fun n1 => ite_all (fun _ => inB_no _ (by decide) (by decide)) fun _ => ite_all (fun _ => inB_3 _ _ _) fun n2 => ite_all (fun _ => inB_no _ (by decide) (by decide)) fun _ => ?_
  obtain ⟨_, k2, k3⟩ := Decidable.not_not.mp k1
  rcases span_info (bAt l i) with e | ⟨e, h1, h2⟩ | ⟨lo, hi, e, h1, h2, h3, h4⟩ | ⟨lo, hi, e, h1, h2, h3, h4, h5⟩
  · exact absurd (by rw [e]) n0
  · exact absurd (by rw [e]) n1
  · exact absurd (by rw [e]) n2
  · rw [e] at k2 k3
    dsimp only at k2 k3
    exact inB_4 (by omega) (by omega) (by omega) (by omega) (by omega)
theorem signAt_bounds (x : Str) (l : List UInt8) (i : Int) : -1 ≤ (signAt x l i).1 ∧ (signAt x l i).1 ≤ 1114111 ∧ 1 ≤ (signAt x l i).2 ∧ (signAt x l i).2 ≤ 4 := by
  have h0 := bAt_lo l i
  have h0' := bAt_hi l i
  unfold signAt
  (repeat' split)
  · exact decAt_bounds l i
  · decide
  · exact ⟨by show -1 ≤ bAt l i; omega, by show bAt l i ≤ 1114111; omega, by show (1 : Int) ≤ 1; decide, by show (1 : Int) ≤ 4; decide⟩
noncomputable abbrev RSign (p : Int × Int) : Heap → Heap → Value → Prop := RNewX (fun _ : Tok × Tok => -1 ≤ p.1 ∧ p.1 ≤ 1114111 ∧ 1 ≤ p.2 ∧ p.2 ≤ 4) (fun t => tupO [.int p.1 t.1, .int p.2 t.2])
theorem PC.mono {w : World} {d : Nat} {f : Addr} {vs : List Value} {R R' : Heap → Heap → Value → Prop} (C : PC w d f vs R) (h : ∀ h h' v, R h h' v → R' h h' v) : PC w d f vs R' := by
  unfold PC at C ⊢
  intro mean mg mb dp un gd cn cs a ccd cl outer A₀ base h₀ L m s Q E B F X T hk hd hu hret
  exact C mean mg mb dp un gd cn cs a ccd cl outer A₀ base h₀ L m s Q E B F X T hk hd hu fun v h' tk e r => hret v h' tk e (h _ _ _ r)
theorem c_sign_at' (w : World) (x : Str) (l : List UInt8) (i : Int) (t t' t'' : Tok) (hx : IsCs x) (h0 : 0 ≤ i) (hi : i < l.length) (hsz : l.length < 1000) : PC w 6 102 [.str x t'', .bytes l.toArray t, .int i t'] (RSign (signAt x l i)) :=
  (c_sign_at w x l i t t' t'' hx h0 hi hsz).mono fun _ _ _ ⟨y, _, r⟩ => ⟨y, signAt_bounds x l i, r⟩


theorem xt14 : True := by
  k_with "calls" => (cell_ask (c_sign_at' _ _ _ _ _ _ _ (by assumption) (by first | assumption | omega) (by first | assumption | omega) (by first | assumption | omega)))
  trivial
/-- the signs that a text's octets are read to, from a place on -/
noncomputable def signsFrom (x : Str) (l : List UInt8) : Nat → Int → List Int
  | 0, _ => []
  | f + 1, i => if i < l.length then (if 0 ≤ (signAt x l i).1 then (signAt x l i).1 else 65533) :: signsFrom x l f (i + (signAt x l i).2) else []
noncomputable def one (c : Int) : Str := ⟨#[c.toNat]⟩
noncomputable def textOf (cs : List Int) : Str := ⟨(cs.map Int.toNat).toArray⟩
/-- where the reading stands -/
noncomputable def TI (x : Str) (l : List UInt8) (i : Int) (sg : List Str) : Prop := 0 ≤ i ∧ i ≤ 1005 ∧ (sg.length : Int) ≤ i ∧ ∃ (f : Nat) (done : List Int), (l.length : Int) - i ≤ f ∧ sg = done.map one ∧ done ++ signsFrom x l f i = signsFrom x l l.length 0
theorem TI.start (x : Str) (l : List UInt8) : TI x l 0 [] := ⟨by omega, by omega, by simp, l.length, [], by omega, rfl, rfl⟩
theorem TI.step {x : Str} {l : List UInt8} {i c : Int} {sg : List Str} (h : TI x l i sg) (hsz : l.length < 1000) (hi : i < l.length) (hc : c = if 0 ≤ (signAt x l i).1 then (signAt x l i).1 else 65533) : TI x l (i + (signAt x l i).2) (sg ++ [one c]) := by
  obtain ⟨h1, h2, h3, f, done, h4, h5, h6⟩ := h
  have hb := signAt_bounds x l i
  obtain ⟨f, rfl⟩ : ∃ g, f = g + 1 := ⟨f - 1, by omega⟩
  refine ⟨by omega, by omega, by rw [List.length_append, List.length_singleton]; push_cast; omega, f, done ++ [c], by push_cast at h4; omega, by rw [h5, List.map_append]; rfl, ?_⟩
  rw [← h6, signsFrom, if_pos hi, ← hc, List.append_assoc]
  rfl
theorem TI.stepC {x : Str} {l : List UInt8} {i : Int} {sg : List Str} (h : TI x l i sg) (hsz : l.length < 1000) (hi : i < l.toArray.size) (hc : 0 ≤ (signAt x l i).1) : TI x l (i + (signAt x l i).2) (sg ++ [⟨#[(signAt x l i).1.toNat]⟩]) :=
  h.step hsz (by simpa using hi) (by rw [if_pos hc])
theorem TI.stepU {x : Str} {l : List UInt8} {i : Int} {sg : List Str} (h : TI x l i sg) (hsz : l.length < 1000) (hi : i < l.toArray.size) (hc : ¬ 0 ≤ (signAt x l i).1) : TI x l (i + (signAt x l i).2) (sg ++ [⟨#[65533]⟩]) :=
  h.step (c := 65533) hsz (by simpa using hi) (by rw [if_neg hc])
theorem TI.facts {x : Str} {l : List UInt8} {i : Int} {sg : List Str} (h : TI x l i sg) : 0 ≤ i ∧ i ≤ 1005 ∧ (sg.length : Int) ≤ i ∧ TI x l i sg := ⟨h.1, h.2.1, h.2.2.1, h⟩
theorem TI.less {l : List UInt8} {i k : Int} (hi : i < l.toArray.size) (hk : 1 ≤ k) : ((l.length : Int) - (i + k)).toNat < ((l.length : Int) - i).toNat := by
  rw [List.size_toArray] at hi
  omega
theorem TI.done {x : Str} {l : List UInt8} {i : Int} {sg : List Str} (h : TI x l i sg) (hi : ¬ i < l.length) : sg = (signsFrom x l l.length 0).map one := by
  obtain ⟨h1, h2, h3, f, done, h4, h5, h6⟩ := h
  have e : signsFrom x l f i = [] := by
    cases f with
    | zero => rfl
    | succ f => rw [signsFrom, if_neg hi]
  rw [e, List.append_nil] at h6
  rw [h5, h6]
theorem one_length (c : Int) : (one c).length = 1 := rfl
theorem sum_ones (cs : List Int) : ((cs.map one).map (·.length)).sum = cs.length := by
  induction cs with
  | nil => rfl
  | cons c r ih => simp only [List.map_cons, List.sum_cons, one_length, List.length_cons] at ih ⊢; omega
theorem textOf_cons (c : Int) (r : List Int) : textOf (c :: r) = one c ++ textOf r := by
  refine PySem.Str.ext' ?_
  show ((c :: r).map Int.toNat).toArray = #[c.toNat] ++ (r.map Int.toNat).toArray
  simp
theorem join_ones_eq (cs : List Int) : Str.join (Str.ofString "") (cs.map one) = textOf cs := by
  induction cs with
  | nil => rfl
  | cons c r ih =>
    rw [textOf_cons]
    cases r with
    | nil => exact (PySem.Str.append_empty _).symm
    | cons d r =>
      show one c ++ Str.ofString "" ++ Str.join (Str.ofString "") ((d :: r).map one) = _
      rw [ih, PySem.Str.append_assoc]
      exact congrArg _ (PySem.Str.empty_append _)
theorem join_ones {prog : Program} {w : World} {A : Around} {E : Value → Shared → Prop} {s : Shared} {D : Addr} {vs : List Value} {cs : List Int} {t : Tok} {Q : Value → Shared → Prop} (hl : s.heap.IsList D vs.toArray) (hi : StrsAre vs (cs.map one)) (hn : cs.length ≤ 2000)
    (h : ∀ t' k, Q (.str (textOf cs) t') { s with toks := k }) : wpAny (model prog w) A (call (.builtin "str.join") [.str (Str.ofString "") t, .ref D]) Q E s := by
  refine join_list hl (by simpa using hi) ?_ ?_
  · rw [sum_ones, List.length_map, show (Str.ofString "").length = 0 from rfl]; omega
  · intro t' k
    have := h t' k
    rw [← join_ones_eq] at this
    rw [show Txt.join (Str.ofString "") (cs.map one) = Str.join (Str.ofString "") (cs.map one) from StrLaws.glued_eq_join _ _]
    exact this
local macro_rules | `(tactic| walk_at "call builtin:str.join") => `(tactic| k_dflt (k_extra "my join"))
local macro_rules | `(tactic| walk_at "exec While Compare cons nil") => `(tactic| k_dflt (k_extra "my while"))
local macro_rules | `(tactic| walk_at "KswEnd") => `(tactic| k_dflt (k_extra "my end"))
local macro_rules | `(tactic| walk_at "my same") => `(tactic| k_extra "x15")
theorem xt15 : True := by
  k_with "x15" => ((intro zq7 h2q7 h3q7; (simp only [List.forall_mem_cons, List.not_mem_nil, false_implies, implies_true, and_true, ne_eq] at h2q7); (simp only [List.contains_cons, List.contains_nil, Bool.or_false, Bool.or_eq_false_iff, beq_eq_false_iff_ne, ne_eq] at h3q7); simp [kstB, h2q7, h3q7]))
  trivial
section
set_option pp.deepTerms false
set_option pp.deepTerms.threshold 8
theorem c_text_in (w : World) (x : Str) (l : List UInt8) (t t' : Tok) (hx : IsCs x) (hsz : l.length < 1000) : PC w 8 109 [.str x t, .bytes l.toArray t'] (RStr (textOf (signsFrom x l l.length 0))) := by
  unfold PC
  k_fill
  w_top off
  intro mean mg mb dp un gd cn cs a ccd cl outer A₀ base h₀ L m s Q E B F X T hk hd hu hret
  k_with_none
  k_with "x1" => ((refine wpAny_call ?_; first   | (refine' code_defG (news := []) ?k1x1 ?k2x1 ?k3x1 News.nil ?k5x1 ?kAx1 ?kFx1 ?kKx1 ?k6x1 ?k7x1 ?k8x1 ?k9x1 ?kBx1 ?_ ?c2x1 ?c3x1 ?c4x1 ?c5x1; (case kAx1 => exact rfl); (case kFx1 => exact rfl); (case kKx1 => assumption); (case k1x1 => k_asm); (case k2x1 => k_asm); (case k3x1 => k_asm); (case k5x1 => k_asm); (case k6x1 => k_is); (case k7x1 => k_is); (case k8x1 => ktr_room); (case k9x1 => exact BindsTo.of_eq rfl); (case c5x1 => decide); (case kBx1 => exact locs rfl); (case c2x1 => exact rfl); (case c3x1 => exact rfl); (case c4x1 => exact rfl); k_whole; intro gpq7 Lpq7 hpq7 FGpq7 Fpq7 Npq7 Bpq7 Xpq7 Tpq7 kGpq7; (try dsimp only); (try k_fold))   | (refine' code_defGC (news := []) ?k1x1 ?k2x1 ?k3x1 News.nil ?k5x1 ?kAx1 ?kFx1 ?kKx1 ?k6x1 ?k7x1 ?k8x1 ?k9x1 ?kBx1 ?kDx1 ?_ ?c2x1 ?c3x1 ?c4x1; (case kAx1 => exact rfl); (case kFx1 => exact rfl); (case kKx1 => assumption); (case k1x1 => k_asm); (case k2x1 => k_asm); (case k3x1 => k_asm); (case k5x1 => k_asm); (case k6x1 => k_is); (case k7x1 => k_is); (case k8x1 => ktr_room); (case k9x1 => exact BindsTo.of_eq rfl); (case kBx1 => exact rfl); (case kDx1 => decide +kernel); (case c2x1 => exact rfl); (case c3x1 => exact rfl); (case c4x1 => exact rfl); k_whole; intro gpq7 Lpq7 hpq7 tkpq7 cellspq7 FGpq7 Fpq7 Npq7 Ypq7 Bpq7 Xpq7 Tpq7 l1q7 kGpq7; clear l1q7; k_cells Ypq7; (try simp only [List.cons_append, List.nil_append] at Npq7); (try dsimp only); (try k_fold))))
  k_with "calls" => (cell_ask (c_need_charset _ _ _ (by assumption)))
  k_with "calls" => (cell_ask (c_has_sign _ _ _ _ _ (by assumption)))
  k_with "calls" => (cell_ask (c_utf8_octets _ _ _ (by assumption)))
  k_with "calls" => (cell_ask (c_utf8_sign _ _ _ _ _ (by first | assumption | omega) (by first | assumption | omega) (by first | assumption | omega)))
  k_with "calls" => (cell_ask (c_sign_at' _ _ _ _ _ _ _ (by assumption) (by first | assumption | omega) (by first | assumption | omega) (by first | assumption | omega)))
  k_with "x15" => ((intro zq7 h2q7 h3q7; (simp only [List.forall_mem_cons, List.not_mem_nil, false_implies, implies_true, and_true, ne_eq] at h2q7); (simp only [List.contains_cons, List.contains_nil, Bool.or_false, Bool.or_eq_false_iff, beq_eq_false_iff_ne, ne_eq] at h3q7); simp [kstB, h2q7, h3q7]))
  k_with "my while" =>
    (rename Fr _ _ _ _ => lF)
    (rename News _ _ _ _ => lN)
    (refine' ksw_while (σ := Int × Tok × List Value × List Str × Nat) (fun c => [(_, W.listOf c.2.2.1.toArray c.2.2.2.2)]) (fun c => [(Str.ofString "at", .int c.1 c.2.1)]) (fun c => StrsAre c.2.2.1 c.2.2.2.1) [Str.ofString "code", Str.ofString "length"] (fun c => 0 ≤ c.1 ∧ c.1 ≤ 1005 ∧ (c.2.2.2.1.length : Int) ≤ c.1 ∧ TI x l c.1 c.2.2.2.1) (fun c => ((l.length : Int) - c.1).toNat) (0, _, [], [], 0) lF ?kn ?kf ?kk ?kp ?_ ?hE)
    (case kn => exact lN)
    (case kf => exact StrsAre.nil)
    (case kk => kst_all)
    (case kp => exact ⟨by omega, by omega, by simp, TI.start x l⟩)
    (case hE => passes_own)
    (rintro ⟨i9, tk9, vs9, sg9, n9⟩ u9 h9 tk9' hf9 hp9 F9 N9)
    (dsimp only at hf9 hp9 N9)
    (obtain ⟨hp1, hp2, hp3, hp4⟩ := hp9)
    (clear lF lN)
    (try k_fold)
  k_with "my end" =>
    (rename News _ _ _ _ => nE)
    (try simp only [List.push_toArray] at nE)
    (refine' ksw_end (_, _, _, _, _) (by assumption) nE ?kn ?kf ?kk ?kr ?kp ?km)
    (case kn => exact List.forall_mem_cons.mpr ⟨by k_mem, List.forall_mem_nil _⟩)
    (case kk => kst_all)
    (case kr => walk_at "my same")
    (case kf => exact StrsAre.append' (by assumption) (.cons _ _ .nil))
    (case km => exact TI.less (by assumption) (by omega))
    (case kp => first | exact (TI.stepC (by assumption) hsz (by assumption) (by assumption)).facts | exact (TI.stepU (by assumption) hsz (by assumption) (by assumption)).facts)
  k_with "my join" =>
    (have hq := (by assumption : ¬ i9 < ((l.toArray.size : Nat) : Int)))
    (rw [List.size_toArray] at hq)
    (have e9 := hp4.done hq)
    (subst e9)
    (rw [List.length_map] at hp3)
    (refine join_ones (News.isList (by k_asm) (by k_mem)) (by assumption) (by omega) ?_)
    (intro t9 k9)
    (try dsimp only)
  k_dflt (walk_at "pc enter")
  k_steps
  all_goals exact pc_end hret (by assumption) (by assumption) (str_eq rfl)
end


theorem xt16 : True := by
  k_with "calls" => (cell_ask (c_text_in _ _ _ _ _ (by assumption) (by assumption)))
  trivial
/-- the place of the first octets that are no sign; -1 where there are none -/
noncomputable def badFrom (x : Str) (l : List UInt8) : Nat → Int → Int
  | 0, _ => -1
  | f + 1, i => if i < l.length then (if (signAt x l i).1 < 0 then i else badFrom x l f (i + (signAt x l i).2)) else -1
noncomputable def SI (x : Str) (l : List UInt8) (i : Int) (sg : List Str) : Prop := TI x l i sg ∧ ∃ f : Nat, (l.length : Int) - i ≤ f ∧ badFrom x l f i = badFrom x l l.length 0
theorem SI.start (x : Str) (l : List UInt8) : SI x l 0 [] := ⟨TI.start x l, l.length, by omega, rfl⟩
theorem SI.step {x : Str} {l : List UInt8} {i : Int} {sg : List Str} (h : SI x l i sg) (hsz : l.length < 1000) (hi : i < l.toArray.size) (hc : ¬ (signAt x l i).1 < 0) : SI x l (i + (signAt x l i).2) (sg ++ [⟨#[(signAt x l i).1.toNat]⟩]) := by
  obtain ⟨h1, f, h2, h3⟩ := h
  have hi' : i < l.length := by simpa using hi
  have hb := signAt_bounds x l i
  obtain ⟨f, rfl⟩ : ∃ g, f = g + 1 := ⟨f - 1, by omega⟩
  refine ⟨h1.stepC hsz hi (by omega), f, by push_cast at h2; omega, ?_⟩
  rw [← h3, badFrom, if_pos hi', if_neg hc]
theorem SI.bad {x : Str} {l : List UInt8} {i : Int} {sg : List Str} (h : SI x l i sg) (hi : i < l.toArray.size) (hc : (signAt x l i).1 < 0) : badFrom x l l.length 0 = i := by
  obtain ⟨h1, f, h2, h3⟩ := h
  have hi' : i < l.length := by simpa using hi
  obtain ⟨f, rfl⟩ : ∃ g, f = g + 1 := ⟨f - 1, by omega⟩
  rw [← h3, badFrom, if_pos hi', if_pos hc]
theorem SI.good {x : Str} {l : List UInt8} {i : Int} {sg : List Str} (h : SI x l i sg) (hi : ¬ i < l.length) : badFrom x l l.length 0 = -1 := by
  obtain ⟨h1, f, h2, h3⟩ := h
  rw [← h3]
  cases f with
  | zero => rfl
  | succ f => rw [badFrom, if_neg hi]
theorem SI.ok {x : Str} {l : List UInt8} {i : Int} {sg : List Str} (h : SI x l i sg) (hb : badFrom x l l.length 0 = -1) : (l.toArray.size : Int) ≤ i ∨ 0 ≤ (signAt x l i).1 := by
  by_cases hi : i < l.toArray.size
  · by_cases hc : (signAt x l i).1 < 0
    · have := h.bad hi hc
      have := h.1.1
      omega
    · exact .inr (by omega)
  · exact .inl (by omega)
theorem SI.facts {x : Str} {l : List UInt8} {i : Int} {sg : List Str} (h : SI x l i sg) (hb : badFrom x l l.length 0 = -1) : 0 ≤ i ∧ i ≤ 1005 ∧ (sg.length : Int) ≤ i ∧ ((l.toArray.size : Int) ≤ i ∨ 0 ≤ (signAt x l i).1) ∧ SI x l i sg := ⟨h.1.1, h.1.2.1, h.1.2.2.1, h.ok hb, h⟩
section
set_option pp.deepTerms false
set_option pp.deepTerms.threshold 8
theorem c_strict_text (w : World) (x : Str) (l : List UInt8) (t t' : Tok) (hx : IsCs x) (hsz : l.length < 1000) (hb : badFrom x l l.length 0 = -1) : PC w 8 116 [.str x t, .bytes l.toArray t'] (RStr (textOf (signsFrom x l l.length 0))) := by
  unfold PC
  k_fill
  w_top off
  intro mean mg mb dp un gd cn cs a ccd cl outer A₀ base h₀ L m s Q E B F X T hk hd hu hret
  k_with_none
  k_with "x1" => ((refine wpAny_call ?_; first   | (refine' code_defG (news := []) ?k1x1 ?k2x1 ?k3x1 News.nil ?k5x1 ?kAx1 ?kFx1 ?kKx1 ?k6x1 ?k7x1 ?k8x1 ?k9x1 ?kBx1 ?_ ?c2x1 ?c3x1 ?c4x1 ?c5x1; (case kAx1 => exact rfl); (case kFx1 => exact rfl); (case kKx1 => assumption); (case k1x1 => k_asm); (case k2x1 => k_asm); (case k3x1 => k_asm); (case k5x1 => k_asm); (case k6x1 => k_is); (case k7x1 => k_is); (case k8x1 => ktr_room); (case k9x1 => exact BindsTo.of_eq rfl); (case c5x1 => decide); (case kBx1 => exact locs rfl); (case c2x1 => exact rfl); (case c3x1 => exact rfl); (case c4x1 => exact rfl); k_whole; intro gpq7 Lpq7 hpq7 FGpq7 Fpq7 Npq7 Bpq7 Xpq7 Tpq7 kGpq7; (try dsimp only); (try k_fold))   | (refine' code_defGC (news := []) ?k1x1 ?k2x1 ?k3x1 News.nil ?k5x1 ?kAx1 ?kFx1 ?kKx1 ?k6x1 ?k7x1 ?k8x1 ?k9x1 ?kBx1 ?kDx1 ?_ ?c2x1 ?c3x1 ?c4x1; (case kAx1 => exact rfl); (case kFx1 => exact rfl); (case kKx1 => assumption); (case k1x1 => k_asm); (case k2x1 => k_asm); (case k3x1 => k_asm); (case k5x1 => k_asm); (case k6x1 => k_is); (case k7x1 => k_is); (case k8x1 => ktr_room); (case k9x1 => exact BindsTo.of_eq rfl); (case kBx1 => exact rfl); (case kDx1 => decide +kernel); (case c2x1 => exact rfl); (case c3x1 => exact rfl); (case c4x1 => exact rfl); k_whole; intro gpq7 Lpq7 hpq7 tkpq7 cellspq7 FGpq7 Fpq7 Npq7 Ypq7 Bpq7 Xpq7 Tpq7 l1q7 kGpq7; clear l1q7; k_cells Ypq7; (try simp only [List.cons_append, List.nil_append] at Npq7); (try dsimp only); (try k_fold))))
  k_with "calls" => (cell_ask (c_need_charset _ _ _ (by assumption)))
  k_with "calls" => (cell_ask (c_has_sign _ _ _ _ _ (by assumption)))
  k_with "calls" => (cell_ask (c_utf8_octets _ _ _ (by assumption)))
  k_with "calls" => (cell_ask (c_utf8_sign _ _ _ _ _ (by first | assumption | omega) (by first | assumption | omega) (by first | assumption | omega)))
  k_with "calls" => (cell_ask (c_sign_at' _ _ _ _ _ _ _ (by assumption) (by first | assumption | omega) (by first | assumption | omega) (by first | assumption | omega)))
  k_with "x15" => ((intro zq7 h2q7 h3q7; (simp only [List.forall_mem_cons, List.not_mem_nil, false_implies, implies_true, and_true, ne_eq] at h2q7); (simp only [List.contains_cons, List.contains_nil, Bool.or_false, Bool.or_eq_false_iff, beq_eq_false_iff_ne, ne_eq] at h3q7); simp [kstB, h2q7, h3q7]))
  k_with "calls" => (cell_ask (c_text_in _ _ _ _ _ (by assumption) (by assumption)))
  k_with "my while" =>
    (rename Fr _ _ _ _ => lF)
    (rename News _ _ _ _ => lN)
    (refine' ksw_while (σ := Int × Tok × List Value × List Str × Nat) (fun c => [(_, W.listOf c.2.2.1.toArray c.2.2.2.2)]) (fun c => [(Str.ofString "at", .int c.1 c.2.1)]) (fun c => StrsAre c.2.2.1 c.2.2.2.1) [Str.ofString "code", Str.ofString "length"] (fun c => 0 ≤ c.1 ∧ c.1 ≤ 1005 ∧ (c.2.2.2.1.length : Int) ≤ c.1 ∧ ((l.toArray.size : Int) ≤ c.1 ∨ 0 ≤ (signAt x l c.1).1) ∧ SI x l c.1 c.2.2.2.1) (fun c => ((l.length : Int) - c.1).toNat) (0, _, [], [], 0) lF ?kn ?kf ?kk ?kp ?_ ?hE)
    (case kn => exact lN)
    (case kf => exact StrsAre.nil)
    (case kk => kst_all)
    (case kp => exact (SI.start x l).facts hb)
    (case hE => passes_own)
    (rintro ⟨i9, tk9, vs9, sg9, n9⟩ u9 h9 tk9' hf9 hp9 F9 N9)
    (dsimp only at hf9 hp9 N9)
    (obtain ⟨hp1, hp2, hp3, hp5, hp4⟩ := hp9)
    (clear lF lN)
    (try k_fold)
  k_with "my end" =>
    (rename News _ _ _ _ => nE)
    (try simp only [List.push_toArray] at nE)
    (refine' ksw_end (_, _, _, _, _) (by assumption) nE ?kn ?kf ?kk ?kr ?kp ?km)
    (case kn => exact List.forall_mem_cons.mpr ⟨by k_mem, List.forall_mem_nil _⟩)
    (case kk => kst_all)
    (case kr => walk_at "my same")
    (case kf => exact StrsAre.append' (by assumption) (.cons _ _ .nil))
    (case km => exact TI.less (by assumption) (by omega))
    (case kp => exact (SI.step (by assumption) hsz (by assumption) (by first | assumption | omega)).facts hb)
  k_with "my join" =>
    (have hq := (by assumption : ¬ i9 < ((l.toArray.size : Nat) : Int)))
    (rw [List.size_toArray] at hq)
    (have e9 := hp4.1.done hq)
    (subst e9)
    (rw [List.length_map] at hp3)
    (refine join_ones (News.isList (by k_asm) (by k_mem)) (by assumption) (by omega) ?_)
    (intro t9 k9)
    (try dsimp only)
  k_dflt (walk_at "pc enter")
  k_steps
  all_goals exact pc_end hret (by assumption) (by assumption) (str_eq rfl)
end


theorem xt17 : True := by
  k_with "calls" => (cell_ask (c_strict_text _ _ _ _ _ (by assumption) (by assumption) (by assumption)))
  trivial
theorem textOf_length (cs : List Int) : (textOf cs).length = cs.length := by
  show ((cs.map Int.toNat).toArray).size = cs.length
  simp
section
variable {prog : Program} {w : World} {A : Around} {E : Value → Shared → Prop} {s : Shared}
theorem item_text {value slice : Expr} {cs : List Int} {i : Int} {t u : Tok} {Q : Value → Shared → Prop} (h0 : 0 ≤ i) (h1 : i < cs.length) (hn : cs.length < 2000)
    (h : Q (.str (one (cs.getD i.toNat 0)) s.toks) { s with toks := s.toks + 1 })
    (hs : subscripted slice false (.str (textOf cs) t) (.int i u) = operate [.str (textOf cs) t, .int i u] (getItem (.str (textOf cs) t) (.int i u)) := by with_unfolding_all rfl) :
    wpAny (model prog w) A (subscriptTail value slice (.str (textOf cs) t) (.int i u)) Q E s := by
  have hl : i.toNat < cs.length := by omega
  refine tail_any (typeIs_str _ _ _) PySem.F.slot_str_getitem.lookup (P.getItem_str (c := (cs.getD i.toNat 0).toNat) ?_ ?_ h) hs
  · rw [decide_eq_false (by omega), decide_eq_false (by omega)]; rfl
  · have e1 : seqIndex? i (textOf cs).length = some i.toNat := by
      rw [textOf_length]
      unfold seqIndex?
      (repeat' split) <;> first | rfl | (exfalso; omega) | (simp; omega)
    rw [e1]
    show (cs.map Int.toNat).toArray[i.toNat]? = some _
    simp [List.getD_eq_getElem?_getD, hl]
theorem len_text {cs : List Int} {t : Tok} {Q : Value → Shared → Prop} (hn : cs.length < 2000) (h : Q (.int (cs.length : Int) (s.toks + 1)) { s with toks := s.toks + 1 + 1 }) : wpAny (model prog w) A (call (.builtin "len") [.str (textOf cs) t]) Q E s := by
  refine P.len_str ?_ ?_
  · rw [textOf_length]; omega
  · rw [textOf_length]; exact h
theorem ord_one {c : Int} {t : Tok} {Q : Value → Shared → Prop} (h0 : 0 ≤ c) (h : Q (.int c s.toks) { s with toks := s.toks + 1 }) : wpAny (model prog w) A (call (.builtin "ord") [.str (one c) t]) Q E s := by
  refine P.ord_of_char (c := c.toNat) ?_
  rw [Int.toNat_of_nonneg h0]
  exact h
end
local macro_rules | `(tactic| walk_at "subscriptTail Name Name str int") => `(tactic| k_extra "x18")
local macro_rules | `(tactic| walk_at "call builtin:len cons") => `(tactic| k_extra "x19")
local macro_rules | `(tactic| walk_at "call builtin:ord cons") => `(tactic| k_extra "x20")
theorem xt20 : True := by
  k_with "x18" => ((k_here; k_dflt (refine item_text (by first | assumption | omega) (by first | assumption | omega) (by first | assumption | omega) ?_)))
  k_with "x19" => ((k_here; k_dflt (refine len_text (by first | assumption | omega) ?_)))
  k_with "x20" => ((k_here; k_dflt (refine ord_one (by first | assumption | omega) ?_)))
  trivial
noncomputable def encAll (u : Bool) (cs : List Int) : List Int := cs.flatMap fun c => if u then encL c else [c]
noncomputable def toB (ns : List Int) : List UInt8 := ns.map fun n => n.toNat.toUInt8
theorem c_has_sign_true (w : World) (x : Str) (c : Int) (t t' : Tok) (hx : IsCs x) (h : hasSign x c = true) : PC w 4 123 [.str x t, .int c t'] (RBool true) := h ▸ c_has_sign w x c t t' hx
local macro_rules | `(tactic| walk_at "InvEndN") => `(tactic| k_dflt (k_extra "my end"))
local macro_rules | `(tactic| walk_at "pyIter ref") => `(tactic| k_dflt (k_extra "my for"))
local macro_rules | `(tactic| walk_at "my same2") => `(tactic| k_extra "x22")
theorem xt22 : True := by
  k_with "calls" => (cell_ask (c_has_sign_true _ _ _ _ _ (by assumption) (by assumption)))
  k_with "x22" => ((intro zq7 h1q7 h2q7 h3q7; (simp only [List.forall_mem_cons, List.not_mem_nil, false_implies, implies_true, and_true, ne_eq] at h2q7); (simp only [List.contains_cons, List.contains_nil, Bool.or_false, Bool.or_eq_false_iff, beq_eq_false_iff_ne, ne_eq] at h3q7); simp [kstB, h1q7, h2q7, h3q7]))
  trivial
theorem getD_mem {cs : List Int} {k : Nat} (h : k < cs.length) : cs.getD k 0 ∈ cs := by
  rw [List.getD_eq_getElem?_getD, List.getElem?_eq_getElem h]
  exact List.getElem_mem h
theorem sizeEnc {x : Str} {c : Int} (h : hasSign x c = true) (e : x = sU) : 0 < u8len c := by
  subst e
  rw [hasSign, if_pos rfl, decide_eq_true_eq] at h
  exact h
theorem encL_len (c : Int) : 1 ≤ (encL c).length ∧ (encL c).length ≤ 4 := by
  unfold encL; (repeat' split) <;> simp
theorem encAll_len (u : Bool) (cs : List Int) : (encAll u cs).length ≤ 4 * cs.length := by
  induction cs with
  | nil => simp [encAll]
  | cons c r ih =>
    have h4 := (encL_len c).2
    have e : encAll u (c :: r) = (if u then encL c else [c]) ++ encAll u r := rfl
    rw [e, List.length_append, List.length_cons]
    cases u with
    | true => simp only [if_true]; omega
    | false => simp only [Bool.false_eq_true, if_false, List.length_singleton]; omega
theorem encAll_snoc (u : Bool) {cs : List Int} {k : Nat} (h : k < cs.length) : encAll u (cs.take (k + 1)) = encAll u (cs.take k) ++ (if u then encL (cs.getD k 0) else [cs.getD k 0]) := by
  unfold encAll
  rw [List.take_add_one, List.getElem?_eq_getElem h, List.flatMap_append, List.getD_eq_getElem?_getD, List.getElem?_eq_getElem h]
  simp
theorem enc_lo {c n : Int} (h0 : 0 ≤ c) (h1 : c ≤ 1114111) (hn : n ∈ encL c) : 0 ≤ n ∧ n < 256 := by
  unfold encL at hn
  (repeat' split at hn) <;> simp only [List.mem_cons, List.not_mem_nil, or_false] at hn <;> (rcases hn with rfl | hn) <;> first | omega | ((rcases hn with rfl | hn) <;> first | omega | ((rcases hn with rfl | hn) <;> first | omega | (subst hn; omega)))
theorem u8len_hi {c : Int} (h : 0 < u8len c) : c ≤ 1114111 := by rcases u8len_cases h with h | h | h | h <;> omega
theorem encAll_bytes {x : Str} {cs : List Int} (hall : ∀ c ∈ cs, 0 ≤ c ∧ hasSign x c = true) : ∀ n ∈ encAll (decide (x = sU)) cs, 0 ≤ n ∧ n < 256 := by
  intro n hn
  obtain ⟨c, hc, hn⟩ := List.mem_flatMap.mp hn
  obtain ⟨h0, h1⟩ := hall c hc
  by_cases e : x = sU
  · rw [decide_eq_true e, if_pos rfl] at hn
    exact enc_lo h0 (u8len_hi (sizeEnc h1 e)) hn
  · rw [decide_eq_false e, if_neg (by decide)] at hn
    rw [List.mem_singleton.mp hn]
    rw [hasSign, if_neg e, decide_eq_true_eq] at h1
    split at h1 <;> omega
section
variable {prog : Program} {w : World} {A : Around} {E : Value → Shared → Prop} {s : Shared} {h₀ : Heap} {L : Addr} {m : Str → Option Value} {news news' : List (Addr × Obj)}
theorem my_extend {D b : Addr} {vs ws : List Value} {n n2 : Nat} {ms : List Int} {Q : Value → Shared → Prop} (F : Fr h₀ L s.heap m) (N : News h₀ L s.heap news) (hb : (b, W.listOf ws.toArray n2) ∈ news) (hi : IntsAre ws ms) (h1 : 1 ≤ ms.length) (h4 : ms.length ≤ 4) (hz : vs.length ≤ 2000)
    (U : Upd D (W.listOf vs.toArray n) (W.listOf (vs ++ ws).toArray (n + 1)) news news') (h : ∀ h', Fr h₀ L h' m → News h₀ L h' news' → Q .none { s with heap := h' }) : wpAny (model prog w) A (call (.builtin "list.extend") [.ref D, .ref b]) Q E s := by
  have hl := hi.length
  refine kl_extend F N hb (by simp) (by show ws.length ≠ 0; omega) U (extend_door ?_) ?_ ?_ h
  · rw [sizeLine_eq]; simp; omega
  · rw [sizeLine_eq]; simp; omega
  · rw [sizeLine_eq]; simp; omega
end
theorem enc_step {u : Bool} {cs pre ns ms : List Int} {k : Int} (hp : ns = encAll u (cs.take pre.length)) (hk : k = 0 + (pre.length : Int)) (hlt : pre.length < cs.length) (hm : ms = if u then encL (cs.getD k.toNat 0) else [cs.getD k.toNat 0]) : ns ++ ms = encAll u (cs.take (pre ++ [k]).length) := by
  have e : k.toNat = pre.length := by omega
  rw [e] at hm
  rw [List.length_append, List.length_singleton, encAll_snoc u hlt, hp, hm]
theorem ints_app {vs ws : List Value} {ns ms : List Int} (h : IntsAre vs ns) (g : IntsAre ws ms) : IntsAre (vs ++ ws) (ns ++ ms) := by
  induction h with
  | nil => exact g
  | cons n t _ ih => exact .cons n t ih
section
local macro_rules | `(tactic| walk_at "call ref cons") => `(tactic| k_extra "x23")
local macro_rules | `(tactic| walk_at "exec For Name Call cons nil") => `(tactic| k_extra "x24")
local macro_rules | `(tactic| walk_at "call builtin:list.extend") => `(tactic| k_extra "x25")
local macro_rules | `(tactic| walk_at "call type:bytes") => `(tactic| k_dflt (k_extra "my bytes"))
theorem xt25 : True := by
  k_with "x23" => (cell_ask (c_utf8_octets _ _ _ (sizeEnc (by assumption) (beq_iff_eq.mp (by assumption)))))
  k_with "x24" => ((k_here; (rename Fr _ _ _ _ => lFpq7); (with_unfolding_all refine' For_invVF lFpq7 ?k1x24a ?k2x24a ?_; (case k1x24a => exact rfl); (case k2x24a => exact rfl); k_whole)))
  k_with "x24" => ((k_here; (rename Fr _ _ _ _ => lFpq7); (with_unfolding_all refine' For_invVF lFpq7 ?k1x24b ?k2x24b ?_; (case k1x24b => exact rfl); (case k2x24b => exact rfl); k_whole)))
  k_with "x24" => ((k_here; (rename Fr _ _ _ _ => lFpq7); (with_unfolding_all refine' For_invVF lFpq7 ?k1x24c ?k2x24c ?_; (case k1x24c => exact rfl); (case k2x24c => exact rfl); k_whole)))
  k_with "x24" => ((k_here; (rename Fr _ _ _ _ => lFpq7); (with_unfolding_all refine' For_invVF lFpq7 ?k1x24d ?k2x24d ?_; (case k1x24d => exact rfl); (case k2x24d => exact rfl); k_whole)))
  k_with "x24" => ((k_here; (rename Fr _ _ _ _ => lFpq7); (with_unfolding_all refine' For_invVF lFpq7 ?k1x24e ?k2x24e ?_; (case k1x24e => exact rfl); (case k2x24e => exact rfl); k_whole)))
  k_with "x24" => ((k_here; (rename Fr _ _ _ _ => lFpq7); (with_unfolding_all refine' For_invVF lFpq7 ?k1x24f ?k2x24f ?_; (case k1x24f => exact rfl); (case k2x24f => exact rfl); k_whole)))
  k_with "x24" => ((k_here; (rename Fr _ _ _ _ => lFpq7); (with_unfolding_all refine' For_invVF lFpq7 ?k1x24g ?k2x24g ?_; (case k1x24g => exact rfl); (case k2x24g => exact rfl); k_whole)))
  k_with "x24" => ((k_here; (rename Fr _ _ _ _ => lFpq7); (with_unfolding_all refine' For_invVF lFpq7 ?k1x24h ?k2x24h ?_; (case k1x24h => exact rfl); (case k2x24h => exact rfl); k_whole)))
  k_with "x24" => ((k_here; (rename Fr _ _ _ _ => lFpq7); (with_unfolding_all refine' For_invVF lFpq7 ?k1x24i ?k2x24i ?_; (case k1x24i => exact rfl); (case k2x24i => exact rfl); k_whole)))
  k_with "x24" => ((k_here; (rename Fr _ _ _ _ => lFpq7); (with_unfolding_all refine' For_invVF lFpq7 ?k1x24j ?k2x24j ?_; (case k1x24j => exact rfl); (case k2x24j => exact rfl); k_whole)))
  k_with "x24" => ((k_here; (rename Fr _ _ _ _ => lFpq7); (with_unfolding_all refine' For_invVF lFpq7 ?k1x24k ?k2x24k ?_; (case k1x24k => exact rfl); (case k2x24k => exact rfl); k_whole)))
  k_with "x24" => ((k_here; (rename Fr _ _ _ _ => lFpq7); (with_unfolding_all refine' For_invVF lFpq7 ?k1x24l ?k2x24l ?_; (case k1x24l => exact rfl); (case k2x24l => exact rfl); k_whole)))
  k_with "x24" => ((k_here; (rename Fr _ _ _ _ => lFpq7); (with_unfolding_all refine' For_invVF lFpq7 ?k1x24m ?k2x24m ?_; (case k1x24m => exact rfl); (case k2x24m => exact rfl); k_whole)))
  k_with "x24" => ((k_here; (rename Fr _ _ _ _ => lFpq7); (with_unfolding_all refine' For_invVF lFpq7 ?k1x24n ?k2x24n ?_; (case k1x24n => exact rfl); (case k2x24n => exact rfl); k_whole)))
  k_with "x24" => ((k_here; (rename Fr _ _ _ _ => lFpq7); (with_unfolding_all refine' For_invVF lFpq7 ?k1x24o ?k2x24o ?_; (case k1x24o => exact rfl); (case k2x24o => exact rfl); k_whole)))
  k_with "x24" => ((k_here; (rename Fr _ _ _ _ => lFpq7); (with_unfolding_all refine' For_invVF lFpq7 ?k1x24p ?k2x24p ?_; (case k1x24p => exact rfl); (case k2x24p => exact rfl); k_whole)))
  k_with "x25" => ((k_here; k_dflt (refine' my_extend ?Fx25a ?Nx25a ?bx25a ?ix25a ?h1x25a ?h4x25a ?zx25a ?Ux25a ?_; (case Fx25a => k_asm); (case Nx25a => k_asm); (case bx25a => k_mem); (case ix25a => assumption); (case h1x25a => exact (encL_len _).1); (case h4x25a => exact (encL_len _).2); (case Ux25a => k_upd); (case zx25a => omega)); intro hpq7 Fpq7 Npq7))
  k_with "x25" => ((k_here; k_dflt (refine' my_extend ?Fx25b ?Nx25b ?bx25b ?ix25b ?h1x25b ?h4x25b ?zx25b ?Ux25b ?_; (case Fx25b => k_asm); (case Nx25b => k_asm); (case bx25b => k_mem); (case ix25b => assumption); (case h1x25b => exact (encL_len _).1); (case h4x25b => exact (encL_len _).2); (case Ux25b => k_upd); (case zx25b => omega)); intro hpq7 Fpq7 Npq7))
  k_with "x25" => ((k_here; k_dflt (refine' my_extend ?Fx25c ?Nx25c ?bx25c ?ix25c ?h1x25c ?h4x25c ?zx25c ?Ux25c ?_; (case Fx25c => k_asm); (case Nx25c => k_asm); (case bx25c => k_mem); (case ix25c => assumption); (case h1x25c => exact (encL_len _).1); (case h4x25c => exact (encL_len _).2); (case Ux25c => k_upd); (case zx25c => omega)); intro hpq7 Fpq7 Npq7))
  k_with "x25" => ((k_here; k_dflt (refine' my_extend ?Fx25d ?Nx25d ?bx25d ?ix25d ?h1x25d ?h4x25d ?zx25d ?Ux25d ?_; (case Fx25d => k_asm); (case Nx25d => k_asm); (case bx25d => k_mem); (case ix25d => assumption); (case h1x25d => exact (encL_len _).1); (case h4x25d => exact (encL_len _).2); (case Ux25d => k_upd); (case zx25d => omega)); intro hpq7 Fpq7 Npq7))
  k_with "x25" => ((k_here; k_dflt (refine' my_extend ?Fx25e ?Nx25e ?bx25e ?ix25e ?h1x25e ?h4x25e ?zx25e ?Ux25e ?_; (case Fx25e => k_asm); (case Nx25e => k_asm); (case bx25e => k_mem); (case ix25e => assumption); (case h1x25e => exact (encL_len _).1); (case h4x25e => exact (encL_len _).2); (case Ux25e => k_upd); (case zx25e => omega)); intro hpq7 Fpq7 Npq7))
  k_with "x25" => ((k_here; k_dflt (refine' my_extend ?Fx25f ?Nx25f ?bx25f ?ix25f ?h1x25f ?h4x25f ?zx25f ?Ux25f ?_; (case Fx25f => k_asm); (case Nx25f => k_asm); (case bx25f => k_mem); (case ix25f => assumption); (case h1x25f => exact (encL_len _).1); (case h4x25f => exact (encL_len _).2); (case Ux25f => k_upd); (case zx25f => omega)); intro hpq7 Fpq7 Npq7))
  k_with "x25" => ((k_here; k_dflt (refine' my_extend ?Fx25g ?Nx25g ?bx25g ?ix25g ?h1x25g ?h4x25g ?zx25g ?Ux25g ?_; (case Fx25g => k_asm); (case Nx25g => k_asm); (case bx25g => k_mem); (case ix25g => assumption); (case h1x25g => exact (encL_len _).1); (case h4x25g => exact (encL_len _).2); (case Ux25g => k_upd); (case zx25g => omega)); intro hpq7 Fpq7 Npq7))
  k_with "x25" => ((k_here; k_dflt (refine' my_extend ?Fx25h ?Nx25h ?bx25h ?ix25h ?h1x25h ?h4x25h ?zx25h ?Ux25h ?_; (case Fx25h => k_asm); (case Nx25h => k_asm); (case bx25h => k_mem); (case ix25h => assumption); (case h1x25h => exact (encL_len _).1); (case h4x25h => exact (encL_len _).2); (case Ux25h => k_upd); (case zx25h => omega)); intro hpq7 Fpq7 Npq7))
  k_with "x25" => ((k_here; k_dflt (refine' my_extend ?Fx25i ?Nx25i ?bx25i ?ix25i ?h1x25i ?h4x25i ?zx25i ?Ux25i ?_; (case Fx25i => k_asm); (case Nx25i => k_asm); (case bx25i => k_mem); (case ix25i => assumption); (case h1x25i => exact (encL_len _).1); (case h4x25i => exact (encL_len _).2); (case Ux25i => k_upd); (case zx25i => omega)); intro hpq7 Fpq7 Npq7))
  k_with "x25" => ((k_here; k_dflt (refine' my_extend ?Fx25j ?Nx25j ?bx25j ?ix25j ?h1x25j ?h4x25j ?zx25j ?Ux25j ?_; (case Fx25j => k_asm); (case Nx25j => k_asm); (case bx25j => k_mem); (case ix25j => assumption); (case h1x25j => exact (encL_len _).1); (case h4x25j => exact (encL_len _).2); (case Ux25j => k_upd); (case zx25j => omega)); intro hpq7 Fpq7 Npq7))
  k_with "x25" => ((k_here; k_dflt (refine' my_extend ?Fx25k ?Nx25k ?bx25k ?ix25k ?h1x25k ?h4x25k ?zx25k ?Ux25k ?_; (case Fx25k => k_asm); (case Nx25k => k_asm); (case bx25k => k_mem); (case ix25k => assumption); (case h1x25k => exact (encL_len _).1); (case h4x25k => exact (encL_len _).2); (case Ux25k => k_upd); (case zx25k => omega)); intro hpq7 Fpq7 Npq7))
  k_with "x25" => ((k_here; k_dflt (refine' my_extend ?Fx25l ?Nx25l ?bx25l ?ix25l ?h1x25l ?h4x25l ?zx25l ?Ux25l ?_; (case Fx25l => k_asm); (case Nx25l => k_asm); (case bx25l => k_mem); (case ix25l => assumption); (case h1x25l => exact (encL_len _).1); (case h4x25l => exact (encL_len _).2); (case Ux25l => k_upd); (case zx25l => omega)); intro hpq7 Fpq7 Npq7))
  k_with "x25" => ((k_here; k_dflt (refine' my_extend ?Fx25m ?Nx25m ?bx25m ?ix25m ?h1x25m ?h4x25m ?zx25m ?Ux25m ?_; (case Fx25m => k_asm); (case Nx25m => k_asm); (case bx25m => k_mem); (case ix25m => assumption); (case h1x25m => exact (encL_len _).1); (case h4x25m => exact (encL_len _).2); (case Ux25m => k_upd); (case zx25m => omega)); intro hpq7 Fpq7 Npq7))
  k_with "x25" => ((k_here; k_dflt (refine' my_extend ?Fx25n ?Nx25n ?bx25n ?ix25n ?h1x25n ?h4x25n ?zx25n ?Ux25n ?_; (case Fx25n => k_asm); (case Nx25n => k_asm); (case bx25n => k_mem); (case ix25n => assumption); (case h1x25n => exact (encL_len _).1); (case h4x25n => exact (encL_len _).2); (case Ux25n => k_upd); (case zx25n => omega)); intro hpq7 Fpq7 Npq7))
  k_with "x25" => ((k_here; k_dflt (refine' my_extend ?Fx25o ?Nx25o ?bx25o ?ix25o ?h1x25o ?h4x25o ?zx25o ?Ux25o ?_; (case Fx25o => k_asm); (case Nx25o => k_asm); (case bx25o => k_mem); (case ix25o => assumption); (case h1x25o => exact (encL_len _).1); (case h4x25o => exact (encL_len _).2); (case Ux25o => k_upd); (case zx25o => omega)); intro hpq7 Fpq7 Npq7))
  k_with "x25" => ((k_here; k_dflt (refine' my_extend ?Fx25p ?Nx25p ?bx25p ?ix25p ?h1x25p ?h4x25p ?zx25p ?Ux25p ?_; (case Fx25p => k_asm); (case Nx25p => k_asm); (case bx25p => k_mem); (case ix25p => assumption); (case h1x25p => exact (encL_len _).1); (case h4x25p => exact (encL_len _).2); (case Ux25p => k_upd); (case zx25p => omega)); intro hpq7 Fpq7 Npq7))
  trivial
set_option pp.deepTerms false
set_option pp.deepTerms.threshold 8
theorem c_octets_in0 (w : World) (x : Str) (cs : List Int) (t t' : Tok) (hx : IsCs x) (hsz : cs.length < 100) (hall : ∀ c ∈ cs, 0 ≤ c ∧ hasSign x c = true) : PC w 8 130 [.str x t, .str (textOf cs) t'] (RBytes (toB (encAll (decide (x = sU)) cs)).toArray) := by
  unfold PC
  k_fill
  w_top off
  intro mean mg mb dp un gd cn cs' a ccd cl outer A₀ base h₀ L m s Q E B F X T hk hd hu hret
  k_with_none
  k_with "x1" => ((refine wpAny_call ?_; first   | (refine' code_defG (news := []) ?k1x1 ?k2x1 ?k3x1 News.nil ?k5x1 ?kAx1 ?kFx1 ?kKx1 ?k6x1 ?k7x1 ?k8x1 ?k9x1 ?kBx1 ?_ ?c2x1 ?c3x1 ?c4x1 ?c5x1; (case kAx1 => exact rfl); (case kFx1 => exact rfl); (case kKx1 => assumption); (case k1x1 => k_asm); (case k2x1 => k_asm); (case k3x1 => k_asm); (case k5x1 => k_asm); (case k6x1 => k_is); (case k7x1 => k_is); (case k8x1 => ktr_room); (case k9x1 => exact BindsTo.of_eq rfl); (case c5x1 => decide); (case kBx1 => exact locs rfl); (case c2x1 => exact rfl); (case c3x1 => exact rfl); (case c4x1 => exact rfl); k_whole; intro gpq7 Lpq7 hpq7 FGpq7 Fpq7 Npq7 Bpq7 Xpq7 Tpq7 kGpq7; (try dsimp only); (try k_fold))   | (refine' code_defGC (news := []) ?k1x1 ?k2x1 ?k3x1 News.nil ?k5x1 ?kAx1 ?kFx1 ?kKx1 ?k6x1 ?k7x1 ?k8x1 ?k9x1 ?kBx1 ?kDx1 ?_ ?c2x1 ?c3x1 ?c4x1; (case kAx1 => exact rfl); (case kFx1 => exact rfl); (case kKx1 => assumption); (case k1x1 => k_asm); (case k2x1 => k_asm); (case k3x1 => k_asm); (case k5x1 => k_asm); (case k6x1 => k_is); (case k7x1 => k_is); (case k8x1 => ktr_room); (case k9x1 => exact BindsTo.of_eq rfl); (case kBx1 => exact rfl); (case kDx1 => decide +kernel); (case c2x1 => exact rfl); (case c3x1 => exact rfl); (case c4x1 => exact rfl); k_whole; intro gpq7 Lpq7 hpq7 tkpq7 cellspq7 FGpq7 Fpq7 Npq7 Ypq7 Bpq7 Xpq7 Tpq7 l1q7 kGpq7; clear l1q7; k_cells Ypq7; (try simp only [List.cons_append, List.nil_append] at Npq7); (try dsimp only); (try k_fold))))
  k_with "calls" => (cell_ask (c_need_charset _ _ _ (by assumption)))
  k_with "calls" => (cell_ask (c_has_sign _ _ _ _ _ (by assumption)))
  k_with "calls" => (cell_ask (c_utf8_octets _ _ _ (by assumption)))
  k_with "calls" => (cell_ask (c_utf8_sign _ _ _ _ _ (by first | assumption | omega) (by first | assumption | omega) (by first | assumption | omega)))
  k_with "calls" => (cell_ask (c_sign_at' _ _ _ _ _ _ _ (by assumption) (by first | assumption | omega) (by first | assumption | omega) (by first | assumption | omega)))
  k_with "x15" => ((intro zq7 h2q7 h3q7; (simp only [List.forall_mem_cons, List.not_mem_nil, false_implies, implies_true, and_true, ne_eq] at h2q7); (simp only [List.contains_cons, List.contains_nil, Bool.or_false, Bool.or_eq_false_iff, beq_eq_false_iff_ne, ne_eq] at h3q7); simp [kstB, h2q7, h3q7]))
  k_with "calls" => (cell_ask (c_text_in _ _ _ _ _ (by assumption) (by assumption)))
  k_with "calls" => (cell_ask (c_strict_text _ _ _ _ _ (by assumption) (by assumption) (by assumption)))
  k_with "x18" => ((k_here; k_dflt (refine item_text (by first | assumption | omega) (by first | assumption | omega) (by first | assumption | omega) ?_)))
  k_with "x19" => ((k_here; k_dflt (refine len_text (by first | assumption | omega) ?_)))
  k_with "x20" => ((k_here; k_dflt (refine ord_one (by first | assumption | omega) ?_)))
  k_with "calls" => (cell_ask (c_has_sign_true _ _ _ _ _ (by assumption) (by assumption)))
  k_with "x22" => ((intro zq7 h1q7 h2q7 h3q7; (simp only [List.forall_mem_cons, List.not_mem_nil, false_implies, implies_true, and_true, ne_eq] at h2q7); (simp only [List.contains_cons, List.contains_nil, Bool.or_false, Bool.or_eq_false_iff, beq_eq_false_iff_ne, ne_eq] at h3q7); simp [kstB, h1q7, h2q7, h3q7]))
  k_with "x23" => (cell_ask (c_utf8_octets _ _ _ (sizeEnc (by assumption) (beq_iff_eq.mp (by assumption)))))
  k_with "x24" => ((k_here; (rename Fr _ _ _ _ => lFpq7); (with_unfolding_all refine' For_invVF lFpq7 ?k1x24a ?k2x24a ?_; (case k1x24a => exact rfl); (case k2x24a => exact rfl); k_whole)))
  k_with "x24" => ((k_here; (rename Fr _ _ _ _ => lFpq7); (with_unfolding_all refine' For_invVF lFpq7 ?k1x24b ?k2x24b ?_; (case k1x24b => exact rfl); (case k2x24b => exact rfl); k_whole)))
  k_with "x24" => ((k_here; (rename Fr _ _ _ _ => lFpq7); (with_unfolding_all refine' For_invVF lFpq7 ?k1x24c ?k2x24c ?_; (case k1x24c => exact rfl); (case k2x24c => exact rfl); k_whole)))
  k_with "x24" => ((k_here; (rename Fr _ _ _ _ => lFpq7); (with_unfolding_all refine' For_invVF lFpq7 ?k1x24d ?k2x24d ?_; (case k1x24d => exact rfl); (case k2x24d => exact rfl); k_whole)))
  k_with "x24" => ((k_here; (rename Fr _ _ _ _ => lFpq7); (with_unfolding_all refine' For_invVF lFpq7 ?k1x24e ?k2x24e ?_; (case k1x24e => exact rfl); (case k2x24e => exact rfl); k_whole)))
  k_with "x24" => ((k_here; (rename Fr _ _ _ _ => lFpq7); (with_unfolding_all refine' For_invVF lFpq7 ?k1x24f ?k2x24f ?_; (case k1x24f => exact rfl); (case k2x24f => exact rfl); k_whole)))
  k_with "x24" => ((k_here; (rename Fr _ _ _ _ => lFpq7); (with_unfolding_all refine' For_invVF lFpq7 ?k1x24g ?k2x24g ?_; (case k1x24g => exact rfl); (case k2x24g => exact rfl); k_whole)))
  k_with "x24" => ((k_here; (rename Fr _ _ _ _ => lFpq7); (with_unfolding_all refine' For_invVF lFpq7 ?k1x24h ?k2x24h ?_; (case k1x24h => exact rfl); (case k2x24h => exact rfl); k_whole)))
  k_with "x24" => ((k_here; (rename Fr _ _ _ _ => lFpq7); (with_unfolding_all refine' For_invVF lFpq7 ?k1x24i ?k2x24i ?_; (case k1x24i => exact rfl); (case k2x24i => exact rfl); k_whole)))
  k_with "x24" => ((k_here; (rename Fr _ _ _ _ => lFpq7); (with_unfolding_all refine' For_invVF lFpq7 ?k1x24j ?k2x24j ?_; (case k1x24j => exact rfl); (case k2x24j => exact rfl); k_whole)))
  k_with "x24" => ((k_here; (rename Fr _ _ _ _ => lFpq7); (with_unfolding_all refine' For_invVF lFpq7 ?k1x24k ?k2x24k ?_; (case k1x24k => exact rfl); (case k2x24k => exact rfl); k_whole)))
  k_with "x24" => ((k_here; (rename Fr _ _ _ _ => lFpq7); (with_unfolding_all refine' For_invVF lFpq7 ?k1x24l ?k2x24l ?_; (case k1x24l => exact rfl); (case k2x24l => exact rfl); k_whole)))
  k_with "x24" => ((k_here; (rename Fr _ _ _ _ => lFpq7); (with_unfolding_all refine' For_invVF lFpq7 ?k1x24m ?k2x24m ?_; (case k1x24m => exact rfl); (case k2x24m => exact rfl); k_whole)))
  k_with "x24" => ((k_here; (rename Fr _ _ _ _ => lFpq7); (with_unfolding_all refine' For_invVF lFpq7 ?k1x24n ?k2x24n ?_; (case k1x24n => exact rfl); (case k2x24n => exact rfl); k_whole)))
  k_with "x24" => ((k_here; (rename Fr _ _ _ _ => lFpq7); (with_unfolding_all refine' For_invVF lFpq7 ?k1x24o ?k2x24o ?_; (case k1x24o => exact rfl); (case k2x24o => exact rfl); k_whole)))
  k_with "x24" => ((k_here; (rename Fr _ _ _ _ => lFpq7); (with_unfolding_all refine' For_invVF lFpq7 ?k1x24p ?k2x24p ?_; (case k1x24p => exact rfl); (case k2x24p => exact rfl); k_whole)))
  k_with "x25" => ((k_here; k_dflt (refine' my_extend ?Fx25a ?Nx25a ?bx25a ?ix25a ?h1x25a ?h4x25a ?zx25a ?Ux25a ?_; (case Fx25a => k_asm); (case Nx25a => k_asm); (case bx25a => k_mem); (case ix25a => assumption); (case h1x25a => exact (encL_len _).1); (case h4x25a => exact (encL_len _).2); (case Ux25a => k_upd); (case zx25a => omega)); intro hpq7 Fpq7 Npq7))
  k_with "x25" => ((k_here; k_dflt (refine' my_extend ?Fx25b ?Nx25b ?bx25b ?ix25b ?h1x25b ?h4x25b ?zx25b ?Ux25b ?_; (case Fx25b => k_asm); (case Nx25b => k_asm); (case bx25b => k_mem); (case ix25b => assumption); (case h1x25b => exact (encL_len _).1); (case h4x25b => exact (encL_len _).2); (case Ux25b => k_upd); (case zx25b => omega)); intro hpq7 Fpq7 Npq7))
  k_with "x25" => ((k_here; k_dflt (refine' my_extend ?Fx25c ?Nx25c ?bx25c ?ix25c ?h1x25c ?h4x25c ?zx25c ?Ux25c ?_; (case Fx25c => k_asm); (case Nx25c => k_asm); (case bx25c => k_mem); (case ix25c => assumption); (case h1x25c => exact (encL_len _).1); (case h4x25c => exact (encL_len _).2); (case Ux25c => k_upd); (case zx25c => omega)); intro hpq7 Fpq7 Npq7))
  k_with "x25" => ((k_here; k_dflt (refine' my_extend ?Fx25d ?Nx25d ?bx25d ?ix25d ?h1x25d ?h4x25d ?zx25d ?Ux25d ?_; (case Fx25d => k_asm); (case Nx25d => k_asm); (case bx25d => k_mem); (case ix25d => assumption); (case h1x25d => exact (encL_len _).1); (case h4x25d => exact (encL_len _).2); (case Ux25d => k_upd); (case zx25d => omega)); intro hpq7 Fpq7 Npq7))
  k_with "x25" => ((k_here; k_dflt (refine' my_extend ?Fx25e ?Nx25e ?bx25e ?ix25e ?h1x25e ?h4x25e ?zx25e ?Ux25e ?_; (case Fx25e => k_asm); (case Nx25e => k_asm); (case bx25e => k_mem); (case ix25e => assumption); (case h1x25e => exact (encL_len _).1); (case h4x25e => exact (encL_len _).2); (case Ux25e => k_upd); (case zx25e => omega)); intro hpq7 Fpq7 Npq7))
  k_with "x25" => ((k_here; k_dflt (refine' my_extend ?Fx25f ?Nx25f ?bx25f ?ix25f ?h1x25f ?h4x25f ?zx25f ?Ux25f ?_; (case Fx25f => k_asm); (case Nx25f => k_asm); (case bx25f => k_mem); (case ix25f => assumption); (case h1x25f => exact (encL_len _).1); (case h4x25f => exact (encL_len _).2); (case Ux25f => k_upd); (case zx25f => omega)); intro hpq7 Fpq7 Npq7))
  k_with "x25" => ((k_here; k_dflt (refine' my_extend ?Fx25g ?Nx25g ?bx25g ?ix25g ?h1x25g ?h4x25g ?zx25g ?Ux25g ?_; (case Fx25g => k_asm); (case Nx25g => k_asm); (case bx25g => k_mem); (case ix25g => assumption); (case h1x25g => exact (encL_len _).1); (case h4x25g => exact (encL_len _).2); (case Ux25g => k_upd); (case zx25g => omega)); intro hpq7 Fpq7 Npq7))
  k_with "x25" => ((k_here; k_dflt (refine' my_extend ?Fx25h ?Nx25h ?bx25h ?ix25h ?h1x25h ?h4x25h ?zx25h ?Ux25h ?_; (case Fx25h => k_asm); (case Nx25h => k_asm); (case bx25h => k_mem); (case ix25h => assumption); (case h1x25h => exact (encL_len _).1); (case h4x25h => exact (encL_len _).2); (case Ux25h => k_upd); (case zx25h => omega)); intro hpq7 Fpq7 Npq7))
  k_with "x25" => ((k_here; k_dflt (refine' my_extend ?Fx25i ?Nx25i ?bx25i ?ix25i ?h1x25i ?h4x25i ?zx25i ?Ux25i ?_; (case Fx25i => k_asm); (case Nx25i => k_asm); (case bx25i => k_mem); (case ix25i => assumption); (case h1x25i => exact (encL_len _).1); (case h4x25i => exact (encL_len _).2); (case Ux25i => k_upd); (case zx25i => omega)); intro hpq7 Fpq7 Npq7))
  k_with "x25" => ((k_here; k_dflt (refine' my_extend ?Fx25j ?Nx25j ?bx25j ?ix25j ?h1x25j ?h4x25j ?zx25j ?Ux25j ?_; (case Fx25j => k_asm); (case Nx25j => k_asm); (case bx25j => k_mem); (case ix25j => assumption); (case h1x25j => exact (encL_len _).1); (case h4x25j => exact (encL_len _).2); (case Ux25j => k_upd); (case zx25j => omega)); intro hpq7 Fpq7 Npq7))
  k_with "x25" => ((k_here; k_dflt (refine' my_extend ?Fx25k ?Nx25k ?bx25k ?ix25k ?h1x25k ?h4x25k ?zx25k ?Ux25k ?_; (case Fx25k => k_asm); (case Nx25k => k_asm); (case bx25k => k_mem); (case ix25k => assumption); (case h1x25k => exact (encL_len _).1); (case h4x25k => exact (encL_len _).2); (case Ux25k => k_upd); (case zx25k => omega)); intro hpq7 Fpq7 Npq7))
  k_with "x25" => ((k_here; k_dflt (refine' my_extend ?Fx25l ?Nx25l ?bx25l ?ix25l ?h1x25l ?h4x25l ?zx25l ?Ux25l ?_; (case Fx25l => k_asm); (case Nx25l => k_asm); (case bx25l => k_mem); (case ix25l => assumption); (case h1x25l => exact (encL_len _).1); (case h4x25l => exact (encL_len _).2); (case Ux25l => k_upd); (case zx25l => omega)); intro hpq7 Fpq7 Npq7))
  k_with "x25" => ((k_here; k_dflt (refine' my_extend ?Fx25m ?Nx25m ?bx25m ?ix25m ?h1x25m ?h4x25m ?zx25m ?Ux25m ?_; (case Fx25m => k_asm); (case Nx25m => k_asm); (case bx25m => k_mem); (case ix25m => assumption); (case h1x25m => exact (encL_len _).1); (case h4x25m => exact (encL_len _).2); (case Ux25m => k_upd); (case zx25m => omega)); intro hpq7 Fpq7 Npq7))
  k_with "x25" => ((k_here; k_dflt (refine' my_extend ?Fx25n ?Nx25n ?bx25n ?ix25n ?h1x25n ?h4x25n ?zx25n ?Ux25n ?_; (case Fx25n => k_asm); (case Nx25n => k_asm); (case bx25n => k_mem); (case ix25n => assumption); (case h1x25n => exact (encL_len _).1); (case h4x25n => exact (encL_len _).2); (case Ux25n => k_upd); (case zx25n => omega)); intro hpq7 Fpq7 Npq7))
  k_with "x25" => ((k_here; k_dflt (refine' my_extend ?Fx25o ?Nx25o ?bx25o ?ix25o ?h1x25o ?h4x25o ?zx25o ?Ux25o ?_; (case Fx25o => k_asm); (case Nx25o => k_asm); (case bx25o => k_mem); (case ix25o => assumption); (case h1x25o => exact (encL_len _).1); (case h4x25o => exact (encL_len _).2); (case Ux25o => k_upd); (case zx25o => omega)); intro hpq7 Fpq7 Npq7))
  k_with "x25" => ((k_here; k_dflt (refine' my_extend ?Fx25p ?Nx25p ?bx25p ?ix25p ?h1x25p ?h4x25p ?zx25p ?Ux25p ?_; (case Fx25p => k_asm); (case Nx25p => k_asm); (case bx25p => k_mem); (case ix25p => assumption); (case h1x25p => exact (encL_len _).1); (case h4x25p => exact (encL_len _).2); (case Ux25p => k_upd); (case zx25p => omega)); intro hpq7 Fpq7 Npq7))
  k_with "my for" =>
    (rename Fr _ _ _ _ => lF)
    (rename News _ _ _ _ => lN)
    (rename IsRange _ _ _ _ _ _ _ _ => lR)
    (refine' kst_range (n := cs.length) (σ := List Value × List Int × Nat) (fun c => [(_, W.listOf c.1.toArray c.2.2)]) (fun _ => []) (fun c => IntsAre c.1 c.2.1) [Str.ofString "code"] (fun pre c => c.2.1 = encAll (decide (x = sU)) (cs.take pre.length)) ([], [], 0) ?hh lR ?hs ?hn lF ?kn ?kf ?kk ?kp ?turn ?done)
    (case hh => rfl)
    (case hs => exact small_one (by omega) (by omega) (by omega) (by omega))
    (case hn => rw [rangeSize_nat]; omega)
    (case kn => exact kst_newsOf lN (List.forall_mem_cons.mpr ⟨by k_mem, List.forall_mem_nil _⟩))
    (case kf => exact IntsAre.nil)
    (case kk => exact List.forall_mem_nil _)
    (case kp => rfl)
    (case' turn =>
      (rintro ⟨vs9, ns9, n9⟩ pre9 k9 tk9 u9 h9 th9 own9 hk9 hlt9 hoff9 hf9 hp9 F9 N9)
      (dsimp only at hf9 hp9 N9)
      (simp only [List.cons_append, List.nil_append] at N9)
      (simp only [List.map_cons, List.map_nil] at hoff9)
      (obtain ⟨hc0, hc1⟩ := hall (cs.getD k9.toNat 0) (getD_mem (by omega)))
      (have hc2 := sizeEnc hc1)
      (have hv9 : vs9.length ≤ 1000 := by rw [hf9.length, hp9]; have := encAll_len (decide (x = sU)) (cs.take pre9.length); rw [List.length_take] at this; omega)
      (try k_fold))
    (case' done =>
      (rintro ⟨vs9, ns9, n9⟩ u9 h9 th9 hf9 hp9 F9 N9)
      (dsimp only at hf9 hp9 N9)
      (try k_fold))
  k_with "my end" =>
    (rename News _ _ _ _ => nE)
    (try simp only [List.push_toArray] at nE)
    (exact kst_end (_, _, _) (by assumption) nE (List.forall_mem_cons.mpr ⟨by k_mem, List.forall_mem_nil _⟩) (by intro p hp; k_ownIn) (by rfl) (by first | exact ints_app hf9 (by assumption) | exact ints_app hf9 (.cons _ _ .nil)) (List.forall_mem_nil _) (by walk_at "my same2")
      (by first | exact enc_step hp9 hk9 hlt9 (by rw [decide_eq_true (beq_iff_eq.mp (by assumption)), if_pos rfl]) | exact enc_step hp9 hk9 hlt9 (by rw [decide_eq_false (beq_eq_false_iff_ne.mp (by assumption)), if_neg (by decide)])))
  k_with "my bytes" =>
    (refine' bytes_K ?F ?N ?l ?i ?r ?z ?h ?_)
    (case F => k_asm)
    (case N => k_asm)
    (case l => exact News.isList (by k_asm) (by k_mem))
    (case i => exact hf9)
    (case r => rw [hp9, rangeKs_length, List.take_length]; exact encAll_bytes hall)
    (case z => rw [hf9.length, hp9, sizeLine_eq]; have := encAll_len (decide (x = sU)) (cs.take (rangeKs 0 cs.length).length); rw [List.length_take] at this; omega)
    (case h => rfl)
    (rw [hp9, rangeKs_length, List.take_length])
    (intro h' t9' k9' F9' N9' _)
    (try dsimp only)
  k_dflt (walk_at "pc enter")
  k_steps
  all_goals exact pc_end hret (by assumption) (by assumption) (bytes_eq rfl)
end


theorem xt26 : True := by
  k_with "calls" => (cell_ask (c_octets_in0 _ _ _ _ _ (by assumption) (by first | assumption | omega) (by assumption)))
  trivial
theorem st_canLayAll0 : ∀ ns : List Str, (∀ x ∈ ns, PyData.strOk x = true) → PyData.canLayAll0 (ns.map PyData.str) = true
  | [], _ => rfl
  | a :: r, h => by simp [PyData.canLayAll0, PyData.canLay0, st_canLayAll0 r (fun x hx => h x (.tail _ hx)), h a (.head _)]
theorem st_depthAll : ∀ ns : List Str, PyData.depthAll (ns.map PyData.str) = 0
  | [] => rfl
  | _ :: r => by simp [PyData.depthAll, PyData.depth, st_depthAll r]
theorem st_shaped (ns : List Str) (h : ∀ x ∈ ns, PyData.strOk x = true) : SeqAt.shaped (.list (ns.map PyData.str)) = true := by
  simp [SeqAt.shaped, PyData.canLay0, PyData.depth, st_canLayAll0 ns h, st_depthAll]
theorem one_ok {c : Int} (h : c ≤ 1114111) : PyData.strOk (one c) = true := by
  show (#[c.toNat]).all (· < 0x110000) = true
  simp
  omega
theorem textOf_ok {cs : List Int} (h : ∀ c ∈ cs, c ≤ 1114111) : PyData.strOk (textOf cs) = true := by
  show ((cs.map Int.toNat).toArray).all (· < 0x110000) = true
  simp only [List.all_toArray, List.all_map, List.all_eq_true, Function.comp, decide_eq_true_eq]
  intro c hc
  have := h c hc
  omega
theorem st_sameAll : ∀ ns ms : List Str, PySem.Spec.sameAll (ns.map PyData.str) (ms.map PyData.str) = decide (ns = ms)
  | [], [] => by simp [PySem.Spec.sameAll]
  | [], _ :: _ => by simp [PySem.Spec.sameAll]
  | _ :: _, [] => by simp [PySem.Spec.sameAll]
  | a :: r, b :: t => by
    simp only [List.map_cons, PySem.Spec.sameAll, PySem.Spec.same, st_sameAll r t]
    by_cases h : a = b <;> by_cases h' : r = t <;> simp [h, h']
theorem st_same (ns ms : List Str) : PySem.Spec.same (.list (ns.map PyData.str)) (.list (ms.map PyData.str)) = decide (ns = ms) := by
  simp only [PySem.Spec.same]; exact st_sameAll ns ms
section
variable {prog : Program} {w : World} {A : Around} {E : Value → Shared → Prop} {s : Shared} {a b : Addr} {xs ys : List Value} {ns ms : List Str} {Q : Value → Shared → Prop}
theorem st_eq (ha : s.heap.IsList a xs.toArray) (hb : s.heap.IsList b ys.toArray) (hi : StrsAre xs ns) (hj : StrsAre ys ms) (ho : ∀ x ∈ ns, PyData.strOk x = true) (ho' : ∀ x ∈ ms, PyData.strOk x = true) (hu : A.units + 64 < cLine) (h : Q (.bool (decide (ns = ms))) s) :
    wpAny (model prog w) A (compareOp .Eq (.ref a) (.ref b)) Q E s :=
  eq_dataH_same (reads_newData ha hi.carried) (reads_newData hb hj.carried) (st_shaped _ ho) (st_shaped _ ho') hu (SeqAt.noMix_of_shape (.list .str) rfl _ _ (list_map_has fun _ => rfl) (list_map_has fun _ => rfl)) (by rw [st_same]; exact h)
theorem st_ne (ha : s.heap.IsList a xs.toArray) (hb : s.heap.IsList b ys.toArray) (hi : StrsAre xs ns) (hj : StrsAre ys ms) (ho : ∀ x ∈ ns, PyData.strOk x = true) (ho' : ∀ x ∈ ms, PyData.strOk x = true) (hu : A.units + 64 < cLine) (h : Q (.bool (!decide (ns = ms))) s) :
    wpAny (model prog w) A (compareOp .NotEq (.ref a) (.ref b)) Q E s :=
  ne_dataH_same (reads_newData ha hi.carried) (reads_newData hb hj.carried) (st_shaped _ ho) (st_shaped _ ho') hu (SeqAt.noMix_of_shape (.list .str) rfl _ _ (list_map_has fun _ => rfl) (list_map_has fun _ => rfl)) (by rw [st_same]; exact h)
end
theorem sign_text {cs : List Int} {i : Nat} {v : Value} (h : SignAt (textOf cs) i v) : i < cs.length ∧ ∃ u, v = .str (one (cs.getD i 0)) u := by
  obtain ⟨c, u, hc, rfl⟩ := h
  have hc' : (cs.map Int.toNat).toArray[i]? = some c := hc
  rw [List.getElem?_toArray, List.getElem?_map] at hc'
  cases e : cs[i]? with
  | none => rw [e] at hc'; cases hc'
  | some d =>
    rw [e] at hc'
    cases hc'
    refine ⟨by rw [List.getElem?_eq_some_iff] at e; exact e.1, u, ?_⟩
    rw [List.getD_eq_getElem?_getD, e]
    rfl
theorem textOf_size (cs : List Int) : (textOf cs).cps.size = cs.length := textOf_length cs
/-- the signs of a text that a charset has not -/
noncomputable def lacks (x : Str) (cs : List Int) : List Int := cs.filter fun c => !hasSign x c
section
variable {prog : Program} {w : World} {A : Around} {s₁ : Shared} {h₀ : Heap} {L : Addr} {m : Str → Option Value} {env : Env}
/-- a comprehension over a text's signs, with one test, that keeps the sign -/
theorem str_srcT {ct elt : Expr} {x : Str} {scope : Scope} {cl : List (Str × Addr)} {Fin : Shared → List Value → List (Addr × Obj) → Prop} {cs : List Int} {t : Tok} {news : List (Addr × Obj)} (keep : Int → Bool)
    (F : Fr h₀ L s₁.heap m) (N : News h₀ L s₁.heap news) (hh : A.handled = none) (hsz : cs.length < 100)
    (turn : ∀ (i : Nat) u I oI C oC D m₂ ys h tk (E' : Value → Shared → Prop), i < cs.length → LCg.NsObj oC m₂ → m₂ x = some (.str (one (cs.getD i 0)) u) → Fr h₀ L h m → News h₀ L h ((I, oI) :: (C, oC) :: (D, LCg.lst ys) :: news) → LCg.Off3 I C D news → ((@Ne Nat I C) ∧ (@Ne Nat I D) ∧ (@Ne Nat C D)) →
      wpAny (model prog w) A (isTrue ct (compEnvC scope cl C env) (eval ct (compEnvC scope cl C env))) (fun ok s' => if ok = true then
        wpAny (model prog w) A (eval elt (compEnvC scope cl C env)) (LCg.CompEnd h₀ L m { s₁ with heap := h, toks := tk } I oI C oC D (LCg.lst ys) (fun _ => True) (fun y news' => news' = news ∧ keep (cs.getD i 0) = true ∧ ∃ u, y = .str (one (cs.getD i 0)) u)) E' s'
        else LCg.CompEnd h₀ L m { s₁ with heap := h, toks := tk } I oI C oC D (LCg.lst ys) (fun _ => True) (fun _ news' => news' = news ∧ keep (cs.getD i 0) = false) Value.none s') E' { s₁ with heap := h, toks := tk })
    (fin : ∀ (g : Heap) ys, StrsAre ys ((cs.filter keep).map one) → Fin { s₁ with heap := g } ys news) : CSrcT prog w A h₀ L m env ct elt x scope cl Fin (.str (textOf cs) t) s₁ := by
  refine ⟨_, _, _, news, F, N, trivial, ?_, SrcG.str hh, fun g => crT_ind (fun i ys nw => nw = news ∧ StrsAre ys (((cs.take i).filter keep).map one)) ⟨rfl, .nil⟩ ?_ ?_⟩
  · rw [textOf_size, sizeLine_eq]; omega
  · rintro i v I oI C oC D m₂ ys nw h tk E' hi hv ⟨rfl, hJ⟩ hC hx F N off ne
    obtain ⟨hi', u, rfl⟩ := sign_text hv
    have et : cs.take (i + 1) = cs.take i ++ [cs.getD i 0] := by
      rw [List.take_add_one, List.getD_eq_getElem?_getD, List.getElem?_eq_getElem hi']; rfl
    refine wpAny_mono (turn i u I oI C oC D m₂ ys h tk E' hi' hC hx F N off ne) (fun ok s₂ hq => ?_) fun _ _ e => e
    cases ok with
    | true =>
      simp only [if_true] at hq ⊢
      refine wpAny_mono hq (fun y s₃ hq => ?_) fun _ _ e => e
      obtain ⟨h', tk', nw', e, F', N', off', hS, rfl, hk, u', rfl⟩ := hq
      refine ⟨h', tk', _, e, F', N', off', hS, rfl, ?_⟩
      rw [et, List.filter_append, List.map_append]
      refine hJ.append' ?_
      rw [List.filter_cons, if_pos hk]
      exact .cons _ _ .nil
    | false =>
      simp only [Bool.false_eq_true, if_false] at hq ⊢
      obtain ⟨h', tk', nw', e, F', N', off', hS, rfl, hk⟩ := hq
      refine ⟨h', tk', _, e, F', N', off', hS, rfl, ?_⟩
      rw [et, List.filter_append, List.map_append, List.filter_cons, if_neg (by rw [hk]; decide)]
      simpa using hJ
  · rintro ys nw ⟨rfl, hJ⟩
    rw [textOf_size, List.take_length] at hJ
    exact fin g ys hJ
/-- the one that best_charset runs -/
theorem best_srcT {ct elt : Expr} {x : Str} {scope : Scope} {cl : List (Str × Addr)} {Fin : Shared → List Value → List (Addr × Obj) → Prop} {cs : List Int} {t tx : Tok} {X : Str} {o : Obj} {news : List (Addr × Obj)} (_hd : o.data = .cell (some (.str X tx)))
    (F : Fr h₀ L s₁.heap m) (N : News h₀ L s₁.heap news) (hh : A.handled = none) (hsz : cs.length < 100)
    (turn : ∀ (i : Nat) u I oI C oC D m₂ ys h tk (E' : Value → Shared → Prop), i < cs.length → LCg.NsObj oC m₂ → m₂ x = some (.str (one (cs.getD i 0)) u) → Fr h₀ L h m → News h₀ L h ((I, oI) :: (C, oC) :: (D, LCg.lst ys) :: news) → LCg.Off3 I C D news → ((@Ne Nat I C) ∧ (@Ne Nat I D) ∧ (@Ne Nat C D)) →
      wpAny (model prog w) A (isTrue ct (compEnvC scope cl C env) (eval ct (compEnvC scope cl C env))) (fun ok s' => if ok = true then
        wpAny (model prog w) A (eval elt (compEnvC scope cl C env)) (LCg.CompEnd h₀ L m { s₁ with heap := h, toks := tk } I oI C oC D (LCg.lst ys) (fun _ => True) (fun y news' => news' = news ∧ (!hasSign X (cs.getD i 0)) = true ∧ ∃ u, y = .str (one (cs.getD i 0)) u)) E' s'
        else LCg.CompEnd h₀ L m { s₁ with heap := h, toks := tk } I oI C oC D (LCg.lst ys) (fun _ => True) (fun _ news' => news' = news ∧ (!hasSign X (cs.getD i 0)) = false) Value.none s') E' { s₁ with heap := h, toks := tk })
    (fin : ∀ (g : Heap) ys, StrsAre ys ((lacks X cs).map one) → Fin { s₁ with heap := g } ys news) : CSrcT prog w A h₀ L m env ct elt x scope cl Fin (.str (textOf cs) t) s₁ :=
  str_srcT (fun c => !hasSign X c) F N hh hsz turn fin
end
local macro_rules | `(tactic| walk_at "CSrcT") => `(tactic| k_dflt (k_extra "my comp"))
local macro_rules | `(tactic| walk_at "CompEnd") => `(tactic| k_dflt (k_extra "my cend"))
local macro_rules | `(tactic| walk_at "compareOp Eq ref ref") => `(tactic| k_dflt (k_extra "my eq"))
theorem dec_t {l : List Int} (h : decide (l.map one = []) = true) : l = [] := List.map_eq_nil_iff.mp (of_decide_eq_true h)
theorem dec_f {l : List Int} (h : decide (l.map one = []) = false) : ¬ l = [] := fun e => (of_decide_eq_false h) (by rw [e]; rfl)
theorem lacks_U {cs : List Int} (hall : ∀ c ∈ cs, 0 ≤ c ∧ 0 < u8len c) : lacks sU cs = [] := by
  unfold lacks
  rw [List.filter_eq_nil_iff]
  intro c hc
  rw [hasSign, if_pos rfl, decide_eq_true (hall c hc).2]
  decide
theorem isCs_A : IsCs sA := .inl rfl
theorem isCs_L : IsCs sL := .inr (.inl rfl)
theorem isCs_U : IsCs sU := .inr (.inr rfl)
section
local macro_rules | `(tactic| walk_at "eval ListComp") => `(tactic| k_extra "x27")
local macro_rules | `(tactic| walk_at "call ref cons") => `(tactic| k_extra "x28")
local macro_rules | `(tactic| walk_at "exec For Name Name cons nil") => `(tactic| k_extra "x29")
theorem xt29 : True := by
  k_with "x27" => ((k_here; k_dflt (refine lcT (by k_asm) (by with_unfolding_all rfl) (by decide) (by rfl) (by decide) (by rfl) ?_)))
  k_with "x28" => (cell_ask (c_has_sign _ _ _ _ _ (by first | exact isCs_A | exact isCs_L | exact isCs_U)))
  k_with "x29" => ((k_here; (rename Fr _ _ _ _ => lFpq7); (with_unfolding_all refine' For_turns lFpq7 ?_; k_whole)))
  trivial
set_option pp.deepTerms false
set_option pp.deepTerms.threshold 8
theorem c_best_charset (w : World) (cs : List Int) (t : Tok) (hsz : cs.length < 100) (hall : ∀ c ∈ cs, 0 ≤ c ∧ 0 < u8len c) : PC w 8 135 [.str (textOf cs) t] (RStr (if lacks sA cs = [] then sA else if lacks sL cs = [] then sL else sU)) := by
  unfold PC
  k_fill
  w_top off
  intro mean mg mb dp un gd cn cs' a ccd cl outer A₀ base h₀ L m s Q E B F X T hk hd hu hret
  k_with_none
  k_with "x1" => ((refine wpAny_call ?_; first   | (refine' code_defG (news := []) ?k1x1 ?k2x1 ?k3x1 News.nil ?k5x1 ?kAx1 ?kFx1 ?kKx1 ?k6x1 ?k7x1 ?k8x1 ?k9x1 ?kBx1 ?_ ?c2x1 ?c3x1 ?c4x1 ?c5x1; (case kAx1 => exact rfl); (case kFx1 => exact rfl); (case kKx1 => assumption); (case k1x1 => k_asm); (case k2x1 => k_asm); (case k3x1 => k_asm); (case k5x1 => k_asm); (case k6x1 => k_is); (case k7x1 => k_is); (case k8x1 => ktr_room); (case k9x1 => exact BindsTo.of_eq rfl); (case c5x1 => decide); (case kBx1 => exact locs rfl); (case c2x1 => exact rfl); (case c3x1 => exact rfl); (case c4x1 => exact rfl); k_whole; intro gpq7 Lpq7 hpq7 FGpq7 Fpq7 Npq7 Bpq7 Xpq7 Tpq7 kGpq7; (try dsimp only); (try k_fold))   | (refine' code_defGC (news := []) ?k1x1 ?k2x1 ?k3x1 News.nil ?k5x1 ?kAx1 ?kFx1 ?kKx1 ?k6x1 ?k7x1 ?k8x1 ?k9x1 ?kBx1 ?kDx1 ?_ ?c2x1 ?c3x1 ?c4x1; (case kAx1 => exact rfl); (case kFx1 => exact rfl); (case kKx1 => assumption); (case k1x1 => k_asm); (case k2x1 => k_asm); (case k3x1 => k_asm); (case k5x1 => k_asm); (case k6x1 => k_is); (case k7x1 => k_is); (case k8x1 => ktr_room); (case k9x1 => exact BindsTo.of_eq rfl); (case kBx1 => exact rfl); (case kDx1 => decide +kernel); (case c2x1 => exact rfl); (case c3x1 => exact rfl); (case c4x1 => exact rfl); k_whole; intro gpq7 Lpq7 hpq7 tkpq7 cellspq7 FGpq7 Fpq7 Npq7 Ypq7 Bpq7 Xpq7 Tpq7 l1q7 kGpq7; clear l1q7; k_cells Ypq7; (try simp only [List.cons_append, List.nil_append] at Npq7); (try dsimp only); (try k_fold))))
  k_with "calls" => (cell_ask (c_need_charset _ _ _ (by assumption)))
  k_with "calls" => (cell_ask (c_has_sign _ _ _ _ _ (by assumption)))
  k_with "calls" => (cell_ask (c_utf8_octets _ _ _ (by assumption)))
  k_with "calls" => (cell_ask (c_utf8_sign _ _ _ _ _ (by first | assumption | omega) (by first | assumption | omega) (by first | assumption | omega)))
  k_with "calls" => (cell_ask (c_sign_at' _ _ _ _ _ _ _ (by assumption) (by first | assumption | omega) (by first | assumption | omega) (by first | assumption | omega)))
  k_with "x15" => ((intro zq7 h2q7 h3q7; (simp only [List.forall_mem_cons, List.not_mem_nil, false_implies, implies_true, and_true, ne_eq] at h2q7); (simp only [List.contains_cons, List.contains_nil, Bool.or_false, Bool.or_eq_false_iff, beq_eq_false_iff_ne, ne_eq] at h3q7); simp [kstB, h2q7, h3q7]))
  k_with "calls" => (cell_ask (c_text_in _ _ _ _ _ (by assumption) (by assumption)))
  k_with "calls" => (cell_ask (c_strict_text _ _ _ _ _ (by assumption) (by assumption) (by assumption)))
  k_with "x18" => ((k_here; k_dflt (refine item_text (by first | assumption | omega) (by first | assumption | omega) (by first | assumption | omega) ?_)))
  k_with "x19" => ((k_here; k_dflt (refine len_text (by first | assumption | omega) ?_)))
  k_with "x20" => ((k_here; k_dflt (refine ord_one (by first | assumption | omega) ?_)))
  k_with "calls" => (cell_ask (c_has_sign_true _ _ _ _ _ (by assumption) (by assumption)))
  k_with "x22" => ((intro zq7 h1q7 h2q7 h3q7; (simp only [List.forall_mem_cons, List.not_mem_nil, false_implies, implies_true, and_true, ne_eq] at h2q7); (simp only [List.contains_cons, List.contains_nil, Bool.or_false, Bool.or_eq_false_iff, beq_eq_false_iff_ne, ne_eq] at h3q7); simp [kstB, h1q7, h2q7, h3q7]))
  k_with "calls" => (cell_ask (c_octets_in0 _ _ _ _ _ (by assumption) (by first | assumption | omega) (by assumption)))
  k_with "x27" => ((k_here; k_dflt (refine lcT (by k_asm) (by with_unfolding_all rfl) (by decide) (by rfl) (by decide) (by rfl) ?_)))
  k_with "x28" => (cell_ask (c_has_sign _ _ _ _ _ (by first | exact isCs_A | exact isCs_L | exact isCs_U)))
  k_with "x29" => ((k_here; (rename Fr _ _ _ _ => lFpq7); (with_unfolding_all refine' For_turns lFpq7 ?_; k_whole)))
  k_with "my comp" =>
    (rename (Obj.data _ = Data.cell (some (Value.str _ _))) => hd9)
    (rename Fr _ _ _ _ => lF)
    (rename News _ _ _ _ => lN)
    (refine best_srcT hd9 lF lN rfl hsz ?_ ?_)
    (all_goals first
      | (intro i9 u9 I9 oI9 C9 oC9 D9 m9 ys9 h9 tk9 E9 hi9 hC9 hx9 F9 N9 off9 ne9; (have off9' := off9); (simp only [LCg.Off3, and_true] at off9'); (obtain ⟨hc0, hc1⟩ := hall _ (getD_mem hi9)); (try k_fold))
      | (intro g9 ys9 hys9))
  k_with "my cend" =>
    (rename News _ _ _ _ => nE)
    (first
      | exact LCg.CompEnd.intro (by assumption) nE _ (by lcg_sub) (by assumption) trivial ⟨rfl, by rw [(by assumption : hasSign _ _ = false)]; rfl, _, rfl⟩
      | exact LCg.CompEnd.intro (by assumption) nE _ (by lcg_sub) (by assumption) trivial ⟨rfl, by rw [(by assumption : hasSign _ _ = true)]; rfl⟩)
  k_with "my eq" =>
    (refine st_eq (News.isList (by k_asm) (by k_mem)) (News.isList (by k_asm) (by k_mem)) hys9 .nil (by intro x hx; obtain ⟨c, hc, rfl⟩ := List.mem_map.mp hx; exact one_ok (u8len_hi (hall c (List.mem_filter.mp hc).1).2)) (fun _ h => nomatch h) (by ke_room) ?_)
  k_dflt (walk_at "pc enter")
  k_steps
  · refine pc_end hret (by assumption) (by assumption) (str_eq ?_)
    rw [if_pos (dec_t (by assumption))]
  · refine pc_end hret (by assumption) (by assumption) (str_eq ?_)
    rw [if_neg (dec_f (l := lacks sA cs) (by assumption)), if_pos (dec_t (l := lacks sL cs) (by assumption))]
  · refine pc_end hret (by assumption) (by assumption) (str_eq ?_)
    rw [if_neg (dec_f (l := lacks sA cs) (by assumption)), if_neg (dec_f (l := lacks sL cs) (by assumption))]
  · exact absurd (lacks_U hall) (dec_f (l := lacks sU cs) (by assumption))
end


theorem xt30 : True := by
  k_with "calls" => (cell_ask (c_best_charset _ _ _ (by first | assumption | omega) (by assumption)))
  trivial
/-! an own exception class with an own __init__: made, filled, read -/
section
open Builtin Builtin.ObjectAttr
noncomputable abbrev KH (w : World) : Frag := hd.heap_39 w.params
theorem kx_mro (p : Params) : clsIn (hd.heap_39 p) 59 = some { name := Str.ofString "MimeFault", bases := [Value.ref 46], mro := [Value.ref 59, Value.ref 46, Value.type "Exception", Value.type "BaseException", Value.type "object"], ns := 58, qualname := Str.ofString "MimeFault" } := by rfl
theorem kx_cls (p : Params) : (hd.heap_39 p).lookup 59 = some { cls := Value.type "type", data := Data.cls { name := Str.ofString "MimeFault", bases := [Value.ref 46], mro := [Value.ref 59, Value.ref 46, Value.type "Exception", Value.type "BaseException", Value.type "object"], ns := 58, qualname := Str.ofString "MimeFault" }, slots := #[some (Value.ref 50), none, some (Value.str (Str.ofString "MimeFault") 236), some (Value.str (Str.ofString "MimeFault") 244), some (Value.builtin "Exception.__new__"), some (Value.bool true)] } := by rfl
theorem kx_facts (p : Params) : PySem.Challenge.rw_nz0281_01 = PySem.Challenge.rw_nz0281_01 → (specialIn (hd.heap_39 p) (.ref 59) "__call__" = some (some (.builtin "type.__call__")) ∧ instIn (hd.heap_39 p) (.ref 59) (.type "type") = some true) ∧
    findIn (hd.heap_39 p) (.ref 59) "__init__" = some (some (.ref 36)) ∧ typeIn (hd.heap_39 p) (.ref 36) = some (.type "function") := by
  k_fill
  w_top off
  intro _
  refine ⟨⟨?_, ?_⟩, ?_, ?_⟩ <;> k_is
theorem kx_sub (p : Params) (b : Value) : mroIn (hd.heap_39 p) 59 b = some ([Value.ref 59, Value.ref 46, Value.type "Exception", Value.type "BaseException", Value.type "object"].contains b) := by
  unfold mroIn
  rw [kx_mro]
  rfl

section
variable {M : Model} {w : World} {h : Heap}
theorem kx_mroL (X : (KH w).In h) : Looks M h (mroOf (.ref 59)) [Value.ref 59, Value.ref 46, Value.type "Exception", Value.type "BaseException", Value.type "object"] := (looks_clsIn X (kx_mro _)).andThen .now
theorem kx_subL (X : (KH w).In h) {b : Value} {r : Bool} (e : [Value.ref 59, Value.ref 46, Value.type "Exception", Value.type "BaseException", Value.type "object"].contains b = r) : Looks M h (isSubtype (.ref 59) b) r := by
  subst e
  exact looks_mroIn X (kx_sub _ b)
theorem kx_made (X : (KH w).In h) : Looks M h (Bind.madeBy (.ref 59)) (some "Exception.__new__") := by
  intro A Q E s k q
  unfold Bind.madeBy
  refine wpAny_bind ((kx_mroL X) A _ E s k ?_)
  rw [List.forIn_cons]
  refine wpAny_bind (wpAny_bind (wpAny_bind (wpAny_bind (wpAny_loadPart (k _ _ (X _ _ (kx_cls _))) (wpAny_pure ?_)))))
  exact wpAny_pure (wpAny_pure (wpAny_pure q))
theorem kx_base (X : (KH w).In h) : Looks M h (Bind.staticBase (.ref 59)) (.ref 59) := by
  intro A Q E s k q
  unfold Bind.staticBase
  refine wpAny_bind ((kx_mroL X) A _ E s k ?_)
  rw [List.forIn_cons]
  exact wpAny_bind (wpAny_bind (wpAny_bind ((kx_made X) A _ E s k (wpAny_pure (wpAny_pure (wpAny_pure q))))))
theorem kx_here (X : (KH w).In h) : Looks M h (Bind.madeHere "BaseException.__new__" (.ref 59)) () := by
  unfold Bind.madeHere
  refine (kx_base X).andThen ((kx_made X).andThen (Looks.of_pure ?_))
  simp only [Option.map_some, PySem.F.excBase_Exception.canon, bne_self_eq_false, Bool.false_eq_true, if_false]
end

noncomputable abbrev excO (t : Addr) (d : Option Addr) : Obj := { cls := .ref 59, dict := d, data := .fields #[.ref t, .none, .none, .none, .bool false, .none] }

section
variable {prog : Program} {w : World} {A : Around} {R : Result → Shared → Prop} {h : Heap} {g : Array GenState} {d : Drawn} {t : Nat} {os : OsState}
theorem kx_new {rest : List Value} (X : (KH w).In h)
    (hq : R (.ok (.ret (.ref (h.objs.size + 1)))) ⟨(h.push (tupO rest)).push (excO h.objs.size none), g, d, t, os⟩) (hrest : rest.length ≤ sizeLine) :
    codeAny (model prog w) A (.call (.builtin "Exception.__new__") ⟨.ref 59 :: rest, []⟩) R ⟨h, g, d, t, os⟩ := by
  have F := PySem.F.excBase_Exception
  have hstar := F.noStar
  have hends := F.ends
  have L1 : Looks (model prog w) h (isSubtype (.ref 59) (.type "Exception")) true := kx_subL X rfl
  have L2 : Looks (model prog w) h (isSubtype (.ref 59) (.type "AttributeError")) false := kx_subL X rfl
  have L3 : Looks (model prog w) h (isSubtype (.ref 59) (.type "NameError")) false := kx_subL X rfl
  have L4 := kx_made (M := model prog w) X
  have L5 := kx_base (M := model prog w) X
  have L6 := kx_here (M := model prog w) X
  have hC : h.get? 59 = _ := X _ _ (kx_cls _)
  refine codeAny_call_builtin_code (Code.quiet_builtin _ F.quiet) ?_
  simp only [checkBuiltinCall, F.newKind, F.newSplit, F.newRow]
  repeat (first | with_reducible refine Looks.at (by assumption) ?_ | refine wpAny_loadPart_at hC ?_ | simp only [bne_self_eq_false, Bool.false_eq_true, if_false] | wp_step)
  refine codeAny_builtinAt F.entry ?_
  unfold Builtin.«BaseException.__new__»
  refine PySem.wpAt_bind ?_
  show PySem.wpAt _ _ _ (stack >>= _) _ _ _
  refine PySem.wpAt_bind (PySem.wpAt_stack fun p below => PySem.wpAt_of_wpAny ?_)
  wp_walk
  refine PySem.wpAt_of_wpAny ?_
  rw [F.owner]
  repeat (first | with_reducible refine Looks.at (by assumption) ?_ | with_reducible refine wpAny_loadPart_at hC ?_ | wp_step)
  show R _ _
  rw [Heap.size_push]
  exact hq

theorem kx_core {rest : List Value} (X : (KH w).In h) (hrest : rest.length ≤ sizeLine)
    (hq : codeAny (model prog w) (A.under (.builtin "type.__call__" ⟨.ref 59 :: rest, []⟩)) (.call (.ref 36) ⟨.ref (h.objs.size + 1) :: rest, []⟩) (InitBack (h.objs.size + 1) R) ⟨(h.push (tupO rest)).push (excO h.objs.size none), g, d, t, os⟩) :
    codeAny (model prog w) A (.call (.ref 59) ⟨rest, []⟩) R ⟨h, g, d, t, os⟩ := by
  obtain ⟨⟨f1, f2⟩, f3, f4⟩ := kx_facts w.params rfl
  have hC : h.get? 59 = _ := X _ _ (kx_cls _)
  have call := looks_specialIn (M := model prog w) X f1
  have typ := looks_instIn (M := model prog w) X f2
  have made := kx_made (M := model prog w) X
  refine codeAny_of_tree ?_
  show wpAny _ _ (callAny (.ref 59) _) _ _ _
  refine nd_load hC ?_
  show wpAny _ _ (callAny.viaDunder (.ref 59) _) _ _ _
  unfold callAny.viaDunder
  refine wpAny_bind (call.at ?_)
  dsimp only
  rw [tc_bind]
  refine wpAny_bind (wpAny_pure (wpAny_bind (wpAny_pure ?_)))
  refine wpAny_pure (a := Fin.again (.call (.builtin "type.__call__") ⟨.ref 59 :: rest, []⟩)) (And.intro rfl ?_)
  refine codeAny_call_builtin_at (Code.quiet_builtin _ (by decide +kernel)) entry_typeCall (check_slot tc_kind tc_split typ (tc_args _ _ _) ?_)
  unfold Builtin.«type.__call__»
  have hm := kx_mroL (M := model prog w) X
  repeat (first | with_reducible refine wpAny_call ?_ | lk)
  refine kx_new X ?_ hrest
  have k : ∀ b o, h.get? b = some o → ((h.push (tupO rest)).push (excO h.objs.size none)).get? b = some o := fun b o e => Heap.get?_push_of_some _ (Heap.get?_push_of_some _ e)
  have hx : ((h.push (tupO rest)).push (excO h.objs.size none)).get? (h.objs.size + 1) = some (excO h.objs.size none) := by heap_get
  have t1 : Looks (model prog w) ((h.push (tupO rest)).push (excO h.objs.size none)) (typeOf (.ref (h.objs.size + 1))) (.ref 59) := (Looks.ld hx).andThen .now
  have s1 := (kx_subL (M := model prog w) X (b := .ref 59) (r := true) rfl).keeps k
  have i1 := (looks_findIn (M := model prog w) X f3).keeps k
  have b1 := (bind_fn (M := model prog w) X (.ref (h.objs.size + 1)) f4).keeps k
  unfold isInstance callSpecial? specialOf
  repeat (first | with_reducible refine wpAny_call ?_ | lk)
  refine codeAny_mono hq fun r s' z => ?_
  rcases r with e | (v | _ | _ | _) <;> first | exact z | exact z.elim | skip
  obtain ⟨rfl, z⟩ := z
  exact wpAny_pure (wpAny_pure z)
end

section
variable {prog : Program} {w : World} {A A₀ : Around} {E : Value → Shared → Prop} {s : Shared} {R : Result → Shared → Prop} {h₀ base : Heap} {L x : Addr} {m : Str → Option Value} {news : List (Addr × Obj)}
theorem kx_make {rest : List Value} {Q : Value → Shared → Prop} (F : Fr h₀ L s.heap m) (X₀ : (KH w).In h₀) (N : News h₀ L s.heap news) (hrest : rest.length ≤ sizeLine)
    (h : ∀ x tt h', Fr h₀ L h' m → News h₀ L h' ((x, excO tt none) :: (tt, tupO rest) :: news) → (@LT.lt Nat _ tt x) → Ext s.heap h' → s.heap.get? tt = none → s.heap.get? x = none →
      codeAny (model prog w) (A.under (.builtin "type.__call__" ⟨.ref 59 :: rest, []⟩)) (.call (.ref 36) ⟨.ref x :: rest, []⟩) (InitBack x fun r s' => match r with | .ok (.ret v) => Q v s' | .ok _ => False | .error e => E e s') { s with heap := h' }) :
    wpAny (model prog w) A (call (.ref 59) rest) Q E s := by
  obtain ⟨hh, g, d, t, os⟩ := s
  refine wpAny_call (kx_core (X₀.keeps F.keep) hrest (h _ hh.objs.size _ ((F.push _).push _) ?_ (Nat.lt_succ_self _) (fun b o e => Heap.get?_push_of_some _ (Heap.get?_push_of_some _ e)) (Heap.get?_none_of_le (Nat.le_refl _)) (Heap.get?_none_of_le (Nat.le_succ _))))
  have := (N.push F (tupO rest)).push (F.push _) (excO hh.objs.size none)
  rwa [Heap.size_push] at this

theorem kx_put {dx : Addr} {name : Str} {tk : Tok} {v : Value} {od od' : Obj} {es : List DictEntry} {n : Nat} {pre post : List (Addr × Obj)} {Q : Fin → Shared → Prop} (F : Fr h₀ L s.heap m) (N : News h₀ L s.heap (pre ++ (dx, od) :: post))
    (hl : (lookIn name od).isSome = true) (h1 : ∀ p ∈ pre, p.1 ≠ dx) (h2 : ∀ p ∈ post, p.1 ≠ dx)
    (e : Obj.putName name (PyData.keyHash w.params name) (.str name s.toks) v od = od') (e' : od'.data = .dict es.toArray n) (hz : es.length ≤ 1000)
    (h : ∀ h', Fr h₀ L h' m → News h₀ L h' (pre ++ (dx, od') :: post) → Q (.done (.ret .none)) { s with heap := h', toks := s.toks + 1 }) :
    wpAny (model prog w) A (storeInDict dx (.str name tk) name v) Q E s := by
  obtain ⟨U1, U2⟩ := news_upd (f := Obj.putName name (PyData.keyHash w.params name) (.str name s.toks) v) F N h1 h2 e (by obtain ⟨_, _, dd, _⟩ := od'; cases e'; rfl)
  have D := (N (dx, od) (by simp)).1
  have D' := (U2 (dx, od') (by simp)).1
  refine wpAny_bind (wpAny_pure (wpAny_bind ?_))
  unfold nsSet
  refine wpAny_bind (wpAny_bind (wpAny_askSetting (wpAny_pure (wpAny_bind (wpAny_mkText (wpAny_bind (wpAny_loadPart D ?_)))))))
  unfold lookIn at hl
  split at hl
  · rename_i es₀ n₀ q
    rw [q]
    dsimp only
    have c : (!es₀.any (·.key.isStr name) && es₀.any (·.refKey)) = false := by
      rw [← Array.any_toList, ← Array.any_toList]
      split at hl
      · rename_i en he
        rw [List.any_eq_true.mpr ⟨en, List.mem_of_find?_eq_some he, List.find?_some he⟩]; rfl
      · split at hl
        · cases hl
        · rename_i z; rw [Bool.not_eq_true] at z; rw [z, Bool.and_false]
    rw [aRefKeyMayBeTheName_at, c]
    refine wpAny_updatePart D ?_
    refine wpAny_bind (wpAny_lookBehind D' (by rw [e']; exact pastItsLine_dict (by rw [List.size_toArray, sizeLine_eq]; omega)) ?_)
    exact wpAny_pure (h _ U1 U2)
  · cases hl

theorem kx_osa {name : Str} {tk : Tok} {v : Value} {ox : Obj} {od : Option Obj} (X : (KH w).In s.heap) (I : InstAt s.heap x ox 59 od) (ht : takerIn (KH w) 59 name = some none)
    (h : ∀ b, wpAny (model prog w) A.in1 (storeInOwnDict (.ref x) (.ref 59) (.str name tk) name v b)
      (fun fin s' => match fin with | .done f => R (.ok f) s' | .again c' => c'.quiet = true ∧ codeAny (model prog w) A c' R s') (fun e s' => R (.error e) s') s) :
    codeAny (model prog w) A (.call (.builtin "object.__setattr__") ⟨[.ref x, .str name tk, v], []⟩) R s := by
  have SF := PySem.F.store_Exception
  have SO := PySem.F.store_object
  have sub : Looks (model prog w) s.heap (isInstance (.ref x) (.type "object")) true := I.type.andThen (kx_subL X rfl)
  refine codeAny_call_builtin SO.slot.plain SO.entry (@check_slot (model prog w) _ _ s "object.__setattr__" "object" "__setattr__" (.ref x) [.str name tk, v] [] _ SO.kind SO.split sub (SO.args (.ref x) (.str name tk) v) ?_)
  obtain ⟨attr, ha, hr⟩ := Option.bind_eq_some_iff.mp ht
  have hm := kx_mroL (M := model prog w) X
  have L3 : Looks (model prog w) s.heap (storeTaker? attr) none := by
    cases attr with
    | none => cases hr; exact .now
    | some a =>
      obtain ⟨b, hb, e⟩ := Option.map_eq_some_iff.mp hr
      refine (looks_takesIn X hb).andThen ?_
      cases b
      · exact .now
      · cases e
  rw [osa_eq, refuse_eq]
  refine wpAny_bind (wpAny_bind (I.type.here (wpAny_bind (hm.here ?_))))
  rw [refuseLoop_ref, refuseLoop_ref, SF.passes]
  refine wpAny_pure (wpAny_bind (I.type.here (wpAny_bind ((looks_findIn X ha).here (wpAny_bind (L3.here ?_))))))
  exact h _

/-- the first store: the dict is made -/
theorem kx_set1 {name : Str} {v : Value} {tt : Addr} {pre post : List (Addr × Obj)} {Q : Unit → Shared → Prop} (F : Fr h₀ L s.heap m) (X₀ : (KH w).In h₀) (N : News h₀ L s.heap (pre ++ (x, excO tt none) :: post))
    (h1 : ∀ p ∈ pre, p.1 ≠ x) (h2 : ∀ p ∈ post, p.1 ≠ x) (hs : findIn (KH w) (.ref 59) "__setattr__" = some (some (.builtin "object.__setattr__"))) (ht : takerIn (KH w) 59 name = some none)
    (h : ∀ dx h' tk tk2, Fr h₀ L h' m → News h₀ L h' ((dx, dictOf [⟨PyData.keyHash w.params name, .str name tk, v⟩] 1) :: (pre ++ (x, excO tt (some dx)) :: post)) → (∀ p ∈ pre ++ (x, excO tt (some dx)) :: post, p.1 ≠ dx) → Q () { s with heap := h', toks := tk2 }) :
    wpAny (model prog w) A (setAttr (.ref x) name v) Q E s := by
  have X := X₀.keeps F.keep
  have hx := (N (x, excO tt none) (by simp)).1
  have I : InstAt s.heap x (excO tt none) 59 none := ⟨hx, rfl, rfl, trivial⟩
  have hxs : x < s.heap.objs.size := Heap.lt_size hx
  refine set_plain X I hs (kx_osa (s := { s with toks := s.toks + 1 }) X I ht fun b => ?_)
  have hlt : ∀ p ∈ pre ++ (x, excO tt none) :: post, p.1 < s.heap.objs.size := fun p hp => Heap.lt_size (N p hp).1
  have N1 := N.push F emptyDict
  have F1 := F.push emptyDict
  obtain ⟨F2, N2⟩ := news_upd (pre := (s.heap.objs.size, emptyDict) :: pre) (f := fun o => { cls := o.cls, dict := some s.heap.objs.size, data := o.data, slots := o.slots }) F1 N1 (fun p hp => by
    rcases List.mem_cons.mp hp with rfl | hp
    · exact Nat.ne_of_gt hxs
    · exact h1 p hp) h2 (o' := excO tt (some s.heap.objs.size)) rfl rfl
  refine wpAny_bind (wpAny_pure (wpAny_bind (wpAny_bind (wpAny_loadPart hx (wpAny_bind ((looks_clsIn X (kx_mro _)).at ?_))))))
  refine wpAny_bind (wpAny_alloc (wpAny_bind (wpAny_update (Heap.get?_push_of_some _ hx) (wpAny_pure ?_))))
  have hne : ∀ p ∈ pre ++ (x, excO tt (some s.heap.objs.size)) :: post, p.1 ≠ s.heap.objs.size := fun p hp => by
    rcases List.mem_append.mp hp with hp | hp
    · exact Nat.ne_of_lt (hlt p (List.mem_append_left _ hp))
    · rcases List.mem_cons.mp hp with rfl | hp
      · exact Nat.ne_of_lt hxs
      · exact Nat.ne_of_lt (hlt p (List.mem_append_right _ (List.mem_cons_of_mem _ hp)))
  exact kx_put (pre := []) (od := emptyDict) (od' := dictOf [⟨PyData.keyHash w.params name, .str name (s.toks + 1), v⟩] 1) F2 N2 rfl (List.forall_mem_nil _) hne ((putName_dict _ _ _ _ [] 0).trans rfl) rfl (Nat.le_of_ble_eq_true rfl) fun h' F' N' => h s.heap.objs.size h' (s.toks + 1) (s.toks + 1 + 1) F' (by simpa only [List.nil_append, List.cons_append, List.append_eq] using N') hne

theorem kx_set2 {name : Str} {v : Value} {tt dx : Addr} {news' : List (Addr × Obj)} {es es' : List DictEntry} {n n' : Nat} {Q : Unit → Shared → Prop} (F : Fr h₀ L s.heap m) (X₀ : (KH w).In h₀) (N : News h₀ L s.heap news)
    (mx : (x, excO tt (some dx)) ∈ news) (md : (dx, dictOf es n) ∈ news) (hs : findIn (KH w) (.ref 59) "__setattr__" = some (some (.builtin "object.__setattr__"))) (ht : takerIn (KH w) 59 name = some none) (hl : (getL name es).isSome = true)
    (e : (putL name (PyData.keyHash w.params name) (.str name (s.toks + 1)) v es, putN name es n) = (es', n')) (U : Upd dx (dictOf es n) (dictOf es' n') news news') (hz : es'.length ≤ 1000)
    (h : ∀ h' tk, Fr h₀ L h' m → News h₀ L h' news' → Q () { s with heap := h', toks := tk }) :
    wpAny (model prog w) A (setAttr (.ref x) name v) Q E s := by
  have X := X₀.keeps F.keep
  have hx := N.get mx
  have I : InstAt s.heap x (excO tt (some dx)) 59 (some (dictOf es n)) := ⟨hx, rfl, rfl, N.get md⟩
  obtain ⟨pre, post, rfl, rfl, a, b⟩ := U.split
  obtain ⟨e1, e2⟩ := Prod.mk.inj e
  refine set_plain X I hs (kx_osa (s := { s with toks := s.toks + 1 }) X I ht fun b' => ?_)
  refine wpAny_bind (wpAny_pure (wpAny_bind (wpAny_bind (wpAny_loadPart hx (wpAny_bind ((looks_clsIn X (kx_mro _)).at ?_))))))
  refine wpAny_pure (a := some dx) ?_
  exact kx_put (s := { s with toks := s.toks + 1 }) F N hl a b (by rw [putName_dict, e1, e2]) rfl hz fun h' F' N' => h h' _ F' N'

/-- Exception.__init__ on a new one: the args anew -/
theorem kx_init0 {tt : Addr} {d : Option Addr} {rest : List Value} {pre post : List (Addr × Obj)} {Q : Value → Shared → Prop} (F : Fr h₀ L s.heap m) (X₀ : (KH w).In h₀) (N : News h₀ L s.heap (pre ++ (x, excO tt d) :: post))
    (h1 : ∀ p ∈ pre, p.1 ≠ x) (h2 : ∀ p ∈ post, p.1 ≠ x) (hz : rest.length ≤ sizeLine)
    (h : ∀ t' h', Fr h₀ L h' m → News h₀ L h' ((t', tupO rest) :: (pre ++ (x, excO t' d) :: post)) → (∀ p ∈ pre ++ (x, excO t' d) :: post, p.1 ≠ t') → Q .none { s with heap := h' }) :
    wpAny (model prog w) A (call (.builtin "Exception.__init__") (.ref x :: rest)) Q E s := by
  have X := X₀.keeps F.keep
  have FB := PySem.F.excBase_Exception
  have hx := (N (x, excO tt d) (by simp)).1
  have hxs : x < s.heap.objs.size := Heap.lt_size hx
  have hshort := FB.noStar
  have L1 : Looks (model prog w) s.heap (isSubtype (.ref 59) (.type "Exception")) true := kx_subL X rfl
  have hlt : ∀ p ∈ pre ++ (x, excO tt d) :: post, p.1 < s.heap.objs.size := fun p hp => Heap.lt_size (N p hp).1
  have N1 := N.push F (tupO rest)
  have F1 := F.push (tupO rest)
  obtain ⟨F2, N2⟩ := news_upd (pre := (s.heap.objs.size, tupO rest) :: pre) (f := Obj.mapFields (·.setIfInBounds 0 (Value.ref s.heap.objs.size))) F1 N1 (fun p hp => by
    rcases List.mem_cons.mp hp with rfl | hp
    · exact Nat.ne_of_gt hxs
    · exact h1 p hp) h2 (o' := excO s.heap.objs.size d) rfl rfl
  have hne : ∀ p ∈ pre ++ (x, excO s.heap.objs.size d) :: post, p.1 ≠ s.heap.objs.size := fun p hp => by
    rcases List.mem_append.mp hp with hp | hp
    · exact Nat.ne_of_lt (hlt p (List.mem_append_left _ hp))
    · rcases List.mem_cons.mp hp with rfl | hp
      · exact Nat.ne_of_lt hxs
      · exact Nat.ne_of_lt (hlt p (List.mem_append_right _ (List.mem_cons_of_mem _ hp)))
  have hC : s.heap.get? 59 = _ := X _ _ (kx_cls _)
  obtain ⟨hh, g, dr, t, os⟩ := s
  dsimp only at hC hx
  refine wpAny_call (codeAny_call_builtin FB.init.plain FB.initEntry ?_)
  simp only [checkBuiltinCall, FB.initKind, FB.initSplit, FB.initRow]
  repeat (first | with_reducible refine Looks.at (by assumption) ?_ | (with_reducible refine wpAny_loadPart_at hx ?_; dsimp only) | (refine wpAny_load hC ?_; dsimp only) | wp_step)
  refine wpAny_onRaise ?_
  rw [show ∀ (a b : String) (n : Nat), Bind.check ⟨.positional, "*", "Exception", .self, [⟨"args", .varPos, false⟩]⟩ a b n (List.map (fun x => x.fst) ({ pos := Value.ref x :: rest } : Args).kw) = pure () from
    fun a b n => check_star_args _ _ _ _ _ _]
  refine wpAny_pure ?_
  wp_walk
  exact h hh.objs.size _ F2 (by simpa only [List.nil_append, List.cons_append, List.append_eq] using N2) hne
end
end


section
theorem kx_more (p : Params) : PySem.Challenge.rw_nz0281_01 = PySem.Challenge.rw_nz0281_01 → findIn (hd.heap_39 p) (.ref 59) "__setattr__" = some (some (.builtin "object.__setattr__")) ∧ takerIn (hd.heap_39 p) 59 (Str.ofString "what") = some none ∧ takerIn (hd.heap_39 p) 59 (Str.ofString "at") = some none := by
  k_fill
  w_top off
  intro _
  refine ⟨?_, ?_, ?_⟩ <;> k_is
theorem meta_Exc : typeOf (.type "Exception") = pure (.type "type") := by kernel_rfl

/-- a new MimeFault: its dict holds the place -/
noncomputable def RFault (at_ : Int) (h h' : Heap) (v : Value) : Prop :=
  ∃ x tt dx vs es n t, v = .ref x ∧ (h'.get? x = some (excO tt (some dx)) ∧ h.get? x = none) ∧ (h'.get? dx = some (dictOf es n) ∧ h.get? dx = none) ∧ (h'.get? tt = some (tupO vs) ∧ h.get? tt = none) ∧ getL (Str.ofString "at") es = some (some (.int at_ t))

theorem init_at {prog : Program} {w : World} {A : Around} {E : Value → Shared → Prop} {s : Shared} {h₀ : Heap} {L x : Addr} {m : Str → Option Value} {tt : Addr} {d : Option Addr} {rest : List Value} {post : List (Addr × Obj)} {Q : Value → Shared → Prop} (F : Fr h₀ L s.heap m) (X₀ : (KH w).In h₀) (N : News h₀ L s.heap ((x, excO tt d) :: post))
    (h2 : ∀ p ∈ post, p.1 ≠ x) (hz : rest.length ≤ sizeLine)
    (h : ∀ t' h', Fr h₀ L h' m → News h₀ L h' ((t', tupO rest) :: (x, excO t' d) :: post) → LCg.Off1 t' ((x, excO t' d) :: post) → Q .none { s with heap := h' }) :
    wpAny (model prog w) A (call (.builtin "Exception.__init__") (.ref x :: rest)) Q E s :=
  kx_init0 (pre := []) F X₀ N (List.forall_mem_nil _) h2 hz fun t' h' F' N' ne => h t' h' F' N' (by
    have : ∀ l : List (Addr × Obj), (∀ p ∈ l, p.1 ≠ t') → LCg.Off1 t' l := by
      intro l
      induction l with
      | nil => exact fun _ => trivial
      | cons p l ih => exact fun q => ⟨q p (.head _), ih fun p hp => q p (.tail _ hp)⟩
    exact this _ ne)

local macro_rules | `(tactic| walk_at "getMethod type:Exception") => `(tactic| k_extra "x31")
local macro_rules | `(tactic| walk_at "call builtin:Exception.__init__") => `(tactic| k_extra "x32")

theorem xt32 : True := by
  k_with "x31" => ((k_here; refine' method_type ?Fx31 ?Xx31 ?mx31 (by decide +kernel) ?ex31 ?hx31 ?_; (case Fx31 => k_asm); (case Xx31 => k_asm); (case mx31 => exact meta_Exc); (case ex31 => k_dflt k_is); (case hx31 => k_handed)))
  k_with "x32" => ((k_here; k_dflt (refine' init_at ?kFx32 ?kXx32 ?kNx32 ?kpx32 ?kzx32 ?_; (case kFx32 => k_asm); (case kXx32 => k_asm); (case kNx32 => k_asm); (case kpx32 => k_all); (case kzx32 => size_fits)); intro t9q7 h9q7 F9q7 N9q7 o9q7; (try simp only [LCg.Off1, and_true] at o9q7)))
  trivial
theorem off1_all {t' : Addr} : ∀ {l : List (Addr × Obj)}, (∀ p ∈ l, p.1 ≠ t') → LCg.Off1 t' l
  | [], _ => trivial
  | p :: l, q => ⟨q p (.head _), off1_all fun p hp => q p (.tail _ hp)⟩
local macro_rules | `(tactic| walk_at "setAttr ref") => `(tactic| k_extra "x33")
local macro_rules | `(tactic| walk_at "setAttr ref") => `(tactic| k_extra "x34")
theorem xt34 : True := by
  k_with "x33" => ((k_here; k_dflt (refine' kx_set1 (pre := [_]) ?kFx33 ?kXx33 ?kNx33 ?kpx33 ?kqx33 ?ksx33 ?ktx33 ?_; (case kFx33 => k_asm); (case kXx33 => k_asm); (case kNx33 => k_asm); (case kpx33 => k_all); (case kqx33 => k_all); (case ksx33 => exact (kx_more _ rfl).1); (case ktx33 => first | exact (kx_more _ rfl).2.1 | exact (kx_more _ rfl).2.2)); intro d9q7 h9q7 tk9q7 tk8q7 F9q7 N9q7 o9q7; (replace o9q7 := off1_all o9q7); (try simp only [List.singleton_append, LCg.Off1, and_true] at N9q7 o9q7)))
  k_with "x34" => ((k_here; k_dflt (refine' kx_set2 ?kFx34 ?kXx34 ?kNx34 ?kxx34 ?kdx34 ?ksx34 ?ktx34 ?klx34 ?kpx34 ?kux34 ?kzx34 ?_; (case kFx34 => k_asm); (case kXx34 => k_asm); (case kNx34 => k_asm); (case kxx34 => k_mem); (case kdx34 => k_mem); (case ksx34 => exact (kx_more _ rfl).1); (case ktx34 => first | exact (kx_more _ rfl).2.1 | exact (kx_more _ rfl).2.2); (case klx34 => exact rfl); (case kpx34 => exact rfl); (case kux34 => k_upd); (case kzx34 => exact Nat.le_of_ble_eq_true rfl)); intro h9q7 tk9q7 F9q7 N9q7))
  trivial
set_option pp.deepTerms false
set_option pp.deepTerms.threshold 8
theorem c_fault (w : World) (what : Str) (at_ : Int) (t1 t2 : Tok) (hw : what.length ≤ 100) : PC w 3 59 [.str what t1, .int at_ t2] (RFault at_) := by
  unfold PC
  k_fill
  w_top off
  intro mean mg mb dp un gd cn cs a ccd cl outer A₀ base h₀ L m s Q E B F X T hk hd hu hret
  k_with_none
  k_with "x1" => ((refine wpAny_call ?_; first   | (refine' code_defG (news := []) ?k1x1 ?k2x1 ?k3x1 News.nil ?k5x1 ?kAx1 ?kFx1 ?kKx1 ?k6x1 ?k7x1 ?k8x1 ?k9x1 ?kBx1 ?_ ?c2x1 ?c3x1 ?c4x1 ?c5x1; (case kAx1 => exact rfl); (case kFx1 => exact rfl); (case kKx1 => assumption); (case k1x1 => k_asm); (case k2x1 => k_asm); (case k3x1 => k_asm); (case k5x1 => k_asm); (case k6x1 => k_is); (case k7x1 => k_is); (case k8x1 => ktr_room); (case k9x1 => exact BindsTo.of_eq rfl); (case c5x1 => decide); (case kBx1 => exact locs rfl); (case c2x1 => exact rfl); (case c3x1 => exact rfl); (case c4x1 => exact rfl); k_whole; intro gpq7 Lpq7 hpq7 FGpq7 Fpq7 Npq7 Bpq7 Xpq7 Tpq7 kGpq7; (try dsimp only); (try k_fold))   | (refine' code_defGC (news := []) ?k1x1 ?k2x1 ?k3x1 News.nil ?k5x1 ?kAx1 ?kFx1 ?kKx1 ?k6x1 ?k7x1 ?k8x1 ?k9x1 ?kBx1 ?kDx1 ?_ ?c2x1 ?c3x1 ?c4x1; (case kAx1 => exact rfl); (case kFx1 => exact rfl); (case kKx1 => assumption); (case k1x1 => k_asm); (case k2x1 => k_asm); (case k3x1 => k_asm); (case k5x1 => k_asm); (case k6x1 => k_is); (case k7x1 => k_is); (case k8x1 => ktr_room); (case k9x1 => exact BindsTo.of_eq rfl); (case kBx1 => exact rfl); (case kDx1 => decide +kernel); (case c2x1 => exact rfl); (case c3x1 => exact rfl); (case c4x1 => exact rfl); k_whole; intro gpq7 Lpq7 hpq7 tkpq7 cellspq7 FGpq7 Fpq7 Npq7 Ypq7 Bpq7 Xpq7 Tpq7 l1q7 kGpq7; clear l1q7; k_cells Ypq7; (try simp only [List.cons_append, List.nil_append] at Npq7); (try dsimp only); (try k_fold))))
  k_with "calls" => (cell_ask (c_need_charset _ _ _ (by assumption)))
  k_with "calls" => (cell_ask (c_has_sign _ _ _ _ _ (by assumption)))
  k_with "calls" => (cell_ask (c_utf8_octets _ _ _ (by assumption)))
  k_with "calls" => (cell_ask (c_utf8_sign _ _ _ _ _ (by first | assumption | omega) (by first | assumption | omega) (by first | assumption | omega)))
  k_with "calls" => (cell_ask (c_sign_at' _ _ _ _ _ _ _ (by assumption) (by first | assumption | omega) (by first | assumption | omega) (by first | assumption | omega)))
  k_with "x15" => ((intro zq7 h2q7 h3q7; (simp only [List.forall_mem_cons, List.not_mem_nil, false_implies, implies_true, and_true, ne_eq] at h2q7); (simp only [List.contains_cons, List.contains_nil, Bool.or_false, Bool.or_eq_false_iff, beq_eq_false_iff_ne, ne_eq] at h3q7); simp [kstB, h2q7, h3q7]))
  k_with "calls" => (cell_ask (c_text_in _ _ _ _ _ (by assumption) (by assumption)))
  k_with "calls" => (cell_ask (c_strict_text _ _ _ _ _ (by assumption) (by assumption) (by assumption)))
  k_with "x18" => ((k_here; k_dflt (refine item_text (by first | assumption | omega) (by first | assumption | omega) (by first | assumption | omega) ?_)))
  k_with "x19" => ((k_here; k_dflt (refine len_text (by first | assumption | omega) ?_)))
  k_with "x20" => ((k_here; k_dflt (refine ord_one (by first | assumption | omega) ?_)))
  k_with "calls" => (cell_ask (c_has_sign_true _ _ _ _ _ (by assumption) (by assumption)))
  k_with "x22" => ((intro zq7 h1q7 h2q7 h3q7; (simp only [List.forall_mem_cons, List.not_mem_nil, false_implies, implies_true, and_true, ne_eq] at h2q7); (simp only [List.contains_cons, List.contains_nil, Bool.or_false, Bool.or_eq_false_iff, beq_eq_false_iff_ne, ne_eq] at h3q7); simp [kstB, h1q7, h2q7, h3q7]))
  k_with "calls" => (cell_ask (c_octets_in0 _ _ _ _ _ (by assumption) (by first | assumption | omega) (by assumption)))
  k_with "calls" => (cell_ask (c_best_charset _ _ _ (by first | assumption | omega) (by assumption)))
  k_with "x31" => ((k_here; refine' method_type ?Fx31 ?Xx31 ?mx31 (by decide +kernel) ?ex31 ?hx31 ?_; (case Fx31 => k_asm); (case Xx31 => k_asm); (case mx31 => exact meta_Exc); (case ex31 => k_dflt k_is); (case hx31 => k_handed)))
  k_with "x32" => ((k_here; k_dflt (refine' init_at ?kFx32 ?kXx32 ?kNx32 ?kpx32 ?kzx32 ?_; (case kFx32 => k_asm); (case kXx32 => k_asm); (case kNx32 => k_asm); (case kpx32 => k_all); (case kzx32 => size_fits)); intro t9q7 h9q7 F9q7 N9q7 o9q7; (try simp only [LCg.Off1, and_true] at o9q7)))
  k_with "x33" => ((k_here; k_dflt (refine' kx_set1 (pre := [_]) ?kFx33 ?kXx33 ?kNx33 ?kpx33 ?kqx33 ?ksx33 ?ktx33 ?_; (case kFx33 => k_asm); (case kXx33 => k_asm); (case kNx33 => k_asm); (case kpx33 => k_all); (case kqx33 => k_all); (case ksx33 => exact (kx_more _ rfl).1); (case ktx33 => first | exact (kx_more _ rfl).2.1 | exact (kx_more _ rfl).2.2)); intro d9q7 h9q7 tk9q7 tk8q7 F9q7 N9q7 o9q7; (replace o9q7 := off1_all o9q7); (try simp only [List.singleton_append, LCg.Off1, and_true] at N9q7 o9q7)))
  k_with "x34" => ((k_here; k_dflt (refine' kx_set2 ?kFx34 ?kXx34 ?kNx34 ?kxx34 ?kdx34 ?ksx34 ?ktx34 ?klx34 ?kpx34 ?kux34 ?kzx34 ?_; (case kFx34 => k_asm); (case kXx34 => k_asm); (case kNx34 => k_asm); (case kxx34 => k_mem); (case kdx34 => k_mem); (case ksx34 => exact (kx_more _ rfl).1); (case ktx34 => first | exact (kx_more _ rfl).2.1 | exact (kx_more _ rfl).2.2); (case klx34 => exact rfl); (case kpx34 => exact rfl); (case kux34 => k_upd); (case kzx34 => exact Nat.le_of_ble_eq_true rfl)); intro h9q7 tk9q7 F9q7 N9q7))
  refine kx_make F X News.nil (Nat.le_of_ble_eq_true rfl) ?_
  intro x tt h' F' N' l3 hx1 hx2 hx3
  (refine' code_defG ?k1 ?k2 ?k3 ?k4 ?k5 ?kA ?kF ?kK ?k6 ?k7 ?k8 ?k9 ?kB ?_ ?c2 ?c3 ?c4 ?c5; (case kA => exact rfl); (case kF => exact rfl); (case kK => assumption); (case k1 => k_asm); (case k2 => k_asm); (case k3 => k_asm); (case k4 => k_asm); (case k5 => k_asm); (case k6 => k_is); (case k7 => k_is); (case k8 => simp only [depth_under_make, depth_under_kw]; ktr_room); (case k9 => first | exact BindsTo.of_eq rfl | exact binds_K (by k_in) rfl (by k_is) rfl rfl rfl); (case c5 => decide); (case kB => exact locs rfl); (case c2 => exact rfl); (case c3 => exact rfl); (case c4 => exact rfl); k_whole; intro g' L' h' FG' F' N' B' X' T' kG'; (try dsimp only); (try k_fold))
  k_steps
  rename GSub _ _ _ => kG
  rename Fr g' _ _ _ => F1
  rename News g' _ _ _ => N1
  have low : ∀ b o, s.heap.get? b = some o → g'.get? b = some o := fun b o e => kG b o (hx1 b o e) (by
    intro hm
    simp only [List.map_cons, List.map_nil, List.mem_cons, List.not_mem_nil, or_false] at hm
    rcases hm with rfl | rfl
    · rw [hx3] at e; cases e
    · rw [hx2] at e; cases e)
  have fr : ∀ b, g'.get? b = none → s.heap.get? b = none := fun b n => by
    cases q : s.heap.get? b with
    | none => rfl
    | some o => rw [low _ _ q] at n; cases n
  refine hret _ _ _ (fun b o e => F1.keep _ _ (low b o e)) ⟨x, _, _, _, _, _, _, rfl, ⟨(N1 (x, _) (by k_mem)).1, hx3⟩, ⟨(N1 _ (.head _)).1, fr _ (N1 _ (.head _)).2.2⟩, ⟨(N1 _ (.tail _ (.head _))).1, fr _ (N1 _ (.tail _ (.head _))).2.2⟩, rfl⟩
end


/-! what passes through a frame keeps every object's dict -/
section
open Sem (wp)
noncomputable abbrev HasD (e dx : Addr) (h : Heap) : Prop := ∃ o, h.get? e = some o ∧ o.dict = some dx
noncomputable def KD {α : Type} (t : Sem α) : Prop := ∀ (M : Model) (Γ : Ctx) (Q : α → Pos → Shared → Prop) (E : Value → Pos → Shared → Prop) (p : Pos) (s : Shared) (e dx : Addr),
  wp M Γ t Q E p s → HasD e dx s.heap → wp M Γ t (fun a p' s' => Q a p' s' ∧ HasD e dx s'.heap) E p s
theorem KD.pure {α : Type} {a : α} : KD (Pure.pure a : Sem α) := fun _ _ _ _ _ _ _ _ h d => by
  rw [Sem.wp_pure'] at h ⊢
  exact ⟨h, d⟩
theorem KD.pureS {α : Type} {a : α} : KD (.pure a : Sem α) := fun _ _ _ _ _ _ _ _ h d => by
  rw [Sem.wp_pure] at h ⊢
  exact ⟨h, d⟩
theorem KD.bind {α β : Type} {m : Sem α} {f : α → Sem β} (x : KD m) (y : ∀ a, KD (f a)) : KD (m >>= f) := fun M Γ Q E p s e dx h d => by
  rw [Sem.wp_bind'] at h ⊢
  exact Sem.wp_mono M Γ m (fun a p' s' z => y a M Γ Q E p' s' e dx z.1 z.2) (fun _ _ _ z => z) p s (x M Γ _ E p s e dx h d)
theorem KD.uns {α : Type} {t : String} : KD (unsupported t : Sem α) := fun _ _ _ _ _ _ _ _ h _ => by
  have : False := by
    rw [show (unsupported t : Sem α) = .unsupported t from rfl, Sem.wp_unsupported] at h
    exact h
  exact this.elim
theorem KD.load {a : Addr} {part : Option Value} : KD (loadPart a part) := fun _ _ _ _ _ _ _ _ h d => by
  obtain ⟨o, ho, q⟩ := h
  exact ⟨o, ho, q, d⟩
theorem KD.update {a : Addr} {part : Option Value} {f : Obj → Obj} (hd : ∀ o, (f o).dict = o.dict) (hf : ∀ o, (f o).isFreed = o.isFreed) : KD (updatePart a part f) := fun _ _ _ _ _ s e dx h d => by
  obtain ⟨o, ho, hdo⟩ := d
  obtain ⟨hs, q⟩ := h
  refine ⟨hs, q, ?_⟩
  by_cases c : a = e
  · subst c
    exact ⟨f o, Heap.get?_update_self _ ho (by rw [hf]; exact (Heap.get?_some_iff.mp ho).2), by rw [hd]; exact hdo⟩
  · exact ⟨o, (Heap.get?_update_other _ _ c).trans ho, hdo⟩
theorem KD.alloc {o : Obj} : KD (alloc o) := fun _ _ _ _ _ s e dx h d => by
  obtain ⟨o', ho, hdo⟩ := d
  exact ⟨h, o', Heap.get?_push_of_some _ ho, hdo⟩
theorem KD.stack : KD stack := fun _ _ _ _ _ _ _ _ h d => ⟨h, d⟩
theorem KD.rule {t : String} : KD (rule t) := fun _ _ _ _ _ _ _ _ h d => ⟨h, d⟩
theorem KD.ite {α : Type} {c : Prop} [Decidable c] {a b : Sem α} (x : KD a) (y : KD b) : KD (if c then a else b) := by split <;> assumption

theorem with_dict {α : Type} {M : Model} {A : Around} {t : Sem α} {Q : α → Shared → Prop} {E : Value → Shared → Prop} {s : Shared} {e dx : Addr} (k : KD t) (d : HasD e dx s.heap)
    (h : wpAny M A t (fun a s' => HasD e dx s'.heap → Q a s') E s) : wpAny M A t Q E s := fun Γ p hΓ =>
  Sem.wp_mono M Γ t (fun _ _ _ z => z.1 z.2) (fun _ _ _ z => z) p s (k M Γ _ _ p s e dx (h Γ p hΓ) d)

theorem kd_fields (v : Value) : KD (fieldsOf v) := by
  unfold fieldsOf
  split
  · refine KD.bind KD.load fun o => ?_
    split
    · exact KD.pure
    · exact KD.uns
  · exact KD.uns
theorem kd_field (v : Value) (i : Nat) : KD (field v i) := by
  unfold field
  refine KD.bind (kd_fields v) fun vs => ?_
  split
  · exact KD.pure
  · exact KD.uns
theorem kd_mapFields (f : Array Value → Array Value) (o : Obj) : (Obj.mapFields f o).dict = o.dict ∧ (Obj.mapFields f o).isFreed = o.isFreed := by
  obtain ⟨c, d, dt, sl⟩ := o
  cases dt <;> exact ⟨rfl, rfl⟩
theorem kd_setField (v : Value) (i : Nat) (x : Value) : KD (setField v i x) := by
  unfold setField
  split
  · unfold updateField
    refine KD.bind KD.load fun o => ?_
    split
    · exact KD.ite (KD.update (fun o => (kd_mapFields _ o).1) fun o => (kd_mapFields _ o).2) KD.uns
    · exact KD.uns
  · exact KD.uns
theorem kd_setFlight (e : Value) (f : Option Addr) : KD (setFlight e f) := by
  unfold setFlight
  exact KD.bind (kd_field e 1) fun tb => KD.ite (kd_setField _ _ _) KD.pure
theorem kd_frameEnvs : KD frameEnvs := by
  unfold frameEnvs
  exact KD.bind KD.stack fun _ => KD.pure
theorem kd_ready : ∀ l : List Env, KD (readyFrames l)
  | [] => by unfold readyFrames; exact KD.pure
  | env :: outer => by
    unfold readyFrames
    split
    · refine KD.bind KD.load fun o => KD.ite KD.pure ?_
      refine KD.bind ?_ fun i => KD.bind ?_ fun b => KD.bind (KD.update (fun _ => rfl) fun o => ?_) fun _ => kd_ready outer
      · unfold behindIsImport
        exact KD.ite KD.pure (KD.ite KD.pure (KD.bind (kd_field _ _) fun _ => KD.pure))
      · unfold keptBack
        split
        · refine KD.ite KD.pure ?_
          unfold underTheClaimsCaller
          exact KD.bind (KD.bind KD.stack fun _ => KD.pure) fun _ => KD.pure
        · exact KD.pure
      · obtain ⟨_, _, dt, _⟩ := o
        cases dt <;> rfl
    · exact KD.uns
theorem kd_frameOf (env : Env) : KD (PySem.frameOf env) := by
  unfold PySem.frameOf
  refine KD.bind kd_frameEnvs fun l => KD.bind ?_ fun r => ?_
  · unfold frameObject
    split
    · exact KD.pure
    · exact KD.bind (kd_ready _) fun _ => KD.pure
  · split
    · exact KD.pure
    · exact KD.uns
theorem kd_place (f : Addr) (b : Bool) : KD (entryPlaceOf f b) := by
  unfold entryPlaceOf
  refine KD.bind KD.stack fun l => ?_
  split <;> exact KD.pure
theorem kd_new (vs : Array Value) : KD (newObj (.type "traceback") (.fields vs)) := by
  unfold newObj
  dsimp only
  have z : KD (newObjAsIs (.type "traceback") (.fields vs)) := by
    unfold newObjAsIs
    exact KD.bind KD.alloc fun _ => KD.pure
  by_cases c : vs.size > sizeLine + 2
  · simp only [if_pos c]
    exact KD.bind KD.uns fun _ => z
  · simp only [if_neg c]
    exact z
theorem kd_entry (a b c d e : Value) (l : List Value) : KD (EntryCells.newEntry a b c d e l) := kd_new _
theorem kd_note (e : Value) (env : Env) : KD (noteFrame e env) := by
  unfold noteFrame
  split
  · refine KD.bind (kd_field e 1) fun hd => ?_
    have last : ∀ f : Addr, KD (do setField e 1 (← EntryCells.newEntry hd (← PySem.frameOf env) .none (rawInt f) .none (← entryPlaceOf f (hd != .none)))) := fun f =>
      KD.bind (kd_frameOf env) fun _ => KD.bind (kd_place _ _) fun _ => KD.bind (kd_entry _ _ _ _ _ _) fun _ => kd_setField _ _ _
    exact KD.ite (KD.bind (kd_field hd 3) fun x => KD.ite KD.pure (KD.bind (kd_setField _ _ _) fun _ => last _)) (last _)
  · exact KD.uns
theorem kd_leaving (e : Value) (env : Env) : KD (leaving env e) := by
  unfold leaving
  exact KD.bind (kd_note e env) fun _ => kd_setFlight e none
end


/-! an own exception raised, leaving a frame, caught and read -/
section
variable {prog : Program} {w : World} {A : Around} {E : Value → Shared → Prop} {s : Shared} {env : Env}
noncomputable def RaisX (w : World) (E : Value → Shared → Prop) (v : Value) (s₁ : Shared) : Prop :=
  ∃ e t d, v = .ref e ∧ (KH w).In s₁.heap ∧ s₁.heap.get? e = some (excO t d) ∧ E (.ref e) s₁
theorem kx_raise {e : Expr} {pos : Pos} {Q : Flow → Shared → Prop} (hh : A.handled = none)
    (h : wpAny (model prog w) A (eval e env) (RaisX w E) E s) : wpAny (model prog w) A (exec (.Raise (some e) none pos) env) Q E s := by
  show wpAny _ A (do standAt pos; raiseStmt env (some (do let v ← eval e env; standAt pos; pure v)) none) Q E s
  refine wpAny_bind (wpAny_standAt ?_)
  unfold raiseStmt
  dsimp only
  refine wpAny_bind (wpAny_bind (wpAny_mono h (fun v s₁ h₁ => wpAny_bind (wpAny_standAt (wpAny_pure ?_))) fun _ _ x => x))
  obtain ⟨a, t, d, rfl, X, ha, hE⟩ := h₁
  obtain ⟨hp, g, dr, tk, os⟩ := s₁
  dsimp only at X ha hE
  have L1 : Looks (model prog w) hp (isSubtype (.ref 59) (.type "BaseException")) true := kx_subL X rfl
  have hC : hp.get? 59 = _ := X _ _ (kx_cls _)
  repeat (first | with_reducible refine Looks.at (by assumption) ?_ | with_reducible refine wpAny_loadPart_at ha ?_ | with_reducible refine wpAny_loadPart_at hC ?_ | wp_step)
  exact wpAny_raiseNew_none hh hE
end

/-- the exception x in flight above l: what stood stays, its dict is dx -/
noncomputable def FlyS (base G : Heap) (l : List Env) (x dx : Addr) (od : Obj) (h : Heap) : Prop :=
  ∃ B a0, (G.get? x = none ∧ G.get? dx = none) ∧ base.StaysIn B ∧ (∀ b o, G.get? b = some o → b ∉ l.filterMap (·.frame) → B.get? b = some o) ∧ B.get? dx = some od ∧ Heap.FlyingW B l x (.ref 59) a0 h ∧ HasD x dx h

section
variable {M : Model} {A : Around} {E : Value → Shared → Prop} {s' : Shared} {base g g₂ : Heap} {outer : List Env} {L a x dx tt : Addr} {m : Str → Option Value} {name : Str} {scope : Scope} {cd : Value} {Q : Unit → Shared → Prop} {od : Obj}
theorem kx_leave (K : Below A base outer g) (F : Fr g L s'.heap m) (he : s'.heap.get? x = some (excO tt (some dx))) (hx : g.get? x = none) (hd : s'.heap.get? dx = some od) (hdx : g.get? dx = none) (hdL : dx ≠ L) (hxd : dx ≠ x)
    (hQ : ∀ h', FlyS base g outer x dx od h' → g.UpToSlots h' → Q () { s' with heap := h' }) (hk : scope.kind = .function := by rfl) :
    wpAny M (A.deeper (envOf name scope L a cd)) (leaving (envOf name scope L a cd) (.ref x)) Q E s' := by
  have K' := K.push (name := name) (a := a) (cd := cd) F hk
  have hin : ∀ env ∈ (envOf name scope L a cd :: outer), ∀ b, env.frame = some b → b ∈ x :: (envOf name scope L a cd :: outer).filterMap (·.frame) := fun env he b hb => List.mem_cons_of_mem _ (List.mem_filterMap.mpr ⟨env, he, hb⟩)
  have hxb : base.get? x = none := fresh_of_stays K.stays hx
  have st : base.StaysIn (hideAll s'.heap (x :: (envOf name scope L a cd :: outer).filterMap (·.frame))) := fun b o q => hideAll_get _ (K'.stays b o q) fun hm => by
    rcases List.mem_cons.mp hm with z | hm
    · rw [z, hxb] at q; cases q
    · rw [(K'.frames.mem hm).1] at q; cases q
  have sg : ∀ b o, g.get? b = some o → b ∉ outer.filterMap (·.frame) → (hideAll s'.heap (x :: (envOf name scope L a cd :: outer).filterMap (·.frame))).get? b = some o := fun b o q nm => hideAll_get _ (F.keep b o q) fun hm => by
    rcases List.mem_cons.mp hm with z | hm
    · rw [z, hx] at q; cases q
    rcases kts_mem hm with z | z
    · rw [z, kts_self F] at q
      cases q
    · exact nm z
  have hdB : (hideAll s'.heap (x :: (envOf name scope L a cd :: outer).filterMap (·.frame))).get? dx = some od := hideAll_get _ hd fun hm => by
    rcases List.mem_cons.mp hm with z | hm
    · exact hxd z
    rcases kts_mem hm with z | z
    · exact hdL z
    · obtain ⟨_, o, ho, _⟩ := K.frames.mem z
      rw [hdx] at ho; cases ho
  have hen : (hideAll s'.heap (x :: (envOf name scope L a cd :: outer).filterMap (·.frame))).get? x = none := hideAll_none _ (List.mem_cons_self)
  refine with_dict (kd_leaving _ _) ⟨_, he, rfl⟩ (wpAny_leaving_firstW (a0 := .ref tt) K'.stack (funFrames_hide K'.frames hin) rfl he (fun b o q => of_hideAll _ q) hen rfl rfl rfl fun h' hL hD => ?_)
  obtain ⟨k1, ⟨_, _, k2⟩, k3, k4⟩ := hL
  exact hQ h' ⟨_, _, ⟨hx, hdx⟩, st, sg, hdB, ⟨k1, hen, k2, k3⟩, hD⟩ ((Heap.UpToSlots.of_keeps F.keep).trans k4)
end

theorem kx_leaveN {M : Model} {A : Around} {E : Value → Shared → Prop} {s' : Shared} {base g : Heap} {outer : List Env} {L a x dx tt : Addr} {m : Str → Option Value} {name : Str} {scope : Scope} {cd : Value} {Q : Unit → Shared → Prop} {es : List DictEntry} {n : Nat} {news : List (Addr × Obj)}
    (K : Below A base outer g) (F : Fr g L s'.heap m) (N : News g L s'.heap ((x, excO tt (some dx)) :: (dx, dictOf es n) :: news)) (hQ : ∀ h', FlyS base g outer x dx (dictOf es n) h' → g.UpToSlots h' → Q () { s' with heap := h' }) (hk : scope.kind = .function := by rfl) :
    wpAny M (A.deeper (envOf name scope L a cd)) (leaving (envOf name scope L a cd) (.ref x)) Q E s' := by
  have n1 := N _ (.head _)
  have n2 := N _ (.tail _ (.head _))
  refine kx_leave K F n1.1 n1.2.2 n2.1 n2.2.2 n2.2.1 (fun q => ?_) hQ hk
  have q' : dx = x := q
  have z := n2.1
  rw [q'] at z
  have y := n1.1
  rw [z] at y
  cases y

section
variable {prog : Program} {w : World} {A₀ : Around} {E : Value → Shared → Prop} {s' : Shared} {base g G : Heap} {outer : List Env} {L a x dx : Addr} {m : Str → Option Value} {name : Str} {scope : Scope} {cd : Value}
  {n : Str} {b₀ : Stmt} {suite : List Stmt} {pos np : Pos} {rest : List ExceptHandler} {Q : Flow → Shared → Prop} {od : Obj} {p : Program} {loose : List Str} {mean : ExcName → Option Value} {mg mb : Str → Option Value}
theorem kx_caught (R : FlyS base G (envOf name scope L a cd :: outer) x dx od s'.heap) (F : Fr g L G m) (K : Below A₀ base outer g) (hsm : G.UpToSlots s'.heap) (XB : (KH w).In base) (TB : Top p loose mean mg mb base)
    (ex : nsIn (KH w) mainGlobals (Str.ofString "MimeFault") = some (some (.ref 59)))
    (k : ∀ h' g' ox tk, KtsTurn (outer.filterMap (·.frame)) g g' → Fr g' L h' (fun y => if y = n then some (.ref x) else m y) → News g' L h' [(x, ox), (dx, od)] → ox.cls = .ref 59 → notCls ox = true → ox.dict = some dx → Below A₀ base outer g' → (KH w).In g' → Top p loose mean mg mb g' →
      wpAny (model prog w) ((A₀.deeper (envOf name scope L a cd)).mark (some (.ref x))) (execs (b₀ :: suite) (envOf name scope L a cd))
        (fun f s₄ => wpAny (model prog w) (A₀.deeper (envOf name scope L a cd)) (do bindName (envOf name scope L a cd) n .none; unbindBehindTheSuite (envOf name scope L a cd) n pos) (fun _ s₅ => Q f s₅) E s₄)
        (AsSuiteRaised (model prog w) ((A₀.deeper (envOf name scope L a cd)).mark (some (.ref x))) (envOf name scope L a cd) n pos (notedBy (model prog w) ((A₀.deeper (envOf name scope L a cd)).mark (some (.ref x))) (envOf name scope L a cd) (cameBackBy (model prog w) (A₀.deeper (envOf name scope L a cd)) (envOf name scope L a cd) E)))
        { s' with heap := h', toks := tk })
    (hk : scope.kind = .function := by rfl) (hlo : (envOf name scope L a cd).kindOf n = some .local := by rfl) (hx : (envOf name scope L a cd).kindOf (Str.ofString "MimeFault") = some .globalImplicit := by rfl) :
    wpAny (model prog w) (A₀.deeper (envOf name scope L a cd)) (noteFrame (.ref x) (envOf name scope L a cd))
      (fun _ s₂ => wpAny (model prog w) (A₀.deeper (envOf name scope L a cd)) (setFlight (.ref x) none) (fun _ s₃ =>
        wpAny (model prog w) (A₀.deeper (envOf name scope L a cd)) (handleBy (.ref x) (envOf name scope L a cd) (.ExceptHandler (some (.Name (Str.ofString "MimeFault") np)) (some n) (b₀ :: suite) pos :: rest)) Q E s₃) E s₂) E s' := by
  obtain ⟨B, a0, ⟨hGx, hGd⟩, hB, hBG, hdB, hfl, hD⟩ := R
  have hxg : g.get? x = none := kts_none F.keep hGx
  have hdg : g.get? dx = none := kts_none F.keep hGd
  have hdL : dx ≠ L := fun q => by
    obtain ⟨_, _, _, ho, _⟩ := F.ns
    rw [q, ho] at hGd; cases hGd
  refine with_dict (kd_note _ _) hD (wpAny_looks_onW (Around.frames_deeper K.stack) rfl hfl fun h₄ hheld₄ hsm₄ hD₄ => ?_)
  refine with_dict (kd_setFlight _ _) hD₄ (wpAny_landsW hheld₄ fun h₅ hheld hsm₅' hD₅ => ?_)
  have hsm₅ := hsm₄.trans hsm₅'
  obtain ⟨g₅, T₅, F₅, K₅⟩ := kts_ground K F hBG hheld.1 (hsm.trans hsm₅)
  have X₅ : (KH w).In g₅ := XB.keeps K₅.stays
  have P₅ : TopRead p loose mg mb g₅ := topRead_of (TB.keeps K₅.stays)
  obtain ⟨ob, hob, hobc⟩ := hheld.there
  have hC₅ := F₅.keep _ _ (X₅ _ _ (kx_cls _))
  refine wpAny_handleBy_cons (codeAny_handlers_test (name_K F₅ X₅ P₅ ex ?_ hk hx (by decide))) (by intro q; cases q)
  refine wpAny_excMatches_sub_self hC₅ hob hobc (by decide) (codeAny_handlers_suite_as ?_)
  refine with_dict (kd_setFlight _ _) hD₅ (lands_againW hheld fun h₆ hfl₆ hsm₆ hD₆ => ?_)
  obtain ⟨g₆, T₆, F₆, K₆⟩ := kts_ground K F hBG hfl₆.1 ((hsm.trans hsm₅).trans hsm₆)
  obtain ⟨oe, ws, hoe, hoec, hoed, hoe0⟩ := hfl₆.first
  obtain ⟨oe', hoe', hod'⟩ := hD₆
  obtain rfl : oe = oe' := Option.some.inj (hoe.symm.trans hoe')
  have ne₆ : g₆.get? x = none := T₆.none_ _ hxg
  have nd₆ : g₆.get? dx = none := T₆.none_ _ hdg
  have N₆ : News g₆ L h₆ [(x, oe), (dx, od)] := by
    refine News.more F₆ (fun q hq => ?_) hoe (fun es n q => by rw [hoed] at q; cases q) ne₆
    rcases List.mem_singleton.mp hq with rfl
    exact ⟨hfl₆.1 _ _ hdB, hdL, nd₆⟩
  have X₆ : (KH w).In g₆ := XB.keeps K₆.stays
  have P₆ : Top p loose mean mg mb g₆ := TB.keeps K₆.stays
  refine stN F₆ N₆ (fun h₇ F₇ N₇ => ?_) hk hlo
  exact k h₇ g₆ _ _ T₆ F₇ N₇ hoec (by unfold notCls; rw [hoed]) hod' K₆ X₆ P₆
end


section
open Builtin Builtin.ObjectAttr
theorem kx_gets (p : Params) : PySem.Challenge.rw_nz0281_01 = PySem.Challenge.rw_nz0281_01 → (findIn (hd.heap_39 p) (.ref 59) "__getattribute__" = some (some (.builtin "BaseException.__getattribute__")) ∧ findIn (hd.heap_39 p) (.ref 59) "__getattr__" = some none) ∧ findIn (hd.heap_39 p) (.ref 59) (Str.ofString "at") = some none ∧ nsIn (hd.heap_39 p) mainGlobals (Str.ofString "MimeFault") = some (some (.ref 59)) := by
  k_fill
  w_top off
  intro _
  refine ⟨⟨?_, ?_⟩, ?_, ?_⟩ <;> k_is

section
variable {prog : Program} {w : World} {A : Around} {E : Value → Shared → Prop} {s : Shared} {x : Addr}
theorem kx_find {ox od : Obj} {h : Heap} {M : Model} {name : Str} {v : Value} (X : (KH w).In h) (I : InstAt h x ox 59 (some od)) (hf : findIn (KH w) (.ref 59) name = some none) (hl : lookIn name od = some (some v)) :
    Looks M h (find (.ref x) (.ref 59) name) (.value v) := by
  refine looks_find X I ?_
  unfold findObj
  rw [kx_mro, Option.bind_some, hf, Option.bind_some]
  show (W.ownOf _ _ _).bind _ = _
  unfold W.ownOf
  dsimp only
  rw [if_pos rfl, hl]
  rfl
theorem kx_get {ox : Obj} {es : List DictEntry} {n : Nat} {v : Value} {expr : Bool} {Q : Value → Shared → Prop} (X : (KH w).In s.heap) (I : InstAt s.heap x ox 59 (some (dictOf es n))) (hl : getL (Str.ofString "at") es = some (some v)) (hh : handedIn v = true)
    (h : Q v { s with toks := s.toks + 1 }) : wpAny (model prog w) A (getAttr (.ref x) (Str.ofString "at") expr) Q E s := by
  obtain ⟨hp, g, d, t, os⟩ := s
  obtain ⟨⟨f1, f2⟩, f3, f4⟩ := kx_gets w.params rfl
  have L1 := I.type (M := model prog w)
  have L2 := looks_findIn (M := model prog w) X f1
  have L3 := looks_findIn (M := model prog w) X f2
  have L4 := kx_find (M := model prog w) X I f3 hl
  have L5 : Looks (model prog w) hp (isSubtype (.ref 59) (.type "BaseException")) true := kx_subL X rfl
  have FA := PySem.F.attr_Exception
  have b1 := FA.ga.bind (.ref x)
  have hx2 : (Value.builtin "BaseException.__getattribute__" == Value.builtin "object.__getattribute__") = false := by decide +kernel
  have hk : builtinKind "BaseException.__getattribute__" = some .slot := by decide +kernel
  have hsplit : splitId "BaseException.__getattribute__" = some ("BaseException", "__getattribute__") := by decide +kernel
  have ha := PySem.F.args_bexc_ga (.ref x) (.str (Str.ofString "at") t)
  unfold getAttr getAttrBy
  refine wpAny_bind (wpAny_mkText (wpAny_holding (wpAny_bind (L1.at (wpAny_bind (L2.at ?_))))))
  dsimp only
  rw [hx2, Bool.and_false]
  simp only [Bool.false_eq_true, if_false]
  unfold getAttrByItsOwn
  refine wpAny_bind (L3.at (wpAny_bind (wpAny_attempt (wpAny_holding ?_))))
  have hx0 : (expr && onTheHeap (Value.builtin "BaseException.__getattribute__")) = false := by cases expr <;> rfl
  unfold callGetattribute
  rw [hx0]
  simp only [Bool.false_eq_true, if_false]
  unfold boundAndCalled
  rw [b1]
  refine wpAny_bind (wpAny_pure (wpAny_call (codeAny_call_builtin FA.ga.plain PySem.F.entry_bexc_ga ?_)))
  simp only [List.singleton_append]
  simp only [checkBuiltinCall, hk, hsplit]
  repeat (first | with_reducible refine Looks.at (by assumption) ?_ | wp_step)
  show wpAny _ _ (handedOut v) _ _ _
  rw [handedOut_of hh]
  exact wpAny_pure h
theorem kx_getN {g : Heap} {L dx : Addr} {m : Str → Option Value} {news : List (Addr × Obj)} {ox : Obj} {es : List DictEntry} {n : Nat} {v : Value} {expr : Bool} {Q : Value → Shared → Prop} (X : (KH w).In g) (F : Fr g L s.heap m) (N : News g L s.heap ((x, ox) :: (dx, dictOf es n) :: news)) (hc : ox.cls = .ref 59) (hn : notCls ox = true) (hd : ox.dict = some dx)
    (hl : getL (Str.ofString "at") es = some (some v)) (hh : handedIn v = true)
    (h : Q v { s with toks := s.toks + 1 }) : wpAny (model prog w) A (getAttr (.ref x) (Str.ofString "at") expr) Q E s :=
  kx_get (X.keeps F.keep) ⟨N.get (.head _), hc, hn, by rw [hd]; exact N.get (.tail _ (.head _))⟩ hl hh h
end
end

/-! a call that may mark the frames below it -/
noncomputable def UpF (fs : List Addr) (h h' : Heap) : Prop := ∀ b o, h.get? b = some o → (b ∉ fs → h'.get? b = some o) ∧ (b ∈ fs → ∃ sl, h'.get? b = some { o with slots := sl })
theorem UpF.of_ext {fs : List Addr} {h h' : Heap} (e : Ext h h') : UpF fs h h' := fun b o q => ⟨fun _ => e b o q, fun _ => ⟨o.slots, e b o q⟩⟩

section
variable {prog : Program} {w : World} {A₀ A : Around} {s : Shared} {base h₀ : Heap} {outer : List Env} {L : Addr} {m : Str → Option Value} {env : Env} {news : List (Addr × Obj)} {K : Frag}
theorem code_defU {p : Program} {loose : List Str} {mean : ExcName → Option Value} {mg mb : Str → Option Value} {R : Result → Shared → Prop} {name qual : Str} {params : Arguments} {body : List Stmt} {scope : Scope} {dV kV doc pm cdv ct oc : Value} {an od : Option Addr} {osl : Array (Option Value)} {f : Addr} {args : Args} {binds : List (Str × Value)}
    (B : Below A₀ base outer h₀) (F : Fr h₀ L s.heap m) (X₀ : K.In h₀) (T : Top p loose mean mg mb h₀) (hA : A.frames = some (env :: outer)) (hf : env.frame = some L) (hke : env.scope.kind = .function)
    (ho : K.lookup f = some ⟨oc, od, .func (fnOf name qual params body scope dV kV doc pm an cdv ct), osl⟩) (hcd : codeIn K cdv qual = true) (hroom : A.depth < recursionLimit)
    (hbind : BindsTo s (fnOf name qual params body scope dV kV doc pm an cdv ct) args binds) (hloc : ∀ y ∈ binds, scope.names.lookup y.1 = some .local)
    (h : ∀ L' h₁, Fr s.heap L' h₁ (fun y => binds.reverse.lookup y) → Below A base (env :: outer) s.heap → K.In s.heap → Top p loose mean mg mb s.heap →
      wpAny (model prog w) (A.deeper (envOf qual scope L' f cdv)) (execs body (envOf qual scope L' f cdv))
        (fun fl s' => R (.ok (.ret (match fl with | .ret v => v | _ => .none))) s')
        (fun e s' => wpAny (model prog w) (A.deeper (envOf qual scope L' f cdv)) (leaving (envOf qual scope L' f cdv) e) (fun _ s'' => R (.error e) s'') (fun e' s'' => R (.error e') s'') s')
        { s with heap := h₁, toks := s.toks + binds.length })
    (hco : scope.isCoroutine = false) (hgen : scope.isGenerator = false) (hk : scope.kind = .function)
    (hcell : ∀ x ∈ scope.names, x.2 ≠ .cell) : codeAny (model prog w) A (.call (.ref f) args) R s := by
  have X := X₀.keeps F.keep
  have T' := T.keeps F.keep
  have B₁ := pushX B F hf hke
  refine codeAny_call_def (fd := fnOf name qual params body scope dV kV doc pm an cdv ct) (body := body) (binds := binds) hroom (X _ _ ho) rfl T'.nolimit (codeRec_of X hcd) rfl hbind hcell hloc (fun h₁ hns hk₁ => ?_) hco hgen hk
  exact h s.heap.objs.size h₁ ⟨hns, hk₁, Nat.le_refl _⟩ ⟨hA, fun b o e => F.keep _ _ (B.stays b o e), B₁.frames⟩ X T'
end

/-- what a call gives back that may mark the frames below -/
noncomputable def PCS (w : World) (d : Nat) (f : Addr) (vs : List Value) (R : Heap → Heap → Value → Prop) : Prop :=
  ∀ (mean : ExcName → Option Value) (mg mb : Str → Option Value) (dp un : Nat) (gd : Option (List Code)) (cn : Str) (cs : Scope) (a : Addr) (ccd : Value) (cl : List (Str × Addr)) (outer : List Env) (A₀ : Around) (base h₀ : Heap) (L : Addr) (m : Str → Option Value) (s : Shared) (Q E : Value → Shared → Prop),
    Below A₀ base outer h₀ → Fr h₀ L s.heap m → (hd.heap_39 w.params).In base → Top hd.view_39 LOOSE mean mg mb base → cs.kind = .function → dp + d < recursionLimit → un + 40 * d < cLine →
    (∀ v h' tk, UpF (L :: outer.filterMap (·.frame)) s.heap h' → R s.heap h' v → Q v { s with heap := h', toks := tk }) →
    wpAny (model PySem.Challenge.rw_nz0281_01.row.toRowW.prog w) (ktrTop dp un gd cn cs L a ccd cl outer) (call (.ref f) vs) Q E s

/-- what an UpF leaves of a ground -/
theorem upf_ground {A₀ : Around} {base h₀ h h' : Heap} {outer : List Env} {L : Addr} {m : Str → Option Value} {news : List (Addr × Obj)} (B : Below A₀ base outer h₀) (F : Fr h₀ L h m) (N : News h₀ L h news) (U : UpF (L :: outer.filterMap (·.frame)) h h') :
    ∃ g', KtsTurn (outer.filterMap (·.frame)) h₀ g' ∧ Fr g' L h' m ∧ News g' L h' news ∧ Below A₀ base outer g' := by
  have nL : ∀ b o, h₀.get? b = some o → b ≠ L := fun b o e q => by
    rw [q, kts_self F] at e; cases e
  obtain ⟨T, S⟩ := kts_turn_at (h := h') (fs := outer.filterMap (·.frame)) (g := h₀)
    (fun b hb => by
      obtain ⟨_, o, ho, _⟩ := B.frames.mem hb
      exact ⟨o, ho⟩)
    (fun b o e nm => (U b o (F.keep b o e)).1 fun hm => by
      rcases List.mem_cons.mp hm with z | z
      · exact nL b o e z
      · exact nm z)
    (fun b o e hm => (U b o (F.keep b o e)).2 (List.mem_cons_of_mem _ hm))
  refine ⟨_, T, ⟨?_, S, by rw [T.size]; exact F.above⟩, fun p hp => ?_, ⟨B.stack, fun b o e => T.other b o (B.stays b o e) (fun hm => by
    rw [(B.frames.mem hm).1] at e
    cases e), B.frames.of_keeps fun b o e _ => ?_⟩⟩
  · obtain ⟨o, es, ep, ho, hd, r⟩ := F.ns
    obtain ⟨sl, hs⟩ := (U L o ho).2 (List.mem_cons_self)
    exact ⟨_, es, ep, hs, hd, r⟩
  · obtain ⟨p1, p2, p3⟩ := N p hp
    refine ⟨(U p.1 p.2 p1).1 fun hm => ?_, p2, T.none_ _ p3⟩
    rcases List.mem_cons.mp hm with z | z
    · exact p2 z
    · obtain ⟨_, o, ho, _⟩ := B.frames.mem z
      rw [p3] at ho; cases ho
  · obtain ⟨sl, hs⟩ := T.up e
    exact ⟨_, hs, rfl⟩
/-- the ground's turn and what grew on it, told as an UpF -/
theorem upf_of_turn {fs : List Addr} {h g' h' : Heap} (T : KtsTurn fs h g') (k : ∀ b o, g'.get? b = some o → h'.get? b = some o) : UpF fs h h' := fun b o e =>
  ⟨fun n => k _ _ (T.other b o e n), fun m => let ⟨sl, hs⟩ := T.frame b o e m; ⟨sl, k _ _ hs⟩⟩

theorem pc_useF {w : World} {d : Nat} {f : Addr} {vs : List Value} {at_ : Int} {mean : ExcName → Option Value} {mg mb : Str → Option Value} {dp un : Nat} {gd : Option (List Code)} {cn : Str} {cs : Scope} {a : Addr} {ccd : Value} {cl : List (Str × Addr)} {outer : List Env} {A₀ : Around} {base h₀ : Heap} {L : Addr} {m : Str → Option Value} {news : List (Addr × Obj)} {s : Shared} {E : Value → Shared → Prop}
    (C : PC w d f vs (RFault at_)) (B : Below A₀ base outer h₀) (F : Fr h₀ L s.heap m) (X : (hd.heap_39 w.params).In h₀) (T : Top hd.view_39 LOOSE mean mg mb h₀) (hk : cs.kind = .function) (N : News h₀ L s.heap news)
    (hdp : dp + d < recursionLimit) (hun : un + 40 * d < cLine)
    (h : ∀ x tt dx es n t h' tk, Fr h₀ L h' m → News h₀ L h' ((x, excO tt (some dx)) :: (dx, dictOf es n) :: news) → getL (Str.ofString "at") es = some (some (.int at_ t)) → E (.ref x) { s with heap := h', toks := tk }) :
    wpAny (model PySem.Challenge.rw_nz0281_01.row.toRowW.prog w) (ktrTop dp un gd cn cs L a ccd cl outer) (call (.ref f) vs) (RaisX w E) E s := by
  refine pc_use C B F X T hk N hdp hun ?_
  rintro v h' tk _ ⟨x, tt, dx, vs, es, n, t, rfl, ⟨x1, x2⟩, ⟨d1, d2⟩, _, g⟩ F' N'
  obtain ⟨_, e1, N1⟩ := rnew_news F N' ⟨dx, rfl, d1, d2⟩
  cases e1
  obtain ⟨_, e2, N2⟩ := rnew_news F N1 ⟨x, rfl, x1, x2⟩
  cases e2
  exact ⟨x, tt, some dx, rfl, X.keeps F'.keep, x1, h x tt dx es n t h' tk F' N2 g⟩


section
local macro_rules | `(tactic| walk_at "call ref cons") => `(tactic| k_extra "x35")
local macro_rules | `(tactic| walk_at "call ref cons") => `(tactic| k_extra "x36")
local macro_rules | `(tactic| walk_at "call ref cons") => `(tactic| k_extra "x37")
local macro_rules | `(tactic| walk_at "call ref cons") => `(tactic| k_extra "x38")
local macro_rules | `(tactic| walk_at "leaving ref") => `(tactic| k_extra "x39")
local macro_rules | `(tactic| walk_at "noteFrame ref") => `(tactic| k_extra "x40")
local macro_rules | `(tactic| walk_at "exec Raise some none") => `(tactic| k_extra "x41")
local macro_rules | `(tactic| walk_at "getAttr ref") => `(tactic| k_extra "x42")
theorem xt42 : True := by
  k_with "x35" => ((k_here; (refine wpAny_call ?_); k_dflt (refine' code_def ?k1x35 ?k2x35 ?k3x35 ?k4x35 ?k5x35 ?kAx35 ?kFx35 ?kKx35 ?k6x35 ?k7x35 ?k8x35 ?k9x35 ?kBx35 ?_ ?c2x35 ?c3x35 ?c4x35 ?c5x35; (case kAx35 => exact rfl); (case kFx35 => exact rfl); (case kKx35 => first | exact rfl | assumption); (case k1x35 => k_asm); (case k2x35 => k_asm); (case k3x35 => k_asm); (case k4x35 => k_asm); (case k5x35 => k_asm); (case k6x35 => k_is); (case k7x35 => k_is); (case k8x35 => ktr_room); (case k9x35 => exact BindsTo.of_eq rfl); (case c5x35 => decide); (case kBx35 => exact locs rfl); (case c2x35 => exact rfl); (case c3x35 => exact rfl); (case c4x35 => exact rfl); k_whole); intro gpq7 Lpq7 hpq7 FGpq7 Fpq7 Npq7 Bpq7 Xpq7 Tpq7; (try dsimp only); (try k_fold)))
  k_with "x36" => (cell_ask (c_need_charset _ _ _ (by assumption)))
  k_with "x37" => (cell_ask (c_sign_at' _ _ _ _ _ _ _ (by assumption) (by first | assumption | omega) (by first | assumption | omega) (by first | assumption | omega)))
  k_with "x38" => ((k_here; k_dflt (refine' pc_useF (c_fault _ _ _ _ _ ?kzx38) ?k1x38 ?k2x38 ?k3x38 ?k4x38 ?kKx38 ?k5x38 ?kdx38 ?kux38 ?_; (case k1x38 => k_asm); (case k2x38 => k_asm); (case k3x38 => k_asm); (case k4x38 => k_asm); (case kKx38 => first | exact rfl | assumption); (case k5x38 => k_asm); (case kdx38 => ktr_room); (case kux38 => ktr_units); (case kzx38 => k_extra "my len")); intro x9q7 tt9q7 dx9q7 es9q7 n9q7 t9q7 h9q7 tk9q7 F9q7 N9q7 g9q7; (try dsimp only)))
  k_with "x39" => ((k_here; k_dflt (refine' kx_leaveN ?kBx39 ?kFx39 ?kNx39 ?_; (case kBx39 => k_asm); (case kFx39 => k_asm); (case kNx39 => k_asm)); intro h9q7 R9q7 U9q7; (try dsimp only at R9q7 U9q7 ⊢)))
  k_with "x40" => ((k_here; (rename FlyS _ _ _ _ _ _ _ => R9q7); k_dflt (refine' kx_caught R9q7 ?kFx40 ?kBx40 ?kUx40 ?kXx40 ?kTx40 ?kex40 ?_; (case kFx40 => assumption); (case kBx40 => assumption); (case kUx40 => assumption); (case kXx40 => assumption); (case kTx40 => assumption); (case kex40 => exact (kx_gets _ rfl).2.2)); intro h9q7 g9q7 ox9q7 tk9q7 T9q7 F9q7 N9q7 c9q7 n9q7 d9q7 B9q7 X9q7 P9q7; (try dsimp only)))
  k_with "x41" => ((k_here; k_dflt (refine kx_raise rfl ?_)))
  k_with "x42" => ((k_here; k_dflt (refine' kx_getN ?kXx42 ?kFx42 ?kNx42 ?kcx42 ?knx42 ?kdx42 ?klx42 ?khx42 ?_; (case kNx42 => k_asm); (case kFx42 => k_asm); (case kXx42 => k_asm); (case kcx42 => assumption); (case knx42 => assumption); (case kdx42 => assumption); (case klx42 => assumption); (case khx42 => exact rfl)); (try dsimp only)))
  trivial
set_option pp.deepTerms false
set_option pp.deepTerms.threshold 8
theorem c_law_refused (w : World) (x : Str) (l : List UInt8) (t t' : Tok) (hx : IsCs x) (hsz : l.length < 1000) : PCS w 12 161 [.str x t, .bytes l.toArray t'] (RInt (badFrom x l l.length 0)) := by
  have hxl : x.length ≤ 20 := by rcases hx with rfl | rfl | rfl <;> decide
  unfold PCS
  k_fill
  w_top off
  intro mean mg mb dp un gd cn cs a ccd cl outer A₀ base h₀ L m s Q E B F XB TB hk hd hu hret
  have X := XB.keeps B.stays
  have T := TB.keeps B.stays
  k_with_none
  k_with "x1" => ((refine wpAny_call ?_; first   | (refine' code_defG (news := []) ?k1x1 ?k2x1 ?k3x1 News.nil ?k5x1 ?kAx1 ?kFx1 ?kKx1 ?k6x1 ?k7x1 ?k8x1 ?k9x1 ?kBx1 ?_ ?c2x1 ?c3x1 ?c4x1 ?c5x1; (case kAx1 => exact rfl); (case kFx1 => exact rfl); (case kKx1 => assumption); (case k1x1 => k_asm); (case k2x1 => k_asm); (case k3x1 => k_asm); (case k5x1 => k_asm); (case k6x1 => k_is); (case k7x1 => k_is); (case k8x1 => ktr_room); (case k9x1 => exact BindsTo.of_eq rfl); (case c5x1 => decide); (case kBx1 => exact locs rfl); (case c2x1 => exact rfl); (case c3x1 => exact rfl); (case c4x1 => exact rfl); k_whole; intro gpq7 Lpq7 hpq7 FGpq7 Fpq7 Npq7 Bpq7 Xpq7 Tpq7 kGpq7; (try dsimp only); (try k_fold))   | (refine' code_defGC (news := []) ?k1x1 ?k2x1 ?k3x1 News.nil ?k5x1 ?kAx1 ?kFx1 ?kKx1 ?k6x1 ?k7x1 ?k8x1 ?k9x1 ?kBx1 ?kDx1 ?_ ?c2x1 ?c3x1 ?c4x1; (case kAx1 => exact rfl); (case kFx1 => exact rfl); (case kKx1 => assumption); (case k1x1 => k_asm); (case k2x1 => k_asm); (case k3x1 => k_asm); (case k5x1 => k_asm); (case k6x1 => k_is); (case k7x1 => k_is); (case k8x1 => ktr_room); (case k9x1 => exact BindsTo.of_eq rfl); (case kBx1 => exact rfl); (case kDx1 => decide +kernel); (case c2x1 => exact rfl); (case c3x1 => exact rfl); (case c4x1 => exact rfl); k_whole; intro gpq7 Lpq7 hpq7 tkpq7 cellspq7 FGpq7 Fpq7 Npq7 Ypq7 Bpq7 Xpq7 Tpq7 l1q7 kGpq7; clear l1q7; k_cells Ypq7; (try simp only [List.cons_append, List.nil_append] at Npq7); (try dsimp only); (try k_fold))))
  k_with "calls" => (cell_ask (c_need_charset _ _ _ (by assumption)))
  k_with "calls" => (cell_ask (c_has_sign _ _ _ _ _ (by assumption)))
  k_with "calls" => (cell_ask (c_utf8_octets _ _ _ (by assumption)))
  k_with "calls" => (cell_ask (c_utf8_sign _ _ _ _ _ (by first | assumption | omega) (by first | assumption | omega) (by first | assumption | omega)))
  k_with "calls" => (cell_ask (c_sign_at' _ _ _ _ _ _ _ (by assumption) (by first | assumption | omega) (by first | assumption | omega) (by first | assumption | omega)))
  k_with "x15" => ((intro zq7 h2q7 h3q7; (simp only [List.forall_mem_cons, List.not_mem_nil, false_implies, implies_true, and_true, ne_eq] at h2q7); (simp only [List.contains_cons, List.contains_nil, Bool.or_false, Bool.or_eq_false_iff, beq_eq_false_iff_ne, ne_eq] at h3q7); simp [kstB, h2q7, h3q7]))
  k_with "calls" => (cell_ask (c_text_in _ _ _ _ _ (by assumption) (by assumption)))
  k_with "calls" => (cell_ask (c_strict_text _ _ _ _ _ (by assumption) (by assumption) (by assumption)))
  k_with "x18" => ((k_here; k_dflt (refine item_text (by first | assumption | omega) (by first | assumption | omega) (by first | assumption | omega) ?_)))
  k_with "x19" => ((k_here; k_dflt (refine len_text (by first | assumption | omega) ?_)))
  k_with "x20" => ((k_here; k_dflt (refine ord_one (by first | assumption | omega) ?_)))
  k_with "calls" => (cell_ask (c_has_sign_true _ _ _ _ _ (by assumption) (by assumption)))
  k_with "x22" => ((intro zq7 h1q7 h2q7 h3q7; (simp only [List.forall_mem_cons, List.not_mem_nil, false_implies, implies_true, and_true, ne_eq] at h2q7); (simp only [List.contains_cons, List.contains_nil, Bool.or_false, Bool.or_eq_false_iff, beq_eq_false_iff_ne, ne_eq] at h3q7); simp [kstB, h1q7, h2q7, h3q7]))
  k_with "calls" => (cell_ask (c_octets_in0 _ _ _ _ _ (by assumption) (by first | assumption | omega) (by assumption)))
  k_with "calls" => (cell_ask (c_best_charset _ _ _ (by first | assumption | omega) (by assumption)))
  k_with "x35" => ((k_here; (refine wpAny_call ?_); k_dflt (refine' code_def ?k1x35 ?k2x35 ?k3x35 ?k4x35 ?k5x35 ?kAx35 ?kFx35 ?kKx35 ?k6x35 ?k7x35 ?k8x35 ?k9x35 ?kBx35 ?_ ?c2x35 ?c3x35 ?c4x35 ?c5x35; (case kAx35 => exact rfl); (case kFx35 => exact rfl); (case kKx35 => first | exact rfl | assumption); (case k1x35 => k_asm); (case k2x35 => k_asm); (case k3x35 => k_asm); (case k4x35 => k_asm); (case k5x35 => k_asm); (case k6x35 => k_is); (case k7x35 => k_is); (case k8x35 => ktr_room); (case k9x35 => exact BindsTo.of_eq rfl); (case c5x35 => decide); (case kBx35 => exact locs rfl); (case c2x35 => exact rfl); (case c3x35 => exact rfl); (case c4x35 => exact rfl); k_whole); intro gpq7 Lpq7 hpq7 FGpq7 Fpq7 Npq7 Bpq7 Xpq7 Tpq7; (try dsimp only); (try k_fold)))
  k_with "x36" => (cell_ask (c_need_charset _ _ _ (by assumption)))
  k_with "x37" => (cell_ask (c_sign_at' _ _ _ _ _ _ _ (by assumption) (by first | assumption | omega) (by first | assumption | omega) (by first | assumption | omega)))
  k_with "x38" => ((k_here; k_dflt (refine' pc_useF (c_fault _ _ _ _ _ ?kzx38) ?k1x38 ?k2x38 ?k3x38 ?k4x38 ?kKx38 ?k5x38 ?kdx38 ?kux38 ?_; (case k1x38 => k_asm); (case k2x38 => k_asm); (case k3x38 => k_asm); (case k4x38 => k_asm); (case kKx38 => first | exact rfl | assumption); (case k5x38 => k_asm); (case kdx38 => ktr_room); (case kux38 => ktr_units); (case kzx38 => k_extra "my len")); intro x9q7 tt9q7 dx9q7 es9q7 n9q7 t9q7 h9q7 tk9q7 F9q7 N9q7 g9q7; (try dsimp only)))
  k_with "x39" => ((k_here; k_dflt (refine' kx_leaveN ?kBx39 ?kFx39 ?kNx39 ?_; (case kBx39 => k_asm); (case kFx39 => k_asm); (case kNx39 => k_asm)); intro h9q7 R9q7 U9q7; (try dsimp only at R9q7 U9q7 ⊢)))
  k_with "x40" => ((k_here; (rename FlyS _ _ _ _ _ _ _ => R9q7); k_dflt (refine' kx_caught R9q7 ?kFx40 ?kBx40 ?kUx40 ?kXx40 ?kTx40 ?kex40 ?_; (case kFx40 => assumption); (case kBx40 => assumption); (case kUx40 => assumption); (case kXx40 => assumption); (case kTx40 => assumption); (case kex40 => exact (kx_gets _ rfl).2.2)); intro h9q7 g9q7 ox9q7 tk9q7 T9q7 F9q7 N9q7 c9q7 n9q7 d9q7 B9q7 X9q7 P9q7; (try dsimp only)))
  k_with "x41" => ((k_here; k_dflt (refine kx_raise rfl ?_)))
  k_with "x42" => ((k_here; k_dflt (refine' kx_getN ?kXx42 ?kFx42 ?kNx42 ?kcx42 ?knx42 ?kdx42 ?klx42 ?khx42 ?_; (case kNx42 => k_asm); (case kFx42 => k_asm); (case kXx42 => k_asm); (case kcx42 => assumption); (case knx42 => assumption); (case kdx42 => assumption); (case klx42 => assumption); (case khx42 => exact rfl)); (try dsimp only)))
  k_with "my while" =>
    (rename Fr _ _ _ _ => lF)
    (rename News _ _ _ _ => lN)
    (refine' ksw_while (σ := Int × Tok × List Value × List Str × Nat) (fun c => [(_, W.listOf c.2.2.1.toArray c.2.2.2.2)]) (fun c => [(Str.ofString "at", .int c.1 c.2.1)]) (fun c => StrsAre c.2.2.1 c.2.2.2.1) [Str.ofString "code", Str.ofString "length"] (fun c => 0 ≤ c.1 ∧ c.1 ≤ 1005 ∧ (c.2.2.2.1.length : Int) ≤ c.1 ∧ SI x l c.1 c.2.2.2.1) (fun c => ((l.length : Int) - c.1).toNat) (0, _, [], [], 0) lF ?kn ?kf ?kk ?kp ?_ ?hE)
    (case kn => exact lN)
    (case kf => exact StrsAre.nil)
    (case kk => kst_all)
    (case kp => have h := SI.start x l; exact ⟨h.1.1, h.1.2.1, h.1.2.2.1, h⟩)
    (case hE => passes_own)
    (rintro ⟨i9, tk9, vs9, sg9, n9⟩ u9 h9 tk9' hf9 hp9 F9 N9)
    (dsimp only at hf9 hp9 N9)
    (obtain ⟨hp1, hp2, hp3, hp4⟩ := hp9)
    (clear lF lN)
    (try k_fold)
  k_with "my end" =>
    (rename News _ _ _ _ => nE)
    (try simp only [List.push_toArray] at nE)
    (exact ksw_end (_, _, _, _, _) (by assumption) nE (List.forall_mem_cons.mpr ⟨by k_mem, List.forall_mem_nil _⟩) (by exact StrsAre.append' (by assumption) (.cons _ _ .nil)) (by kst_all) (by walk_at "my same") (by have h := SI.step (by assumption) hsz (by assumption) (by first | assumption | omega); exact ⟨h.1.1, h.1.2.1, h.1.2.2.1, h⟩) (by exact TI.less (by assumption) (by omega)))
  k_with "my join" =>
    (have hq := (by assumption : ¬ i9 < ((l.toArray.size : Nat) : Int)))
    (rw [List.size_toArray] at hq)
    (have e9 := hp4.1.done hq)
    (have e8 := hp4.good hq)
    (subst e9)
    (rw [List.length_map] at hp3)
    (refine join_ones (News.isList (by k_asm) (by k_mem)) (by assumption) (by omega) ?_)
    (intro t9 k9)
    (try dsimp only)
  k_with "my len" => (rcases hx with rfl | rfl | rfl <;> decide +kernel)
  refine wpAny_call ?_
  (refine' code_defU ?k1 ?k2 ?k3 ?k5 ?kA ?kF ?kK ?k6 ?k7 ?k8 ?k9 ?kB ?_ ?c2 ?c3 ?c4 ?c5; (case kA => exact rfl); (case kF => exact rfl); (case kK => assumption); (case k1 => exact B); (case k2 => exact F); (case k3 => exact X); (case k5 => exact T); (case k6 => k_is); (case k7 => k_is); (case k8 => ktr_room); (case k9 => exact BindsTo.of_eq rfl); (case c5 => decide); (case kB => exact locs rfl); (case c2 => exact rfl); (case c3 => exact rfl); (case c4 => exact rfl); k_whole; intro L1 h1 F1 B1 X1 T1; (try dsimp only); (try k_fold))
  have N1 : News s.heap L1 h1 [] := News.nil
  clear B F X T
  k_steps
  rotate_left
  · exact hret _ _ _ (UpF.of_ext (Fr.keep (by assumption))) (int_eq e8.symm)
  rename KtsTurn _ _ _ => T9
  exact hret _ _ _ (upf_of_turn T9 (Fr.keep (by assumption))) (int_eq (hp4.bad (by assumption) (by assumption)).symm)
end


noncomputable abbrev penO (q : Addr) (a : Int) (ta : Tok) (b : Int) (tb : Tok) (c : Nat) : Obj := W.listOf #[.ref q, .int a ta, .int b tb] c
/-- a draw: the pen's second and third items change, a number below `many` comes back -/
noncomputable def PD (w : World) (d : Nat) (f : Addr) (args : Value → List Value) (many : Int) (R : Int → Value → Prop) : Prop :=
  ∀ (mean : ExcName → Option Value) (mg mb : Str → Option Value) (dp un : Nat) (gd : Option (List Code)) (cn : Str) (cs : Scope) (a : Addr) (ccd : Value) (cl : List (Str × Addr)) (outer : List Env) (A₀ : Around) (base h₀ : Heap) (L : Addr) (m : Str → Option Value) (s : Shared) (Q E : Value → Shared → Prop)
    (p q : Addr) (x y : Int) (tx ty : Tok) (c c' : Nat) (vs : List Value) (cells : List Int),
    Below A₀ base outer h₀ → Fr h₀ L s.heap m → (hd.heap_39 w.params).In h₀ → Top hd.view_39 LOOSE mean mg mb h₀ → cs.kind = .function → dp + d < recursionLimit → un + 40 * d < cLine →
    News h₀ L s.heap [(p, penO q x tx y ty c), (q, W.listOf vs.toArray c')] → (@Ne Nat p q) → IntsAre vs cells → cells.length ≤ 40 → 0 ≤ x → x ≤ 1000 → 0 ≤ y → 
    (∀ r v x' tx' y' ty' h' tk, (∀ b o, s.heap.get? b = some o → b ≠ p → h'.get? b = some o) → h'.get? p = some (penO q x' tx' y' ty' c) → 0 ≤ r → r < many → 0 ≤ x' → x' ≤ x + 1 → 0 ≤ y' → R r v → Q v { s with heap := h', toks := tk }) →
    wpAny (model PySem.Challenge.rw_nz0281_01.row.toRowW.prog w) (ktrTop dp un gd cn cs L a ccd cl outer) (call (.ref f) (args (.ref p))) Q E s
theorem pd_end {h₀ g' h'' : Heap} {L L' p q : Addr} {m' : Str → Option Value} {s : Shared} {x y x' y' many r : Int} {tx ty tx' ty' tk : Tok} {tk' c c' : Nat} {vs : List Value} {news' : List (Addr × Obj)} {R : Int → Value → Prop} {Q : Value → Shared → Prop}
    (hret : ∀ r v x' tx' y' ty' h' tk, (∀ b o, s.heap.get? b = some o → b ≠ p → h'.get? b = some o) → h'.get? p = some (penO q x' tx' y' ty' c) → 0 ≤ r → r < many → 0 ≤ x' → x' ≤ x + 1 → 0 ≤ y' → R r v → Q v { s with heap := h', toks := tk })
    (G : GSub s.heap g' ([(p, penO q x tx y ty c), (q, W.listOf vs.toArray c')].map (·.1))) (N : News h₀ L s.heap [(p, penO q x tx y ty c), (q, W.listOf vs.toArray c')]) (F' : Fr g' L' h'' m') (N' : News g' L' h'' news')
    (h1 : (p, penO q x' tx' y' ty' c) ∈ news') (h2 : (q, W.listOf vs.toArray c') ∈ news') (r1 : 0 ≤ r) (r2 : r < many) (x1 : 0 ≤ x') (x2 : x' ≤ x + 1) (y1 : 0 ≤ y') (hR : R r (.int r tk)) : Q (.int r tk) { s with heap := h'', toks := tk' } := by
  refine hret r _ x' tx' y' ty' h'' tk' (fun b o e n => ?_) (N'.get h1) r1 r2 x1 x2 y1 hR
  by_cases hq : b = q
  · subst hq
    have e2 := N.get (.tail _ (.head _))
    rw [e] at e2
    cases e2
    exact N'.get h2
  · exact F'.keep _ _ (G b o e (fun hm => by
      rcases List.mem_cons.mp hm with z | z
      · exact n z
      · rcases List.mem_cons.mp z with z | z
        · exact hq z
        · cases z))
theorem gr0 {a b v : Int} (h : b ≤ a) : 0 ≤ 2 * (a - b) + (if decide (v < 0) = true then 1 else 0) := by split <;> omega
theorem dz {l : List Int} (h : decide (l = []) = false) (h2 : (l.length : Int) = 0) : False := of_decide_eq_false h (List.length_eq_zero_iff.mp (by omega))
theorem fm0 {a b : Int} (h : 1 ≤ b) : 0 ≤ Int.fmod a b := by rw [Int.fmod_eq_emod_of_nonneg a (by omega)]; exact Int.emod_nonneg _ (by omega)
theorem fm1 {a b : Int} (h : 1 ≤ b) : Int.fmod a b < b := Int.fmod_lt_of_pos _ (by omega)
theorem fd0 {a b : Int} (h : 1 ≤ b) (ha : 0 ≤ a) : 0 ≤ Int.fdiv a b := Int.fdiv_nonneg ha (by omega)
theorem my_pow {prog : Program} {w : World} {A : Around} {E : Value → Shared → Prop} {s : Shared} {Q : Value → Shared → Prop} {a n : Int} {t u : Tok} (hn : 0 ≤ n) (hn2 : n ≤ 1000000) (ha : a.natAbs < 2 ^ 64) (h : ∀ z : Int, Q (.int z s.toks) { s with toks := s.toks + 1 }) :
    wpAny (model prog w) A (binaryOp .Pow (.int a t) (.int n u)) Q E s := pow_int_small hn hn2 ha (h _)
theorem pw1 (c : Int) {x : Int} (h : 0 ≤ x) (h2 : x ≤ 1000) : (Int.fmod c 2147483587 + 20947 * x + 3571).natAbs < 2 ^ 64 := by
  rw [Int.fmod_eq_emod_of_nonneg c (by decide)]
  have a := Int.emod_nonneg c (b := 2147483587) (by decide)
  have b := Int.emod_lt_of_pos c (b := 2147483587) (by decide)
  omega
theorem pw2 (c : Int) {x : Int} (h : 0 ≤ x) (h2 : x ≤ 1000) : (Int.fmod c 2147483629 * (2 * x + 7207) + 20947 * x * x + 31).natAbs < 2 ^ 64 := by
  rw [Int.fmod_eq_emod_of_nonneg c (by decide)]
  have a := Int.emod_nonneg c (b := 2147483629) (by decide)
  have b := Int.emod_lt_of_pos c (b := 2147483629) (by decide)
  have e := Int.mul_le_mul (Int.le_of_lt b) (show 2 * x + 7207 ≤ 9207 by omega) (by omega) (by omega)
  have e0 := Int.mul_nonneg a (show 0 ≤ 2 * x + 7207 by omega)
  have f := Int.mul_le_mul (show 20947 * x ≤ 20947 * 1000 by omega) h2 h (by omega)
  have f0 := Int.mul_nonneg (show 0 ≤ 20947 * x by omega) h
  omega
section
local macro_rules | `(tactic| walk_at "binaryOp Pow int int") => `(tactic| k_extra "x43")
theorem xt43 : True := by
  k_with "x43" => ((k_here; k_dflt (refine my_pow (by decide) (by decide) (by first | with_reducible exact pw1 _ (by assumption) (by assumption) | with_reducible exact pw2 _ (by assumption) (by assumption)) ?_); intro z9q7; (try dsimp only)))
  trivial
set_option pp.deepTerms false
set_option pp.deepTerms.threshold 8
theorem c_draw (w : World) (many : Int) (tm : Tok) (h1 : 1 ≤ many) (h2 : many ≤ 100) : PD w 4 147 (fun p => [p, .int many tm]) many (fun r v => ∃ t, v = .int r t) := by
  unfold PD
  k_fill
  w_top off
  intro mean mg mb dp un gd cn cs a ccd cl outer A₀ base h₀ L m s Q E p q x y tx ty c c' vs cells B F X T hk hd hu N hpq hI hlen hx hx2 hy hret
  k_with_none
  k_with "x1" => ((refine wpAny_call ?_; first   | (refine' code_defG (news := []) ?k1x1 ?k2x1 ?k3x1 News.nil ?k5x1 ?kAx1 ?kFx1 ?kKx1 ?k6x1 ?k7x1 ?k8x1 ?k9x1 ?kBx1 ?_ ?c2x1 ?c3x1 ?c4x1 ?c5x1; (case kAx1 => exact rfl); (case kFx1 => exact rfl); (case kKx1 => assumption); (case k1x1 => k_asm); (case k2x1 => k_asm); (case k3x1 => k_asm); (case k5x1 => k_asm); (case k6x1 => k_is); (case k7x1 => k_is); (case k8x1 => ktr_room); (case k9x1 => exact BindsTo.of_eq rfl); (case c5x1 => decide); (case kBx1 => exact locs rfl); (case c2x1 => exact rfl); (case c3x1 => exact rfl); (case c4x1 => exact rfl); k_whole; intro gpq7 Lpq7 hpq7 FGpq7 Fpq7 Npq7 Bpq7 Xpq7 Tpq7 kGpq7; (try dsimp only); (try k_fold))   | (refine' code_defGC (news := []) ?k1x1 ?k2x1 ?k3x1 News.nil ?k5x1 ?kAx1 ?kFx1 ?kKx1 ?k6x1 ?k7x1 ?k8x1 ?k9x1 ?kBx1 ?kDx1 ?_ ?c2x1 ?c3x1 ?c4x1; (case kAx1 => exact rfl); (case kFx1 => exact rfl); (case kKx1 => assumption); (case k1x1 => k_asm); (case k2x1 => k_asm); (case k3x1 => k_asm); (case k5x1 => k_asm); (case k6x1 => k_is); (case k7x1 => k_is); (case k8x1 => ktr_room); (case k9x1 => exact BindsTo.of_eq rfl); (case kBx1 => exact rfl); (case kDx1 => decide +kernel); (case c2x1 => exact rfl); (case c3x1 => exact rfl); (case c4x1 => exact rfl); k_whole; intro gpq7 Lpq7 hpq7 tkpq7 cellspq7 FGpq7 Fpq7 Npq7 Ypq7 Bpq7 Xpq7 Tpq7 l1q7 kGpq7; clear l1q7; k_cells Ypq7; (try simp only [List.cons_append, List.nil_append] at Npq7); (try dsimp only); (try k_fold))))
  k_with "calls" => (cell_ask (c_need_charset _ _ _ (by assumption)))
  k_with "calls" => (cell_ask (c_has_sign _ _ _ _ _ (by assumption)))
  k_with "calls" => (cell_ask (c_utf8_octets _ _ _ (by assumption)))
  k_with "calls" => (cell_ask (c_utf8_sign _ _ _ _ _ (by first | assumption | omega) (by first | assumption | omega) (by first | assumption | omega)))
  k_with "calls" => (cell_ask (c_sign_at' _ _ _ _ _ _ _ (by assumption) (by first | assumption | omega) (by first | assumption | omega) (by first | assumption | omega)))
  k_with "x15" => ((intro zq7 h2q7 h3q7; (simp only [List.forall_mem_cons, List.not_mem_nil, false_implies, implies_true, and_true, ne_eq] at h2q7); (simp only [List.contains_cons, List.contains_nil, Bool.or_false, Bool.or_eq_false_iff, beq_eq_false_iff_ne, ne_eq] at h3q7); simp [kstB, h2q7, h3q7]))
  k_with "calls" => (cell_ask (c_text_in _ _ _ _ _ (by assumption) (by assumption)))
  k_with "calls" => (cell_ask (c_strict_text _ _ _ _ _ (by assumption) (by assumption) (by assumption)))
  k_with "x18" => ((k_here; k_dflt (refine item_text (by first | assumption | omega) (by first | assumption | omega) (by first | assumption | omega) ?_)))
  k_with "x19" => ((k_here; k_dflt (refine len_text (by first | assumption | omega) ?_)))
  k_with "x20" => ((k_here; k_dflt (refine ord_one (by first | assumption | omega) ?_)))
  k_with "calls" => (cell_ask (c_has_sign_true _ _ _ _ _ (by assumption) (by assumption)))
  k_with "x22" => ((intro zq7 h1q7 h2q7 h3q7; (simp only [List.forall_mem_cons, List.not_mem_nil, false_implies, implies_true, and_true, ne_eq] at h2q7); (simp only [List.contains_cons, List.contains_nil, Bool.or_false, Bool.or_eq_false_iff, beq_eq_false_iff_ne, ne_eq] at h3q7); simp [kstB, h1q7, h2q7, h3q7]))
  k_with "calls" => (cell_ask (c_octets_in0 _ _ _ _ _ (by assumption) (by first | assumption | omega) (by assumption)))
  k_with "calls" => (cell_ask (c_best_charset _ _ _ (by first | assumption | omega) (by assumption)))
  k_with "x43" => ((k_here; k_dflt (refine my_pow (by decide) (by decide) (by first | with_reducible exact pw1 _ (by assumption) (by assumption) | with_reducible exact pw2 _ (by assumption) (by assumption)) ?_); intro z9q7; (try dsimp only)))
  refine wpAny_call ?_
  (refine' code_defG ?k1 ?k2 ?k3 ?k4 ?k5 ?kA ?kF ?kK ?k6 ?k7 ?k8 ?k9 ?kB ?_ ?c2 ?c3 ?c4 ?c5; (case kA => exact rfl); (case kF => exact rfl); (case kK => assumption); (case k1 => k_asm); (case k2 => k_asm); (case k3 => k_asm); (case k4 => exact N); (case k5 => k_asm); (case k6 => k_is); (case k7 => k_is); (case k8 => ktr_room); (case k9 => exact BindsTo.of_eq rfl); (case c5 => decide); (case kB => exact locs rfl); (case c2 => exact rfl); (case c3 => exact rfl); (case c4 => exact rfl); k_whole; intro g' L' h' FG' F' N' B' X' T' kG'; (try dsimp only); (try k_fold))
  k_steps
  all_goals first
    | exact (dz (by assumption) (by assumption)).elim
    | exact pd_end hret (by assumption) N (by assumption) (by assumption) (by first | exact .head _ | exact .tail _ (.tail _ (.head _))) (by first | exact .tail _ (.head _) | exact .tail _ (.tail _ (.tail _ (.head _)))) (fm0 h1) (fm1 h1) (by omega) (by omega) (by first | omega | exact fd0 h1 (by omega) | exact fd0 h1 (gr0 (by assumption))) ⟨_, rfl⟩
end


theorem news_turn {h₀ h h' : Heap} {L p : Addr} {news : List (Addr × Obj)} {o o' : Obj} (N : News h₀ L h news) (hm : (p, o) ∈ news) (K : ∀ b o, h.get? b = some o → b ≠ p → h'.get? b = some o) (hp : h'.get? p = some o') :
    News h₀ L h' (news.map fun e => if e.1 = p then (p, o') else e) := by
  intro e he
  obtain ⟨e₀, h0, rfl⟩ := List.mem_map.mp he
  obtain ⟨n1, n2, n3⟩ := N e₀ h0
  by_cases q : e₀.1 = p
  · rw [if_pos q]
    exact ⟨hp, (N _ hm).2.1, (N _ hm).2.2⟩
  · rw [if_neg q]
    exact ⟨K _ _ n1 q, n2, n3⟩
theorem fr_turn {h₀ h h' : Heap} {L p : Addr} {m : Str → Option Value} {news : List (Addr × Obj)} {o : Obj} (F : Fr h₀ L h m) (N : News h₀ L h news) (hm : (p, o) ∈ news) (K : ∀ b o, h.get? b = some o → b ≠ p → h'.get? b = some o) : Fr h₀ L h' m := by
  obtain ⟨oL, a1, a2, hoL, a3⟩ := F.ns
  refine ⟨⟨oL, a1, a2, K _ _ hoL (fun e => (N _ hm).2.1 e.symm), a3⟩, fun b x e => K _ _ (F.keep b x e) ?_, F.above⟩
  rintro rfl
  rw [(N _ hm).2.2] at e
  cases e

theorem pd_use {w : World} {d : Nat} {f : Addr} {args : Value → List Value} {many : Int} {R : Int → Value → Prop} {mean : ExcName → Option Value} {mg mb : Str → Option Value} {dp un : Nat} {gd : Option (List Code)} {cn : Str} {cs : Scope} {a : Addr} {ccd : Value} {cl : List (Str × Addr)} {outer : List Env} {A₀ : Around} {base h₀ : Heap} {L : Addr} {m : Str → Option Value} {news : List (Addr × Obj)} {s : Shared} {Q E : Value → Shared → Prop}
    {p q : Addr} {x y : Int} {tx ty : Tok} {c c' : Nat} {vs : List Value} {cells : List Int}
    (C : PD w d f args many R) (B : Below A₀ base outer h₀) (F : Fr h₀ L s.heap m) (X : (hd.heap_39 w.params).In h₀) (T : Top hd.view_39 LOOSE mean mg mb h₀) (hk : cs.kind = .function) (N : News h₀ L s.heap news)
    (hdp : dp + d < recursionLimit) (hun : un + 40 * d < cLine) (hm1 : (p, penO q x tx y ty c) ∈ news) (hm2 : (q, W.listOf vs.toArray c') ∈ news) (hpq : @Ne Nat p q) (hI : IntsAre vs cells) (hlen : cells.length ≤ 40) (hx : 0 ≤ x) (hx2 : x ≤ 1000) (hy : 0 ≤ y)
    (h : ∀ r v x' tx' y' ty' h' tk, Fr h₀ L h' m → News h₀ L h' (news.map fun e => if e.1 = p then (p, penO q x' tx' y' ty' c) else e) → 0 ≤ r → r < many → 0 ≤ x' → x' ≤ x + 1 → 0 ≤ y' → R r v → Q v { s with heap := h', toks := tk }) :
    wpAny (model PySem.Challenge.rw_nz0281_01.row.toRowW.prog w) (ktrTop dp un gd cn cs L a ccd cl outer) (call (.ref f) (args (.ref p))) Q E s :=
  C mean mg mb dp un gd cn cs a ccd cl outer A₀ base h₀ L m s Q E p q x y tx ty c c' vs cells B F X T hk hdp hun
    (N.perm fun e he => by
      rcases List.mem_cons.mp he with rfl | he
      · exact hm1
      · obtain rfl := List.mem_singleton.mp he
        exact hm2) hpq hI hlen hx hx2 hy
    fun r v x' tx' y' ty' h' tk K hp r1 r2 x1 x2 y1 hR => h r v x' tx' y' ty' h' tk (fr_turn F N hm1 K) (news_turn N hm1 K hp) r1 r2 x1 x2 y1 hR

/-- a pick: the pen changes, an item of the menu comes back -/
noncomputable def PP (w : World) (d : Nat) (f : Addr) (menu : List Int) : Prop :=
  ∀ (mean : ExcName → Option Value) (mg mb : Str → Option Value) (dp un : Nat) (gd : Option (List Code)) (cn : Str) (cs : Scope) (a : Addr) (ccd : Value) (cl : List (Str × Addr)) (outer : List Env) (A₀ : Around) (base h₀ : Heap) (L : Addr) (m : Str → Option Value) (s : Shared) (Q E : Value → Shared → Prop)
    (p q ml : Addr) (x y : Int) (tx ty : Tok) (c c' c'' : Nat) (vs its : List Value) (cells : List Int),
    Below A₀ base outer h₀ → Fr h₀ L s.heap m → (hd.heap_39 w.params).In h₀ → Top hd.view_39 LOOSE mean mg mb h₀ → cs.kind = .function → dp + d < recursionLimit → un + 40 * d < cLine →
    News h₀ L s.heap [(p, penO q x tx y ty c), (q, W.listOf vs.toArray c'), (ml, W.listOf its.toArray c'')] → (@Ne Nat p q) → (@Ne Nat p ml) → (@Ne Nat q ml) → IntsAre vs cells → IntsAre its menu → cells.length ≤ 40 → 0 ≤ x → x ≤ 1000 → 0 ≤ y → 
    (∀ r tr x' tx' y' ty' h' tk, (∀ b o, s.heap.get? b = some o → b ≠ p → h'.get? b = some o) → h'.get? p = some (penO q x' tx' y' ty' c) → r ∈ menu → 0 ≤ x' → x' ≤ x + 1 → 0 ≤ y' → Q (.int r tr) { s with heap := h', toks := tk }) →
    wpAny (model PySem.Challenge.rw_nz0281_01.row.toRowW.prog w) (ktrTop dp un gd cn cs L a ccd cl outer) (call (.ref f) [.ref p, .ref ml]) Q E s
theorem pp_end {h₀ g' h'' : Heap} {L L' p q ml : Addr} {m' : Str → Option Value} {menu : List Int} {s : Shared} {x y x' y' r : Int} {tx ty tx' ty' tk : Tok} {tk' c c' c'' : Nat} {vs its : List Value} {news' : List (Addr × Obj)} {Q : Value → Shared → Prop}
    (hret : ∀ r tr x' tx' y' ty' h' tk, (∀ b o, s.heap.get? b = some o → b ≠ p → h'.get? b = some o) → h'.get? p = some (penO q x' tx' y' ty' c) → r ∈ menu → 0 ≤ x' → x' ≤ x + 1 → 0 ≤ y' → Q (.int r tr) { s with heap := h', toks := tk })
    (G : GSub s.heap g' ([(p, penO q x tx y ty c), (q, W.listOf vs.toArray c'), (ml, W.listOf its.toArray c'')].map (·.1))) (N : News h₀ L s.heap [(p, penO q x tx y ty c), (q, W.listOf vs.toArray c'), (ml, W.listOf its.toArray c'')]) (F' : Fr g' L' h'' m') (N' : News g' L' h'' news')
    (h1 : (p, penO q x' tx' y' ty' c) ∈ news') (h2 : (q, W.listOf vs.toArray c') ∈ news') (h3 : (ml, W.listOf its.toArray c'') ∈ news') (r1 : r ∈ menu) (x1 : 0 ≤ x') (x2 : x' ≤ x + 1) (y1 : 0 ≤ y') : Q (.int r tk) { s with heap := h'', toks := tk' } := by
  refine hret r _ x' tx' y' ty' h'' tk' (fun b o e n => ?_) (N'.get h1) r1 x1 x2 y1
  by_cases hq : b = q
  · subst hq
    have e2 := N.get (.tail _ (.head _))
    rw [e] at e2
    cases e2
    exact N'.get h2
  · by_cases hq' : b = ml
    · subst hq'
      have e2 := N.get (.tail _ (.tail _ (.head _)))
      rw [e] at e2
      cases e2
      exact N'.get h3
    · exact F'.keep _ _ (G b o e (fun hm => by
        rcases List.mem_cons.mp hm with z | z
        · exact n z
        · rcases List.mem_cons.mp z with z | z
          · exact hq z
          · rcases List.mem_cons.mp z with z | z
            · exact hq' z
            · cases z))
section
local macro_rules | `(tactic| walk_at "call ref cons") => `(tactic| k_extra "x44")
theorem xt44 : True := by
  k_with "x44" => ((k_here; k_dflt (refine' pd_use (c_draw _ _ _ ?h1x44 ?h2x44) ?k1x44 ?k2x44 ?k3x44 ?k4x44 ?kKx44 ?k5x44 ?kdx44 ?kux44 ?m1x44 ?m2x44 ?pqx44 ?hIx44 ?hlx44 ?hxx44 ?hx2x44 ?hyx44 ?_; (case k1x44 => k_asm); (case k2x44 => k_asm); (case k3x44 => k_asm); (case k4x44 => k_asm); (case kKx44 => first | exact rfl | assumption); (case k5x44 => k_asm); (case kdx44 => ktr_room); (case kux44 => ktr_units); (case m1x44 => k_mem); (case m2x44 => k_mem); (case pqx44 => first | assumption | omega); (case hIx44 => assumption); (case hlx44 => assumption); (case hxx44 => assumption); (case hx2x44 => assumption); (case hyx44 => assumption); (case h1x44 => omega); (case h2x44 => omega)); (rintro r9q7 v9q7 x9q7 tx9q7 y9q7 ty9q7 h9q7 tk9q7 F9q7 N9q7 r1q7 r2q7 x1q7 x2q7 y1q7 ⟨t9q7, e9q7⟩); (subst e9q7); (simp only [List.map_cons, List.map_nil] at N9q7); (repeat (first | rw [if_pos trivial] at N9q7 | rw [if_pos rfl] at N9q7 | rw [if_neg (by (show ¬ @Eq Nat _ _); omega)] at N9q7)); (try dsimp only)))
  trivial
set_option pp.deepTerms false
set_option pp.deepTerms.threshold 8
local macro_rules | `(tactic| walk_at "void 2") => `(tactic| fail)
theorem c_pick (w : World) (menu : List Int) (h1 : 1 ≤ menu.length) (h2 : menu.length ≤ 100) : PP w 6 154 menu := by
  unfold PP
  k_fill
  w_top off
  intro mean mg mb dp un gd cn cs a ccd cl outer A₀ base h₀ L m s Q E p q ml x y tx ty c c' c'' vs its cells B F X T hk hd hu N hpq hpm hqm hI hJ hlen hx hx2 hy hret
  k_with_none
  k_with "x1" => ((refine wpAny_call ?_; first   | (refine' code_defG (news := []) ?k1x1 ?k2x1 ?k3x1 News.nil ?k5x1 ?kAx1 ?kFx1 ?kKx1 ?k6x1 ?k7x1 ?k8x1 ?k9x1 ?kBx1 ?_ ?c2x1 ?c3x1 ?c4x1 ?c5x1; (case kAx1 => exact rfl); (case kFx1 => exact rfl); (case kKx1 => assumption); (case k1x1 => k_asm); (case k2x1 => k_asm); (case k3x1 => k_asm); (case k5x1 => k_asm); (case k6x1 => k_is); (case k7x1 => k_is); (case k8x1 => ktr_room); (case k9x1 => exact BindsTo.of_eq rfl); (case c5x1 => decide); (case kBx1 => exact locs rfl); (case c2x1 => exact rfl); (case c3x1 => exact rfl); (case c4x1 => exact rfl); k_whole; intro gpq7 Lpq7 hpq7 FGpq7 Fpq7 Npq7 Bpq7 Xpq7 Tpq7 kGpq7; (try dsimp only); (try k_fold))   | (refine' code_defGC (news := []) ?k1x1 ?k2x1 ?k3x1 News.nil ?k5x1 ?kAx1 ?kFx1 ?kKx1 ?k6x1 ?k7x1 ?k8x1 ?k9x1 ?kBx1 ?kDx1 ?_ ?c2x1 ?c3x1 ?c4x1; (case kAx1 => exact rfl); (case kFx1 => exact rfl); (case kKx1 => assumption); (case k1x1 => k_asm); (case k2x1 => k_asm); (case k3x1 => k_asm); (case k5x1 => k_asm); (case k6x1 => k_is); (case k7x1 => k_is); (case k8x1 => ktr_room); (case k9x1 => exact BindsTo.of_eq rfl); (case kBx1 => exact rfl); (case kDx1 => decide +kernel); (case c2x1 => exact rfl); (case c3x1 => exact rfl); (case c4x1 => exact rfl); k_whole; intro gpq7 Lpq7 hpq7 tkpq7 cellspq7 FGpq7 Fpq7 Npq7 Ypq7 Bpq7 Xpq7 Tpq7 l1q7 kGpq7; clear l1q7; k_cells Ypq7; (try simp only [List.cons_append, List.nil_append] at Npq7); (try dsimp only); (try k_fold))))
  k_with "calls" => (cell_ask (c_need_charset _ _ _ (by assumption)))
  k_with "calls" => (cell_ask (c_has_sign _ _ _ _ _ (by assumption)))
  k_with "calls" => (cell_ask (c_utf8_octets _ _ _ (by assumption)))
  k_with "calls" => (cell_ask (c_utf8_sign _ _ _ _ _ (by first | assumption | omega) (by first | assumption | omega) (by first | assumption | omega)))
  k_with "calls" => (cell_ask (c_sign_at' _ _ _ _ _ _ _ (by assumption) (by first | assumption | omega) (by first | assumption | omega) (by first | assumption | omega)))
  k_with "x15" => ((intro zq7 h2q7 h3q7; (simp only [List.forall_mem_cons, List.not_mem_nil, false_implies, implies_true, and_true, ne_eq] at h2q7); (simp only [List.contains_cons, List.contains_nil, Bool.or_false, Bool.or_eq_false_iff, beq_eq_false_iff_ne, ne_eq] at h3q7); simp [kstB, h2q7, h3q7]))
  k_with "calls" => (cell_ask (c_text_in _ _ _ _ _ (by assumption) (by assumption)))
  k_with "calls" => (cell_ask (c_strict_text _ _ _ _ _ (by assumption) (by assumption) (by assumption)))
  k_with "x18" => ((k_here; k_dflt (refine item_text (by first | assumption | omega) (by first | assumption | omega) (by first | assumption | omega) ?_)))
  k_with "x19" => ((k_here; k_dflt (refine len_text (by first | assumption | omega) ?_)))
  k_with "x20" => ((k_here; k_dflt (refine ord_one (by first | assumption | omega) ?_)))
  k_with "calls" => (cell_ask (c_has_sign_true _ _ _ _ _ (by assumption) (by assumption)))
  k_with "x22" => ((intro zq7 h1q7 h2q7 h3q7; (simp only [List.forall_mem_cons, List.not_mem_nil, false_implies, implies_true, and_true, ne_eq] at h2q7); (simp only [List.contains_cons, List.contains_nil, Bool.or_false, Bool.or_eq_false_iff, beq_eq_false_iff_ne, ne_eq] at h3q7); simp [kstB, h1q7, h2q7, h3q7]))
  k_with "calls" => (cell_ask (c_octets_in0 _ _ _ _ _ (by assumption) (by first | assumption | omega) (by assumption)))
  k_with "calls" => (cell_ask (c_best_charset _ _ _ (by first | assumption | omega) (by assumption)))
  k_with "x44" => ((k_here; k_dflt (refine' pd_use (c_draw _ _ _ ?h1x44 ?h2x44) ?k1x44 ?k2x44 ?k3x44 ?k4x44 ?kKx44 ?k5x44 ?kdx44 ?kux44 ?m1x44 ?m2x44 ?pqx44 ?hIx44 ?hlx44 ?hxx44 ?hx2x44 ?hyx44 ?_; (case k1x44 => k_asm); (case k2x44 => k_asm); (case k3x44 => k_asm); (case k4x44 => k_asm); (case kKx44 => first | exact rfl | assumption); (case k5x44 => k_asm); (case kdx44 => ktr_room); (case kux44 => ktr_units); (case m1x44 => k_mem); (case m2x44 => k_mem); (case pqx44 => first | assumption | omega); (case hIx44 => assumption); (case hlx44 => assumption); (case hxx44 => assumption); (case hx2x44 => assumption); (case hyx44 => assumption); (case h1x44 => omega); (case h2x44 => omega)); (rintro r9q7 v9q7 x9q7 tx9q7 y9q7 ty9q7 h9q7 tk9q7 F9q7 N9q7 r1q7 r2q7 x1q7 x2q7 y1q7 ⟨t9q7, e9q7⟩); (subst e9q7); (simp only [List.map_cons, List.map_nil] at N9q7); (repeat (first | rw [if_pos trivial] at N9q7 | rw [if_pos rfl] at N9q7 | rw [if_neg (by (show ¬ @Eq Nat _ _); omega)] at N9q7)); (try dsimp only)))
  refine wpAny_call ?_
  (refine' code_defG ?k1 ?k2 ?k3 ?k4 ?k5 ?kA ?kF ?kK ?k6 ?k7 ?k8 ?k9 ?kB ?_ ?c2 ?c3 ?c4 ?c5; (case kA => exact rfl); (case kF => exact rfl); (case kK => assumption); (case k1 => k_asm); (case k2 => k_asm); (case k3 => k_asm); (case k4 => exact N); (case k5 => k_asm); (case k6 => k_is); (case k7 => k_is); (case k8 => ktr_room); (case k9 => exact BindsTo.of_eq rfl); (case c5 => decide); (case kB => exact locs rfl); (case c2 => exact rfl); (case c3 => exact rfl); (case c4 => exact rfl); k_whole; intro g' L' h' FG' F' N' B' X' T' kG'; (try dsimp only); (try k_fold))
  k_steps
  exact pp_end hret kG' N (by assumption) (by assumption) (.head _) (.tail _ (.head _)) (.tail _ (.tail _ (.head _))) (getD_mem (by omega)) (by assumption) (by assumption) (by assumption)
end


/-! a call that marks frames below it, made from a loop: the ground turns -/
section
variable {prog : Program} {w : World} {A₀ A : Around} {s : Shared} {base h₀ : Heap} {outer : List Env} {L : Addr} {m : Str → Option Value} {env : Env} {news : List (Addr × Obj)} {K : Frag}
theorem code_defUC {p : Program} {loose : List Str} {mean : ExcName → Option Value} {mg mb : Str → Option Value} {R : Result → Shared → Prop} {name qual : Str} {params : Arguments} {body : List Stmt} {scope : Scope} {dV kV doc pm cdv ct oc : Value} {an od : Option Addr} {osl : Array (Option Value)} {f : Addr} {args : Args} {binds : List (Str × Value)}
    (B : Below A₀ base outer h₀) (F : Fr h₀ L s.heap m) (X₀ : K.In h₀) (T : Top p loose mean mg mb h₀) (hA : A.frames = some (env :: outer)) (hf : env.frame = some L) (hke : env.scope.kind = .function)
    (ho : K.lookup f = some ⟨oc, od, .func (fnOf name qual params body scope dV kV doc pm an cdv ct), osl⟩) (hcd : codeIn K cdv qual = true) (hroom : A.depth < recursionLimit)
    (hbind : BindsTo s (fnOf name qual params body scope dV kV doc pm an cdv ct) args binds) (hkind : (binds.all fun y => scope.names.lookup y.1 == some .local || scope.names.lookup y.1 == some .cell) = true)
    (hnd : ((cellsFrom 0 scope.names []).map (·.1)).Nodup)
    (h : ∀ L' h₁ tk cells, Fr s.heap L' h₁ (bindL (envOfC qual scope L' f cdv).kindOf binds fun _ => none) → News s.heap L' h₁ cells →
      CellsAre (bindC (envOfC qual scope L' f cdv).kindOf binds fun _ => none) (cellsFrom (L' + 1) scope.names []) cells → Below A base (env :: outer) s.heap → K.In s.heap → Top p loose mean mg mb s.heap →
      wpAny (model prog w) (A.deeper (envOfC qual scope L' f cdv)) (execs body (envOfC qual scope L' f cdv))
        (fun fl s' => R (.ok (.ret (match fl with | .ret v => v | _ => .none))) s')
        (fun e s' => wpAny (model prog w) (A.deeper (envOfC qual scope L' f cdv)) (leaving (envOfC qual scope L' f cdv) e) (fun _ s'' => R (.error e) s'') (fun e' s'' => R (.error e') s'') s')
        { s with heap := h₁, toks := tk })
    (hco : scope.isCoroutine = false) (hgen : scope.isGenerator = false) (hk : scope.kind = .function) : codeAny (model prog w) A (.call (.ref f) args) R s := by
  have X := X₀.keeps F.keep
  have T' := T.keeps F.keep
  have B₁ := pushX B F hf hke
  refine codeAny_call_function hroom (X _ _ ho) rfl hco hgen rfl (codeRec_of X hcd) (hbind _ _ _ _ ?_)
  refine wpAny_newFunctionEnv_cells hk (kindsX hkind _) fun env' he s' x => ?_
  subst he
  refine ⟨T'.nolimit.keeps x.toInCall.keep, codeAny_func ?_⟩
  obtain ⟨h₁, tk, rfl, _⟩ := x.done
  have hk₁ := x.toInCall.keep
  obtain ⟨cells, NC, Y⟩ := Cl.news (h₀ := s.heap) (Nat.le_refl _) fun n c hm => ⟨x.cell n c (lookup_of_mem_nodup (cellsFrom_names scope.names 0 (s.heap.objs.size + 1) [] [] rfl ▸ hnd) hm), x.above n c hm⟩
  exact h s.heap.objs.size h₁ tk cells ⟨x.toInCall.ns, hk₁, Nat.le_refl _⟩ NC Y ⟨hA, fun b o e => F.keep _ _ (B.stays b o e), B₁.frames⟩ X T'
end

/-- the frames below, told as entries -/
structure FrT (fs : List Addr) (h₀ : Heap) (fr : List (Addr × Obj)) : Prop where
  sub : ∀ p ∈ fr, p.1 ∈ fs
  all : ∀ b o, h₀.get? b = some o → b ∈ fs → ∃ sl, (b, ({ o with slots := sl } : Obj)) ∈ fr
theorem unhide {A₀ : Around} {base h₀ h : Heap} {outer : List Env} {L : Addr} {m : Str → Option Value} {fr news : List (Addr × Obj)} (B : Below A₀ base outer h₀) (hL : h₀.get? L = none) (F : Fr (hideAll h₀ (outer.filterMap (·.frame))) L h m)
    (N : News (hideAll h₀ (outer.filterMap (·.frame))) L h (news ++ fr)) (T : FrT (outer.filterMap (·.frame)) h₀ fr) (hn : ∀ p ∈ news, h₀.get? p.1 = none) :
    ∃ g', KtsTurn (outer.filterMap (·.frame)) h₀ g' ∧ Fr g' L h m ∧ News g' L h news ∧ Below A₀ base outer g' := by
  obtain ⟨T', S⟩ := kts_turn_at (h := h) (fs := outer.filterMap (·.frame)) (g := h₀)
    (fun b hb => by
      obtain ⟨_, o, ho, _⟩ := B.frames.mem hb
      exact ⟨o, ho⟩)
    (fun b o e nm => F.keep b o (hideAll_get _ e nm))
    (fun b o e hm => by
      obtain ⟨sl, hs⟩ := T.all b o e hm
      exact ⟨sl, (N _ (List.mem_append_right _ hs)).1⟩)
  refine ⟨_, T', ⟨F.ns, S, by rw [T'.size]; have := F.above; rwa [hideAll_size] at this⟩, fun p hp => ?_, ⟨B.stack, fun b o e => T'.other b o (B.stays b o e) (fun hm => by
    rw [(B.frames.mem hm).1] at e
    cases e), B.frames.of_keeps fun b o e _ => ?_⟩⟩
  · obtain ⟨p1, p2, p3⟩ := N p (List.mem_append_left _ hp)
    exact ⟨p1, p2, T'.none_ _ (hn p hp)⟩
  · obtain ⟨sl, hs⟩ := T'.up e
    exact ⟨_, hs, rfl⟩
theorem rehide {A₀ : Around} {base h₀ g h : Heap} {outer : List Env} {L : Addr} {m : Str → Option Value} (B : Below A₀ base outer h₀) (hL : h₀.get? L = none) (T : KtsTurn (outer.filterMap (·.frame)) h₀ g) (F : Fr g L h m) :
    ∃ fr, FrT (outer.filterMap (·.frame)) h₀ fr ∧ Fr (hideAll h₀ (outer.filterMap (·.frame))) L h m ∧ ∀ news, News g L h news → News (hideAll h₀ (outer.filterMap (·.frame))) L h (news ++ fr) := by
  refine ⟨(outer.filterMap (·.frame)).filterMap fun b => (h.get? b).map fun o => (b, o), ⟨fun p hp => ?_, fun b o e hm => ?_⟩, ⟨F.ns, fun b o e => ?_, ?_⟩, fun news N p hp => ?_⟩
  · obtain ⟨b, hb, q⟩ := List.mem_filterMap.mp hp
    obtain ⟨o, _, rfl⟩ := Option.map_eq_some_iff.mp q
    exact hb
  · obtain ⟨sl, hs⟩ := T.frame b o e hm
    exact ⟨sl, List.mem_filterMap.mpr ⟨b, hm, by rw [F.keep _ _ hs]; rfl⟩⟩
  · refine F.keep _ _ (T.other b o (of_hideAll _ e) fun hm => ?_)
    rw [hideAll_none _ hm] at e
    cases e
  · rw [hideAll_size, ← T.size]
    exact F.above
  · have hsz : ∀ b, g.get? b = none → h₀.get? b = none := fun b e => by
      cases q : h₀.get? b with
      | none => rfl
      | some o =>
        obtain ⟨sl, hs⟩ := T.up q
        rw [e] at hs; cases hs
    rcases List.mem_append.mp hp with hp | hp
    · obtain ⟨p1, p2, p3⟩ := N p hp
      refine ⟨p1, p2, ?_⟩
      cases q : (hideAll h₀ (outer.filterMap (·.frame))).get? p.1 with
      | none => rfl
      | some o => have := of_hideAll _ q; rw [hsz _ p3] at this; cases this
    · obtain ⟨b, hb, q⟩ := List.mem_filterMap.mp hp
      obtain ⟨o, ho, rfl⟩ := Option.map_eq_some_iff.mp q
      refine ⟨ho, ?_, hideAll_none _ hb⟩
      rintro rfl
      obtain ⟨_, o', ho', _⟩ := B.frames.mem hb
      rw [hL] at ho'; cases ho'

section
variable {prog : Program} {w : World} {A : Around} {E : Value → Shared → Prop} {s : Shared} {env : Env} {h₀ : Heap} {body : List Stmt} {Q : Flow → Shared → Prop}
/-- where a turn of a loop ends -/
noncomputable def TurnEnd (h₀ : Heap) (L : Addr) (I : Addr) (oI : Obj) (Jn : (Str → Option Value) → List (Addr × Obj) → Prop) (s₁ : Shared) (Q : Flow → Shared → Prop) (f : Flow) (s₂ : Shared) : Prop :=
  match f with
  | .ret v => Q (.ret v) s₂
  | .brk => Q .next s₂
  | _ => ∃ h' tk m' news', s₂ = { s₁ with heap := h', toks := tk } ∧ Fr h₀ L h' m' ∧ News h₀ L h' ((I, oI) :: news') ∧ (∀ p ∈ news', p.1 ≠ I) ∧ Jn m' news'
theorem tu_of {y : Str} {py : Pos} {n : Nat} {P : Nat → Value → Prop} {St : Nat → Heap → Prop} {o : Obj} {m : Str → Option Value} {news : List (Addr × Obj)}
    (W : Walks prog w A s.heap.objs.size [s.heap.objs.size] [s.heap.objs.size] n P St) (hIo : ∀ i h, St i h → ∃ o, h.get? s.heap.objs.size = some o) (hst : St 0 (s.heap.push o))
    (F : Fr h₀ env.locals s.heap m) (N : News h₀ env.locals s.heap news) (J : Nat → (Str → Option Value) → List (Addr × Obj) → Prop) (h0 : J 0 m news)
    (step : ∀ i v m₁ news₁ h₁ tk₁ oI, i < n → P i v → J i m₁ news₁ → (∀ p ∈ news₁, p.1 ≠ s.heap.objs.size) → Fr h₀ env.locals h₁ m₁ → News h₀ env.locals h₁ ((s.heap.objs.size, oI) :: news₁) →
      wpAny (model prog w) A (assign (.Name y py) env v) (fun _ s₃ => wpAny (model prog w) A (execs body env) (TurnEnd h₀ env.locals s.heap.objs.size oI (J (i + 1)) { s with heap := h₁, toks := tk₁ } Q) E s₃) E { s with heap := h₁, toks := tk₁ })
    (done : ∀ h' tk m' news', Fr h₀ env.locals h' m' → News h₀ env.locals h' news' → J n m' news' → Q .next { s with heap := h', toks := tk }) :
    TurnsAt prog w A h₀ env (.Name y py) body Q E (.ref s.heap.objs.size) { s with heap := s.heap.push o } := by
  have up : ∀ b o', s.heap.get? b = some o' → (s.heap.push o).get? b = some o' := fun b o' e => Heap.get?_push_of_some _ e
  refine ⟨s.heap.objs.size, _, _, n, _, _, St, m, news, J, rfl, KTurns.ofWalks W (fun i v s Q E _ h => wpAny_of_eq (rfl : letOwnedTupleGo (.Name y py) (.ref _) v = pure ()) h), ?_, ?_, ?_, hst, F.keeps up, N.grown up, h0, ?_, ?_⟩
  · intro hm
    exact absurd F.ns.lt ((List.mem_singleton.mp hm) ▸ Nat.lt_irrefl _)
  · intro b hb
    rw [List.mem_singleton.mp hb]
    exact next_is_new F
  · intro p hp hI
    exact absurd (Heap.lt_size (N p hp).1) ((List.mem_singleton.mp hI) ▸ Nat.lt_irrefl _)
  · intro i v m₁ news₁ h₁ tk₁ own hi hP hJ hnw hsub hown hall hSt F₁ N₁
    obtain ⟨oI, hoI⟩ := hIo _ _ hSt
    have hne : ∀ p ∈ news₁, p.1 ≠ s.heap.objs.size := fun p hp e => hnw p hp (List.mem_singleton.mpr e)
    have hin := hall _ (List.mem_singleton.mpr rfl) (next_is_new F) _ hoI
    have hn0 : (s.heap.objs.size, oI) ∈ own ++ news₁ := List.mem_append_left _ hin
    have N₂ : News h₀ env.locals h₁ ((s.heap.objs.size, oI) :: news₁) := N₁.perm fun p hp => by
      rcases List.mem_cons.mp hp with rfl | hp
      · exact hn0
      · exact List.mem_append_right _ hp
    refine wpAny_mono (step i v m₁ news₁ h₁ tk₁ oI hi hP hJ hne F₁ N₂) (fun _ s₃ h => wpAny_mono h (fun f s₄ h => ?_) fun _ _ e => e) fun _ _ e => e
    have fin : (∃ h' tk m' news', s₄ = { s with heap := h', toks := tk } ∧ Fr h₀ env.locals h' m' ∧ News h₀ env.locals h' ((s.heap.objs.size, oI) :: news') ∧ (∀ p ∈ news', p.1 ≠ s.heap.objs.size) ∧ J (i + 1) m' news') →
        LoopStepU h₀ env.locals [s.heap.objs.size] own (J (i + 1)) { s with heap := h₁, toks := tk₁ } .next s₄ := by
      rintro ⟨h', tk, m', news', rfl, F', N', ne', hJ'⟩
      refine ⟨rfl, h', tk, m', news', rfl, F', fun p hp => ?_, fun p hp hm => ne' p hp (List.mem_singleton.mp hm), hJ'⟩
      rcases List.mem_append.mp hp with hp | hp
      · have e1 : p.1 = s.heap.objs.size := List.mem_singleton.mp (hsub p hp)
        have e2 := hown p hp
        rw [e1, hoI] at e2
        obtain rfl : p = (s.heap.objs.size, oI) := Prod.ext e1 (Option.some.inj e2).symm
        exact N' _ (.head _)
      · exact N' _ (.tail _ hp)
    cases f with
    | ret v => exact h
    | brk => exact h
    | next => exact fin h
    | cont => exact fin h
  · intro h' tk m' news' F' N' _ hJ
    exact done h' tk m' news' F' N' hJ
theorem for_range {y : Str} {py : Pos} {r : Addr} {a₀ b₀ : Int} {t₀ u₀ v₀ : Tok} {n : Nat} {m : Str → Option Value} {news : List (Addr × Obj)} (hh : A.handled = none)
    (hr : IsRange s.heap r a₀ b₀ 1 t₀ u₀ v₀) (hsmall : Builtin.Range.small a₀ b₀ 1 = true) (hn : Builtin.Range.rangeSize a₀ b₀ 1 = (n : Int)) (F : Fr h₀ env.locals s.heap m) (N : News h₀ env.locals s.heap news)
    (J : Nat → (Str → Option Value) → List (Addr × Obj) → Prop) (h0 : J 0 m news)
    (step : ∀ i t m₁ news₁ h₁ tk₁ oI, i < n → J i m₁ news₁ → (∀ p ∈ news₁, p.1 ≠ s.heap.objs.size) → Fr h₀ env.locals h₁ m₁ → News h₀ env.locals h₁ ((s.heap.objs.size, oI) :: news₁) →
      wpAny (model prog w) A (assign (.Name y py) env (.int (a₀ + (i : Int)) t)) (fun _ s₃ => wpAny (model prog w) A (execs body env) (TurnEnd h₀ env.locals s.heap.objs.size oI (J (i + 1)) { s with heap := h₁, toks := tk₁ } Q) E s₃) E { s with heap := h₁, toks := tk₁ })
    (done : ∀ h' tk m' news', Fr h₀ env.locals h' m' → News h₀ env.locals h' news' → J n m' news' → Q .next { s with heap := h', toks := tk }) :
    wpAny (model prog w) A (pyIter (.ref r)) (fun it s₂ => TurnsAt prog w A h₀ env (.Name y py) body Q E it s₂) E s := by
  refine wpAny_pyIter_range hr hsmall ?_
  refine tu_of (LCg.range_walks hh a₀ n) (fun i h st => ⟨_, st⟩) (by show IsRangeIter _ _ _ _ _; rw [hn]; simpa using Heap.get?_push_size _ rfl) F N J h0 ?_ done
  rintro i v m₁ news₁ h₁ tk₁ oI hi ⟨t, rfl⟩ hJ hne F₁ N₁
  exact step i t m₁ news₁ h₁ tk₁ oI hi hJ hne F₁ N₁
theorem for_text {y : Str} {py : Pos} {cs : List Int} {t : Tok} {m : Str → Option Value} {news : List (Addr × Obj)} (hh : A.handled = none) (F : Fr h₀ env.locals s.heap m) (N : News h₀ env.locals s.heap news)
    (J : Nat → (Str → Option Value) → List (Addr × Obj) → Prop) (h0 : J 0 m news)
    (step : ∀ i t m₁ news₁ h₁ tk₁ oI, i < cs.length → J i m₁ news₁ → (∀ p ∈ news₁, p.1 ≠ s.heap.objs.size) → Fr h₀ env.locals h₁ m₁ → News h₀ env.locals h₁ ((s.heap.objs.size, oI) :: news₁) →
      wpAny (model prog w) A (assign (.Name y py) env (.str (one (cs.getD i 0)) t)) (fun _ s₃ => wpAny (model prog w) A (execs body env) (TurnEnd h₀ env.locals s.heap.objs.size oI (J (i + 1)) { s with heap := h₁, toks := tk₁ } Q) E s₃) E { s with heap := h₁, toks := tk₁ })
    (done : ∀ h' tk m' news', Fr h₀ env.locals h' m' → News h₀ env.locals h' news' → J cs.length m' news' → Q .next { s with heap := h', toks := tk }) :
    wpAny (model prog w) A (pyIter (.str (textOf cs) t)) (fun it s₂ => TurnsAt prog w A h₀ env (.Name y py) body Q E it s₂) E s := by
  have step' : ∀ i v m₁ news₁ h₁ tk₁ oI, i < (textOf cs).cps.size → SignAt (textOf cs) i v → J i m₁ news₁ → (∀ p ∈ news₁, p.1 ≠ s.heap.objs.size) → Fr h₀ env.locals h₁ m₁ → News h₀ env.locals h₁ ((s.heap.objs.size, oI) :: news₁) →
      wpAny (model prog w) A (assign (.Name y py) env v) (fun _ s₃ => wpAny (model prog w) A (execs body env) (TurnEnd h₀ env.locals s.heap.objs.size oI (J (i + 1)) { s with heap := h₁, toks := tk₁ } Q) E s₃) E { s with heap := h₁, toks := tk₁ } := by
    intro i v m₁ news₁ h₁ tk₁ oI hi hv hJ hne F₁ N₁
    obtain ⟨hi', u, rfl⟩ := sign_text hv
    exact step i u m₁ news₁ h₁ tk₁ oI hi' hJ hne F₁ N₁
  have done' : ∀ h' tk m' news', Fr h₀ env.locals h' m' → News h₀ env.locals h' news' → J (textOf cs).cps.size m' news' → Q .next { s with heap := h', toks := tk } := by
    intro h' tk m' news' F' N' hJ
    rw [textOf_size] at hJ
    exact done h' tk m' news' F' N' hJ
  cases ha : (textOf cs).cps.all (· < 128)
  · exact wpAny_pyIter_wide ha (tu_of (Walks.strWide hh _ _ t) (fun i h st => let ⟨o, e, _⟩ := st; ⟨o, e⟩) ⟨_, Heap.get?_push_size _ rfl, rfl, rfl⟩ F N J h0 step' done')
  · exact wpAny_pyIter_ascii ha (tu_of (Walks.strAscii hh _ _ t) (fun i h st => let ⟨o, e, _⟩ := st; ⟨o, e⟩) ⟨_, Heap.get?_push_size _ rfl, rfl, rfl⟩ F N J h0 step' done')
end
/-- a call by a contract that turns the ground -/
theorem pcs_use {w : World} {d : Nat} {f : Addr} {vs : List Value} {R : Heap → Heap → Value → Prop} {mean : ExcName → Option Value} {mg mb : Str → Option Value} {dp un : Nat} {gd : Option (List Code)} {cn : Str} {cs : Scope} {a : Addr} {ccd : Value} {cl : List (Str × Addr)} {outer : List Env} {A₀ : Around} {base h₀ g : Heap} {L : Addr} {m : Str → Option Value} {news : List (Addr × Obj)} {s : Shared} {Q E : Value → Shared → Prop}
    (C : PCS w d f vs R) (T₀ : KtsTurn (outer.filterMap (·.frame)) h₀ g) (B : Below A₀ base outer g) (F : Fr g L s.heap m) (X : (hd.heap_39 w.params).In base) (T : Top hd.view_39 LOOSE mean mg mb base) (hk : cs.kind = .function) (N : News g L s.heap news)
    (hdp : dp + d < recursionLimit) (hun : un + 40 * d < cLine)
    (h : ∀ v g' h' tk, KtsTurn (outer.filterMap (·.frame)) h₀ g' → Below A₀ base outer g' → (hd.heap_39 w.params).In g' → Top hd.view_39 LOOSE mean mg mb g' → Fr g' L h' m → News g' L h' news → R s.heap h' v → Q v { s with heap := h', toks := tk }) :
    wpAny (model PySem.Challenge.rw_nz0281_01.row.toRowW.prog w) (ktrTop dp un gd cn cs L a ccd cl outer) (call (.ref f) vs) Q E s :=
  C mean mg mb dp un gd cn cs a ccd cl outer A₀ base g L m s Q E B F X T hk hdp hun fun v h' tk U r => by
    obtain ⟨g', T', F', N', B'⟩ := upf_ground B F N U
    exact h v g' h' tk (T₀.trans T') B' (X.keeps B'.stays) (T.keeps B'.stays) F' N' r
section
variable {prog : Program} {w : World} {A : Around} {E : Value → Shared → Prop} {s : Shared} {env : Env} {h₀ : Heap} {body : List Stmt} {Q : Flow → Shared → Prop}
theorem kstB_self {ps : List (Str × Value)} {m : Str → Option Value} (h : ∀ p ∈ ps, m p.1 = some p.2) : kstB m ps = m := funext fun z => kstB_eq h fun _ => rfl
/-- a loop over a text's signs with a state -/
theorem for_textS {σ : Type} {y : Str} {py : Pos} {cs : List Int} {t : Tok} {m₀ : Str → Option Value} (Led : σ → List (Addr × Obj)) (ps : σ → List (Str × Value)) (Facts : Nat → σ → Prop) (c₀ : σ) (hh : A.handled = none) (F : Fr h₀ env.locals s.heap m₀) (N : News h₀ env.locals s.heap (Led c₀)) (hk : ∀ p ∈ ps c₀, m₀ p.1 = some p.2) (hf : Facts 0 c₀)
    (step : ∀ i t c u h₁ tk₁ I oI, i < cs.length → Facts i c → (∀ p ∈ Led c, p.1 ≠ I) → Fr h₀ env.locals h₁ (kstB u (ps c)) → News h₀ env.locals h₁ ((I, oI) :: Led c) →
      wpAny (model prog w) A (assign (.Name y py) env (.str (one (cs.getD i 0)) t)) (fun _ s₃ => wpAny (model prog w) A (execs body env) (TurnEnd h₀ env.locals I oI (fun m nw => ∃ c, nw = Led c ∧ (∀ p ∈ ps c, m p.1 = some p.2) ∧ Facts (i + 1) c) { s with heap := h₁, toks := tk₁ } Q) E s₃) E { s with heap := h₁, toks := tk₁ })
    (done : ∀ c u h' tk, Facts cs.length c → Fr h₀ env.locals h' (kstB u (ps c)) → News h₀ env.locals h' (Led c) → Q .next { s with heap := h', toks := tk }) :
    wpAny (model prog w) A (pyIter (.str (textOf cs) t)) (fun it s₂ => TurnsAt prog w A h₀ env (.Name y py) body Q E it s₂) E s := by
  refine for_text hh F N (fun i m nw => ∃ c, nw = Led c ∧ (∀ p ∈ ps c, m p.1 = some p.2) ∧ Facts i c) ⟨c₀, rfl, hk, hf⟩ ?_ ?_
  · rintro i t m₁ nw h₁ tk₁ oI hi ⟨c, rfl, hk', hf'⟩ hne F₁ N₁
    exact step i t c m₁ h₁ tk₁ _ oI hi hf' hne (by rw [kstB_self hk']; exact F₁) N₁
  · rintro h' tk m' nw F' N' ⟨c, rfl, hk', hf'⟩
    exact done c m' h' tk hf' (by rw [kstB_self hk']; exact F') N'
theorem TurnEnd.intro {σ : Type} {Led : σ → List (Addr × Obj)} {ps : σ → List (Str × Value)} {Facts : σ → Prop} {L I : Addr} {oI : Obj} {s₁ : Shared} {h' : Heap} {tk : Nat} {m' : Str → Option Value} {news' : List (Addr × Obj)} (c c₁ : σ) (F : Fr h₀ L h' m') (N : News h₀ L h' news') (hI : (I, oI) ∈ news') (hs : ∀ p ∈ Led c, p ∈ news') (ha : (Led c).map (·.1) = (Led c₁).map (·.1)) (ne : ∀ p ∈ Led c₁, p.1 ≠ I)
    (hk : ∀ p ∈ ps c, m' p.1 = some p.2) (hf : Facts c) : TurnEnd h₀ L I oI (fun m nw => ∃ c, nw = Led c ∧ (∀ p ∈ ps c, m p.1 = some p.2) ∧ Facts c) s₁ Q .next { s₁ with heap := h', toks := tk } := by
  refine ⟨h', tk, m', _, rfl, F, fun p hp => N p ?_, fun p hp e => ?_, c, rfl, hk, hf⟩
  · rcases List.mem_cons.mp hp with rfl | hp
    · exact hI
    · exact hs p hp
  · have : p.1 ∈ (Led c).map (·.1) := List.mem_map_of_mem hp
    rw [ha] at this
    obtain ⟨q, hq, e'⟩ := List.mem_map.mp this
    exact ne q hq (e'.trans e)
/-- where a turn ends whose ground may have turned -/
noncomputable def TurnEndH {σ : Type} (fs : List Addr) (h₀ : Heap) (L I : Addr) (oI : Obj) (Led : σ → List (Addr × Obj)) (ps : σ → List (Str × Value)) (Facts : σ → Prop) (s₁ : Shared) (Q : Flow → Shared → Prop) (f : Flow) (s₂ : Shared) : Prop :=
  match f with
  | .ret v => Q (.ret v) s₂
  | .brk => Q .next s₂
  | _ => ∃ g' h' tk m' c, s₂ = { s₁ with heap := h', toks := tk } ∧ KtsTurn fs h₀ g' ∧ Fr g' L h' m' ∧ News g' L h' ((I, oI) :: Led c) ∧ (∀ p ∈ Led c, p.1 ≠ I) ∧ (∀ p ∈ ps c, m' p.1 = some p.2) ∧ Facts c
theorem TurnEndH.intro {σ : Type} {fs : List Addr} {g' : Heap} {Led : σ → List (Addr × Obj)} {ps : σ → List (Str × Value)} {Facts : σ → Prop} {L I : Addr} {oI : Obj} {s₁ : Shared} {h' : Heap} {tk : Nat} {m' : Str → Option Value} {news' : List (Addr × Obj)} (c c₁ : σ) (T : KtsTurn fs h₀ g') (F : Fr g' L h' m') (N : News g' L h' news') (hI : (I, oI) ∈ news') (hs : ∀ p ∈ Led c, p ∈ news') (ha : (Led c).map (·.1) = (Led c₁).map (·.1)) (ne : ∀ p ∈ Led c₁, p.1 ≠ I)
    (hk : ∀ p ∈ ps c, m' p.1 = some p.2) (hf : Facts c) : ∃ g' h'' tk' m' c, ({ s₁ with heap := h', toks := tk } : Shared) = { s₁ with heap := h'', toks := tk' } ∧ KtsTurn fs h₀ g' ∧ Fr g' L h'' m' ∧ News g' L h'' ((I, oI) :: Led c) ∧ (∀ p ∈ Led c, p.1 ≠ I) ∧ (∀ p ∈ ps c, m' p.1 = some p.2) ∧ Facts c := by
  refine ⟨g', h', tk, m', c, rfl, T, F, fun p hp => N p ?_, fun p hp e => ?_, hk, hf⟩
  · rcases List.mem_cons.mp hp with rfl | hp
    · exact hI
    · exact hs p hp
  · have : p.1 ∈ (Led c).map (·.1) := List.mem_map_of_mem hp
    rw [ha] at this
    obtain ⟨q, hq, e'⟩ := List.mem_map.mp this
    exact ne q hq (e'.trans e)
end
section
variable {prog : Program} {w : World} {A₀ A : Around} {E : Value → Shared → Prop} {s : Shared} {env : Env} {h₀ base : Heap} {outer : List Env} {body : List Stmt} {Q : Flow → Shared → Prop}
theorem fr_hide {L : Addr} {h : Heap} {m : Str → Option Value} (F : Fr h₀ L h m) (fs : List Addr) : Fr (hideAll h₀ fs) L h m := ⟨F.ns, fun b o e => F.keep b o (of_hideAll _ e), by rw [hideAll_size]; exact F.above⟩
/-- a loop over a range in whose turns the ground may turn -/
theorem for_rangeH {σ : Type} {y : Str} {py : Pos} {r : Addr} {a₀ b₀ : Int} {t₀ u₀ v₀ : Tok} {n : Nat} {m₀ : Str → Option Value} {p : Program} {loose : List Str} {mean : ExcName → Option Value} {mg mb : Str → Option Value} {K : Frag} (Led : σ → List (Addr × Obj)) (ps : σ → List (Str × Value)) (Facts : Nat → σ → Prop) (c₀ : σ) (hh : A.handled = none)
    (hr : IsRange s.heap r a₀ b₀ 1 t₀ u₀ v₀) (hsmall : Builtin.Range.small a₀ b₀ 1 = true) (hn : Builtin.Range.rangeSize a₀ b₀ 1 = (n : Int)) (B : Below A₀ base outer h₀) (X : K.In base) (T : Top p loose mean mg mb base) (F : Fr h₀ env.locals s.heap m₀) (N : News h₀ env.locals s.heap (Led c₀)) (hk : ∀ p ∈ ps c₀, m₀ p.1 = some p.2) (hf : Facts 0 c₀)
    (step : ∀ i t c u g h₁ tk₁ I oI, i < n → Facts i c → (∀ p ∈ Led c, p.1 ≠ I) → KtsTurn (outer.filterMap (·.frame)) h₀ g → Below A₀ base outer g → K.In g → Top p loose mean mg mb g → Fr g env.locals h₁ (kstB u (ps c)) → News g env.locals h₁ ((I, oI) :: Led c) →
      wpAny (model prog w) A (assign (.Name y py) env (.int (a₀ + (i : Int)) t)) (fun _ s₃ => wpAny (model prog w) A (execs body env) (TurnEndH (outer.filterMap (·.frame)) h₀ env.locals I oI Led ps (Facts (i + 1)) { s with heap := h₁, toks := tk₁ } Q) E s₃) E { s with heap := h₁, toks := tk₁ })
    (done : ∀ c u g h' tk, Facts n c → KtsTurn (outer.filterMap (·.frame)) h₀ g → Fr g env.locals h' (kstB u (ps c)) → News g env.locals h' (Led c) → Q .next { s with heap := h', toks := tk }) :
    wpAny (model prog w) A (pyIter (.ref r)) (fun it s₂ => TurnsAt prog w A (hideAll h₀ (outer.filterMap (·.frame))) env (.Name y py) body Q E it s₂) E s := by
  have hL : h₀.get? env.locals = none := kts_self F
  obtain ⟨fr₀, T₀, F₀, N₀⟩ := rehide B hL KtsTurn.refl F
  have nn : ∀ {g h : Heap} {news : List (Addr × Obj)}, KtsTurn (outer.filterMap (·.frame)) h₀ g → News g env.locals h news → ∀ p ∈ news, h₀.get? p.1 = none := fun {g h news} T' N' p hp => by
    cases q : h₀.get? p.1 with
    | none => rfl
    | some o =>
      obtain ⟨sl, hs⟩ := T'.up q
      rw [(N' p hp).2.2] at hs; cases hs
  refine for_range (h₀ := hideAll h₀ (outer.filterMap (·.frame))) hh hr hsmall hn F₀ (N₀ _ N) (fun i m nw => ∃ c fr, nw = Led c ++ fr ∧ FrT (outer.filterMap (·.frame)) h₀ fr ∧ (∀ p ∈ Led c, h₀.get? p.1 = none) ∧ (∀ p ∈ ps c, m p.1 = some p.2) ∧ Facts i c) ⟨c₀, fr₀, rfl, T₀, nn KtsTurn.refl N, hk, hf⟩ ?_ ?_
  · rintro i t m₁ nw h₁ tk₁ oI hi ⟨c, fr, rfl, T₁, hn₁, hk₁, hf₁⟩ hne F₁ N₁
    have hI₀ : h₀.get? s.heap.objs.size = none := next_is_new F
    obtain ⟨g, Tg, Fg, Ng, Bg⟩ := unhide (news := (s.heap.objs.size, oI) :: Led c) B hL F₁ N₁ T₁ (fun p hp => by
      rcases List.mem_cons.mp hp with rfl | hp
      · exact hI₀
      · exact hn₁ p hp)
    refine wpAny_mono (step i t c m₁ g h₁ tk₁ _ oI hi hf₁ (fun p hp => hne p (List.mem_append_left _ hp)) Tg Bg (X.keeps Bg.stays) (T.keeps Bg.stays) (by rw [kstB_self hk₁]; exact Fg) Ng) (fun _ s₃ h => wpAny_mono h (fun f s₄ h => ?_) fun _ _ e => e) fun _ _ e => e
    have fin : (∃ g' h' tk m' c, s₄ = { s with heap := h', toks := tk } ∧ KtsTurn (outer.filterMap (·.frame)) h₀ g' ∧ Fr g' env.locals h' m' ∧ News g' env.locals h' ((s.heap.objs.size, oI) :: Led c) ∧ (∀ p ∈ Led c, p.1 ≠ s.heap.objs.size) ∧ (∀ p ∈ ps c, m' p.1 = some p.2) ∧ Facts (i + 1) c) →
        ∃ h' tk m' news', s₄ = { s with heap := h', toks := tk } ∧ Fr (hideAll h₀ (outer.filterMap (·.frame))) env.locals h' m' ∧ News (hideAll h₀ (outer.filterMap (·.frame))) env.locals h' ((s.heap.objs.size, oI) :: news') ∧ (∀ p ∈ news', p.1 ≠ s.heap.objs.size) ∧
          ∃ c fr, news' = Led c ++ fr ∧ FrT (outer.filterMap (·.frame)) h₀ fr ∧ (∀ p ∈ Led c, h₀.get? p.1 = none) ∧ (∀ p ∈ ps c, m' p.1 = some p.2) ∧ Facts (i + 1) c := by
      rintro ⟨g', h', tk, m', c', rfl, T', F', N', ne', hk', hf'⟩
      obtain ⟨fr', Tf, Ff, Nf⟩ := rehide B hL T' F'
      refine ⟨h', tk, m', Led c' ++ fr', rfl, Ff, Nf _ N', fun p hp => ?_, c', fr', rfl, Tf, fun p hp => nn T' N' p (.tail _ hp), hk', hf'⟩
      rcases List.mem_append.mp hp with hp | hp
      · exact ne' p hp
      · intro e
        obtain ⟨_, o, ho, _⟩ := B.frames.mem (Tf.sub p hp)
        rw [e, hI₀] at ho; cases ho
    cases f with
    | ret v => exact h
    | brk => exact h
    | next => exact fin h
    | cont => exact fin h
  · rintro h' tk m' nw F' N' ⟨c, fr, rfl, T', hn', hk', hf'⟩
    obtain ⟨g, Tg, Fg, Ng, Bg⟩ := unhide B hL F' N' T' hn'
    exact done c m' g h' tk hf' Tg (by rw [kstB_self hk']; exact Fg) Ng
end


section
variable {prog : Program} {w : World} {A : Around} {s₁ : Shared} {h₀ : Heap} {L : Addr} {m : Str → Option Value} {env : Env}
/-- a comprehension over a list of ints, with one test, that keeps the item -/
theorem ints_srcT {ct elt : Expr} {x : Str} {scope : Scope} {cl : List (Str × Addr)} {Fin : Shared → List Value → List (Addr × Obj) → Prop} {ax : Addr} {its : List Value} {ns : List Int} {k : Nat} {news : List (Addr × Obj)} (keep : Int → Bool)
    (F : Fr h₀ L s₁.heap m) (N : News h₀ L s₁.heap news) (hh : A.handled = none) (hm : (ax, W.listOf its.toArray k) ∈ news) (hi : IntsAre its ns) (hsz : ns.length < 1000)
    (turn : ∀ (i : Nat) u I oI C oC D m₂ ys h tk (E' : Value → Shared → Prop), i < ns.length → LCg.NsObj oC m₂ → m₂ x = some (.int (ns.getD i 0) u) → Fr h₀ L h m → News h₀ L h ((I, oI) :: (C, oC) :: (D, LCg.lst ys) :: news) → LCg.Off3 I C D news → ((@Ne Nat I C) ∧ (@Ne Nat I D) ∧ (@Ne Nat C D)) →
      wpAny (model prog w) A (isTrue ct (compEnvC scope cl C env) (eval ct (compEnvC scope cl C env))) (fun ok s' => if ok = true then
        wpAny (model prog w) A (eval elt (compEnvC scope cl C env)) (LCg.CompEnd h₀ L m { s₁ with heap := h, toks := tk } I oI C oC D (LCg.lst ys) (fun nw => (ax, W.listOf its.toArray k) ∈ nw) (fun y news' => news' = news ∧ keep (ns.getD i 0) = true ∧ ∃ u, y = .int (ns.getD i 0) u)) E' s'
        else LCg.CompEnd h₀ L m { s₁ with heap := h, toks := tk } I oI C oC D (LCg.lst ys) (fun nw => (ax, W.listOf its.toArray k) ∈ nw) (fun _ news' => news' = news ∧ keep (ns.getD i 0) = false) Value.none s') E' { s₁ with heap := h, toks := tk })
    (fin : ∀ (g : Heap) ys, IntsAre ys (ns.filter keep) → Fin { s₁ with heap := g } ys news) : CSrcT prog w A h₀ L m env ct elt x scope cl Fin (.ref ax) s₁ := by
  refine ⟨_, _, _, news, F, N, hm, ?_, SrcG.list hh N hm, fun g => crT_ind (fun i ys nw => nw = news ∧ IntsAre ys ((ns.take i).filter keep)) ⟨rfl, .nil⟩ ?_ ?_⟩
  · rw [hi.length, sizeLine_eq]; omega
  · rintro i v I oI C oC D m₂ ys nw h tk E' hlt hv ⟨rfl, hJ⟩ hC hx F N off ne
    have hi' : i < ns.length := hi.length ▸ hlt
    obtain ⟨u, hu⟩ := hi.get i _ (by rw [List.getElem?_eq_getElem hi'])
    have ev : v = .int (ns.getD i 0) u := by
      have hv' : its.toArray[i]? = some v := hv
      rw [List.getElem?_toArray, hu] at hv'
      rw [List.getD_eq_getElem?_getD, List.getElem?_eq_getElem hi']
      exact (Option.some.inj hv').symm
    subst ev
    have et : ns.take (i + 1) = ns.take i ++ [ns.getD i 0] := by
      rw [List.take_add_one, List.getD_eq_getElem?_getD, List.getElem?_eq_getElem hi']; rfl
    refine wpAny_mono (turn i u I oI C oC D m₂ ys h tk E' hi' hC hx F N off ne) (fun ok s₂ hq => ?_) fun _ _ e => e
    cases ok with
    | true =>
      simp only [if_true] at hq ⊢
      refine wpAny_mono hq (fun y s₃ hq => ?_) fun _ _ e => e
      obtain ⟨h', tk', nw', e, F', N', off', hS, rfl, hk, u', rfl⟩ := hq
      refine ⟨h', tk', _, e, F', N', off', hS, rfl, ?_⟩
      rw [et, List.filter_append, List.filter_cons, if_pos hk]
      exact ints_app hJ (.cons _ _ .nil)
    | false =>
      simp only [Bool.false_eq_true, if_false] at hq ⊢
      obtain ⟨h', tk', nw', e, F', N', off', hS, rfl, hk⟩ := hq
      refine ⟨h', tk', _, e, F', N', off', hS, rfl, ?_⟩
      rw [et, List.filter_append, List.filter_cons, if_neg (by rw [hk]; decide)]
      simpa using hJ
  · rintro ys nw ⟨rfl, hJ⟩
    rw [hi.length, List.take_length] at hJ
    exact fin g ys hJ
end
theorem textOf_list (cs : List Int) : (textOf cs).cps.toList = cs.map Int.toNat := rfl
theorem text_upto (cs : List Int) {k : Nat} (hk : k ≤ cs.length) : Txt.slice (textOf cs) none (some (k : Int)) = textOf (cs.take k) := by
  have h := PySem.StrLaws.sliceText_to (x := textOf cs) (j := (k : Int)) ⟨by omega, by rw [textOf_list, List.length_map]; omega⟩
  refine Eq.trans (show _ = PySem.StrLaws.sliceText (textOf cs) none (some (k : Int)) from rfl) (h.trans ?_)
  rw [textOf_list, List.drop_zero, ← List.map_take, show ((k : Int) - 0).toNat = k by omega]
  rfl
theorem text_since (cs : List Int) {k : Nat} (hk : k ≤ cs.length) : Txt.slice (textOf cs) (some (k : Int)) none = textOf (cs.drop k) := by
  have h := PySem.StrLaws.sliceText_from (x := textOf cs) (i := (k : Int)) ⟨by omega, by rw [textOf_list, List.length_map]; omega⟩
  refine Eq.trans (show _ = PySem.StrLaws.sliceText (textOf cs) (some (k : Int)) none from rfl) (h.trans ?_)
  rw [textOf_list, ← List.map_drop]
  refine congrArg PySem.Str.mk (congrArg List.toArray ?_)
  rw [List.take_of_length_le (by rw [List.length_map, List.length_map, List.length_drop]; omega)]
  rfl
theorem bInts_list (l : List UInt8) : KBw.bInts l.toArray = l.map fun c => (c.toNat : Int) := rfl
theorem bInts_back {b : Array UInt8} {l : List UInt8} (h : KBw.bInts b = l.map fun c => (c.toNat : Int)) : b = l.toArray := by
  have e : b.toList = l := by
    refine (List.map_inj_right (f := fun c : UInt8 => (c.toNat : Int)) ?_).mp h
    intro x y e
    have e' : (x.toNat : Int) = (y.toNat : Int) := e
    exact UInt8.toNat_inj.mp (by omega)
  rw [← e]
section
variable {prog : Program} {w : World} {A : Around} {E : Value → Shared → Prop} {s : Shared} {value slice : Expr} {h₀ : Heap} {L : Addr} {m : Str → Option Value} {news : List (Addr × Obj)} {Q : Value → Shared → Prop} {t u : Tok} {k : Nat} {n : Int}
theorem bytes_upto {l : List UInt8} (hF : Fr h₀ L s.heap m) (hN : News h₀ L s.heap news) (hsz : l.length < 1000) (hn : n = (k : Int)) (h : ∀ h' t' j, Fr h₀ L h' m → News h₀ L h' news → Q (.bytes (l.take k).toArray t') { s with heap := h', toks := j })
    (hs : subscripted slice false (.bytes l.toArray t) (.ref s.heap.objs.size) = operate [.ref s.heap.objs.size, .bytes l.toArray t] (getItem (.bytes l.toArray t) (.ref s.heap.objs.size)) := by with_unfolding_all rfl)
    (ht : ∀ r, letTemporaryGo value (.bytes l.toArray t) r = pure () := by intro _; with_unfolding_all rfl) :
    wpAny (model prog w) A (subscriptTail value slice (.bytes l.toArray t) (.ref s.heap.objs.size)) Q E { s with heap := s.heap.push { cls := .type "slice", data := .fields #[.none, .int n u, .none] } } := by
  subst hn
  refine KBc.slice_K hF hN rfl .none (.int _ _) (by rw [bInts_list, List.length_map]; omega) (fun h' t' j F' N' e => ?_) hs ht
  have e2 : KBy.picked l.toArray none (some (k : Int)) = (l.take k).toArray := by
    refine bInts_back (e.trans ?_)
    simp only [Option.elim, clipAt_nat, List.drop_zero, Nat.sub_zero, bInts_list, List.length_map, ← List.map_take]
    rw [List.take_eq_take_min]
    simp
  rw [e2]
  exact h h' t' j F' N'
theorem bytes_since {l : List UInt8} (hF : Fr h₀ L s.heap m) (hN : News h₀ L s.heap news) (hsz : l.length < 1000) (hn : n = (k : Int)) (hk : k ≤ l.length) (h : ∀ h' t' j, Fr h₀ L h' m → News h₀ L h' news → Q (.bytes (l.drop k).toArray t') { s with heap := h', toks := j })
    (hs : subscripted slice false (.bytes l.toArray t) (.ref s.heap.objs.size) = operate [.ref s.heap.objs.size, .bytes l.toArray t] (getItem (.bytes l.toArray t) (.ref s.heap.objs.size)) := by with_unfolding_all rfl)
    (ht : ∀ r, letTemporaryGo value (.bytes l.toArray t) r = pure () := by intro _; with_unfolding_all rfl) :
    wpAny (model prog w) A (subscriptTail value slice (.bytes l.toArray t) (.ref s.heap.objs.size)) Q E { s with heap := s.heap.push { cls := .type "slice", data := .fields #[.int n u, .none, .none] } } := by
  subst hn
  refine KBc.slice_K hF hN rfl (.int _ _) .none (by rw [bInts_list, List.length_map]; omega) (fun h' t' j F' N' e => ?_) hs ht
  have e2 : KBy.picked l.toArray (some (k : Int)) none = (l.drop k).toArray := by
    refine bInts_back (e.trans ?_)
    simp only [Option.elim, clipAt_nat, bInts_list, List.length_map]
    rw [Nat.min_eq_left hk, List.take_of_length_le (by rw [List.length_drop, List.length_map]; omega), List.map_drop]
  rw [e2]
  exact h h' t' j F' N'
theorem text_to_N {cs : List Int} (hF : Fr h₀ L s.heap m) (hN : News h₀ L s.heap news) (hsz : cs.length < 1000) (hn : n = (k : Int)) (hk : k ≤ cs.length) (h : ∀ h' t' j, Fr h₀ L h' m → News h₀ L h' news → Q (.str (textOf (cs.take k)) t') { s with heap := h', toks := j })
    (hs : subscripted slice false (.str (textOf cs) t) (.ref s.heap.objs.size) = operate [.ref s.heap.objs.size, .str (textOf cs) t] (getItem (.str (textOf cs) t) (.ref s.heap.objs.size)) := by with_unfolding_all rfl)
    (ht : ∀ r, letTemporaryGo value (.str (textOf cs) t) r = pure () := by intro _; with_unfolding_all rfl) :
    wpAny (model prog w) A (subscriptTail value slice (.str (textOf cs) t) (.ref s.heap.objs.size)) Q E { s with heap := s.heap.push { cls := .type "slice", data := .fields #[.none, .int n u, .none] } } := by
  subst hn
  exact slice_strN_ns hF hN (fun h' t' j F' N' => by rw [text_upto cs hk]; exact h h' t' j F' N') hs ht (by rw [textOf_length, sizeLine_eq]; omega)
theorem text_from_N {cs : List Int} (hF : Fr h₀ L s.heap m) (hN : News h₀ L s.heap news) (hsz : cs.length < 1000) (hn : n = (k : Int)) (hk : k ≤ cs.length) (h : ∀ h' t' j, Fr h₀ L h' m → News h₀ L h' news → Q (.str (textOf (cs.drop k)) t') { s with heap := h', toks := j })
    (hs : subscripted slice false (.str (textOf cs) t) (.ref s.heap.objs.size) = operate [.ref s.heap.objs.size, .str (textOf cs) t] (getItem (.str (textOf cs) t) (.ref s.heap.objs.size)) := by with_unfolding_all rfl)
    (ht : ∀ r, letTemporaryGo value (.str (textOf cs) t) r = pure () := by intro _; with_unfolding_all rfl) :
    wpAny (model prog w) A (subscriptTail value slice (.str (textOf cs) t) (.ref s.heap.objs.size)) Q E { s with heap := s.heap.push { cls := .type "slice", data := .fields #[.int n u, .none, .none] } } := by
  subst hn
  exact slice_strN_sn hF hN (fun h' t' j F' N' => by rw [text_since cs hk]; exact h h' t' j F' N') hs ht (by rw [textOf_length, sizeLine_eq]; omega)
end
theorem mul_text (c : Int) {n : Int} : Txt.mul (one c) n = textOf (List.replicate n.toNat c) := by
  refine PySem.Str.ext' ?_
  refine Array.toList_inj.mp ?_
  show (Txt.mul (⟨#[c.toNat]⟩ : PySem.Str) n).cps.toList = ((List.replicate n.toNat c).map Int.toNat)
  rw [mul_one_list, List.map_replicate]
theorem add_textOf (a b : List Int) : textOf a ++ textOf b = textOf (a ++ b) := by
  refine PySem.Str.ext' ?_
  show (a.map Int.toNat).toArray ++ (b.map Int.toNat).toArray = ((a ++ b).map Int.toNat).toArray
  simp
section
variable {prog : Program} {w : World} {A : Around} {E : Value → Shared → Prop} {s : Shared} {value slice : Expr} {h₀ : Heap} {L : Addr} {m : Str → Option Value} {news : List (Addr × Obj)} {Q : Value → Shared → Prop} {t u : Tok} {k : Nat} {n : Int}
theorem ne_same {x y : Str} (e : x = y) (h : Q (.bool false) s) : wpAny (model prog w) A (compareOp .NotEq (.str x t) (.str y u)) Q E s := by
  subst e
  refine ne_str ?_
  rw [bne_self_eq_false]
  exact h
theorem add_text {x y : Str} (a b : List Int) (ha : x = textOf a) (hb : y = textOf b) (hz : a.length < 1000) (hz' : b.length < 1000) (h : ∀ t j, Q (.str (textOf (a ++ b)) t) { s with toks := j }) : wpAny (model prog w) A (binaryOp .Add (.str x t) (.str y u)) Q E s := by
  subst ha hb
  exact SB.add (fun t' j => by rw [add_textOf]; exact h t' j) (by rw [textOf_length, textOf_length, sizeLine_eq]; omega)
theorem mul_sign {x : Str} (c : Int) (hx : x = one c) (h0 : 0 ≤ n) (h1 : n ≤ 1000) (h : ∀ t j, Q (.str (textOf (List.replicate n.toNat c)) t) { s with toks := j }) : wpAny (model prog w) A (binaryOp .Mult (.str x t) (.int n u)) Q E s := by
  subst hx
  exact SB.mul (mulOk_of 1 1000 (Nat.le_of_eq (one_length c)) (by omega) (by omega) (by decide) (by decide)) fun t' j => by rw [mul_text]; exact h t' j
theorem len_ints9 {D : Addr} {its : List Value} {ns : List Int} {c : Nat} (N : News h₀ L s.heap news) (hm : (D, W.listOf its.toArray c) ∈ news) (hi : IntsAre its ns) (hz : ns.length < 1000) (h : ∀ t j, Q (.int (ns.length : Nat) t) { s with toks := j }) : wpAny (model prog w) A (call (.builtin "len") [.ref D]) Q E s := by
  have e : its.toArray.size = ns.length := by rw [List.size_toArray, hi.length]
  refine PyProof.Rows.len_list (News.isList N hm) (by rw [e]; omega) ?_
  rw [e]
  exact h _ _
theorem ints_at9 {l : Addr} {vs : List Value} {ns : List Int} {k : Nat} (hl : s.heap.IsList l vs.toArray) (hi : IntsAre vs ns) (hn : n = (k : Int)) (hk : k < ns.length) (hz : ns.length < 1000) (h : ∀ t, Q (.int (ns.getD k 0) t) s)
    (hs : subscripted slice false (.ref l) (.int n u) = operate [.ref l, .int n u] (getItem (.ref l) (.int n u)) := by with_unfolding_all rfl) (hg : ∀ r, letTemporaryGo value (.ref l) r = pure () := by intro _; with_unfolding_all rfl) :
    wpAny (model prog w) A (subscriptTail value slice (.ref l) (.int n u)) Q E s := by
  subst hn
  obtain ⟨t', hx⟩ := hi.get k _ (by rw [List.getElem?_eq_getElem hk])
  refine item_list hl (by omega) (by omega) (x := .int (ns.getD k 0) t') ?_ (h t') hs hg
  rw [List.getElem?_toArray, show ((k : Int)).toNat = k by omega, hx, List.getD_eq_getElem?_getD, List.getElem?_eq_getElem hk]
  rfl
end


/-- where the signs begin -/
noncomputable def pre (cs : List Int) (k : Nat) : Int := ((cs.take k).map lawSize).sum
noncomputable def startsN (cs : List Int) (n : Nat) : List Int := (List.range (n + 1)).map (pre cs)
noncomputable def startsUp (cs : List Int) (cut : Nat) : List Int := (startsN cs cs.length).filter fun a => decide (a ≤ (cut : Int))
noncomputable abbrev aheadOf (l : List UInt8) (cut : Nat) : List UInt8 := l.take cut
noncomputable abbrev behindOf (l : List UInt8) (cut : Nat) : List UInt8 := l.drop cut
/-- what the law says of one cut, in plain terms -/
structure CutOK (cs : List Int) (l : List UInt8) (cut : Nat) : Prop where
  n1 : 1 ≤ (startsUp cs cut).length
  n2 : (startsUp cs cut).length ≤ cs.length + 1
  sharp : pre cs ((startsUp cs cut).length - 1) = cut → badFrom sU (aheadOf l cut) (aheadOf l cut).length 0 = -1 ∧ badFrom sU (behindOf l cut) (behindOf l cut).length 0 = -1 ∧
    signsFrom sU (aheadOf l cut) (aheadOf l cut).length 0 = cs.take ((startsUp cs cut).length - 1) ∧ signsFrom sU (behindOf l cut) (behindOf l cut).length 0 = cs.drop ((startsUp cs cut).length - 1)
  blunt : pre cs ((startsUp cs cut).length - 1) ≠ cut → (startsUp cs cut).length ≤ cs.length ∧ badFrom sU (aheadOf l cut) (aheadOf l cut).length 0 = pre cs ((startsUp cs cut).length - 1) ∧ badFrom sU (behindOf l cut) (behindOf l cut).length 0 = 0 ∧
    signsFrom sU (aheadOf l cut) (aheadOf l cut).length 0 = cs.take ((startsUp cs cut).length - 1) ++ [65533] ∧
    0 ≤ pre cs ((startsUp cs cut).length) - cut ∧ pre cs ((startsUp cs cut).length) - cut ≤ 4 ∧ signsFrom sU (behindOf l cut) (behindOf l cut).length 0 = List.replicate (pre cs ((startsUp cs cut).length) - cut).toNat 65533 ++ cs.drop ((startsUp cs cut).length)
theorem startsN_length (cs : List Int) (n : Nat) : (startsN cs n).length = n + 1 := by simp [startsN]
theorem startsN_getD (cs : List Int) {n k : Nat} (h : k ≤ n) : (startsN cs n).getD k 0 = pre cs k := by
  simp only [startsN, List.getD_eq_getElem?_getD, List.getElem?_map, List.getElem?_range (show k < n + 1 by omega), Option.map_some, Option.getD_some]
theorem pre_succ {cs : List Int} {i : Nat} (h : i < cs.length) : pre cs (i + 1) = pre cs i + lawSize (cs.getD i 0) := by
  have et : cs.take (i + 1) = cs.take i ++ [cs.getD i 0] := by
    rw [List.take_add_one, List.getD_eq_getElem?_getD, List.getElem?_eq_getElem h]; rfl
  simp [pre, et]
theorem startsN_succ {cs : List Int} {i : Nat} (h : i < cs.length) : startsN cs (i + 1) = startsN cs i ++ [pre cs i + lawSize (cs.getD i 0)] := by
  rw [← pre_succ h]
  simp [startsN, List.range_succ]
theorem last_start {prog : Program} {w : World} {A : Around} {E : Value → Shared → Prop} {s : Shared} {value slice : Expr} {l : Addr} {vs : List Value} {cs : List Int} {i : Nat} {u : Tok} {Q : Value → Shared → Prop} (hl : s.heap.IsList l vs.toArray) (hi : IntsAre vs (startsN cs i)) (h : ∀ t, Q (.int (pre cs i) t) s)
    (hs : subscripted slice false (.ref l) (.int (-1) u) = operate [.ref l, .int (-1) u] (getItem (.ref l) (.int (-1) u)) := by with_unfolding_all rfl) (hg : ∀ r, letTemporaryGo value (.ref l) r = pure () := by intro _; with_unfolding_all rfl) :
    wpAny (model prog w) A (subscriptTail value slice (.ref l) (.int (-1) u)) Q E s :=
  item_list_ints_neg hl hi (by decide) (by rw [startsN_length]; omega) (by decide) (fun t => by
    have e : ((-1 : Int) + ((startsN cs i).length : Int)).toNat = i := by rw [startsN_length]; omega
    rw [e, startsN_getD cs (Nat.le_refl i)]
    exact h t) hs hg
theorem range_cuts (l : List UInt8) : Builtin.Range.rangeSize 0 ((l.length : Int) + 1) 1 = ((l.length + 1 : Nat) : Int) := by
  rw [rangeSize_nat]
  omega
section
local macro_rules | `(tactic| walk_at "subscriptTail Name UnaryOp ref int") => `(tactic| k_extra "x45")
local macro_rules | `(tactic| walk_at "exec For Name Name cons nil") => `(tactic| k_extra "x46")
local macro_rules | `(tactic| walk_at "exec For Name Call cons nil") => `(tactic| k_dflt (k_extra "my hfor"))
local macro_rules | `(tactic| walk_at "pyIter str") => `(tactic| k_dflt (k_extra "my text"))
local macro_rules | `(tactic| walk_at "eval ListComp") => `(tactic| k_extra "x47")
local macro_rules | `(tactic| walk_at "subscriptTail Name Slice bytes ref") => `(tactic| k_extra "x48")
local macro_rules | `(tactic| walk_at "subscriptTail Name Slice str ref") => `(tactic| k_dflt (k_extra "my cut"))
local macro_rules | `(tactic| walk_at "subscriptTail Name Name ref int") => `(tactic| k_dflt (k_extra "my start"))
local macro_rules | `(tactic| walk_at "subscriptTail Name BinOp ref int") => `(tactic| k_dflt (k_extra "my start"))
local macro_rules | `(tactic| walk_at "call ref cons") => `(tactic| k_dflt (k_extra "my call"))
local macro_rules | `(tactic| walk_at "call builtin:len") => `(tactic| k_extra "x49")
local macro_rules | `(tactic| walk_at "binaryOp Add str str") => `(tactic| k_dflt (k_extra "my add"))
local macro_rules | `(tactic| walk_at "binaryOp Mult str int") => `(tactic| k_dflt (k_extra "my mul"))
local macro_rules | `(tactic| walk_at "compareOp NotEq str str") => `(tactic| (k_here; refine ne_same (by rfl) ?_))
local macro_rules | `(tactic| walk_at "TurnEndH") => `(tactic| k_dflt (k_extra "my hend"))
local macro_rules | `(tactic| walk_at "TurnEnd") => `(tactic| k_dflt (k_extra "my end"))
local macro_rules | `(tactic| walk_at "pyIter ref") => `(tactic| k_dflt (k_extra "my for"))
theorem xt49 : True := by
  k_with "x45" => ((k_here; k_dflt (refine' last_start ?klx45a ?kix45a ?_; (case klx45a => exact News.isList (by k_asm) (by k_mem)); (case kix45a => assumption)); intro t9lq7; (try dsimp only)))
  k_with "x45" => ((k_here; k_dflt (refine' last_start ?klx45b ?kix45b ?_; (case klx45b => exact News.isList (by k_asm) (by k_mem)); (case kix45b => assumption)); intro t9lq7; (try dsimp only)))
  k_with "x45" => ((k_here; k_dflt (refine' last_start ?klx45c ?kix45c ?_; (case klx45c => exact News.isList (by k_asm) (by k_mem)); (case kix45c => assumption)); intro t9lq7; (try dsimp only)))
  k_with "x45" => ((k_here; k_dflt (refine' last_start ?klx45d ?kix45d ?_; (case klx45d => exact News.isList (by k_asm) (by k_mem)); (case kix45d => assumption)); intro t9lq7; (try dsimp only)))
  k_with "x45" => ((k_here; k_dflt (refine' last_start ?klx45e ?kix45e ?_; (case klx45e => exact News.isList (by k_asm) (by k_mem)); (case kix45e => assumption)); intro t9lq7; (try dsimp only)))
  k_with "x45" => ((k_here; k_dflt (refine' last_start ?klx45f ?kix45f ?_; (case klx45f => exact News.isList (by k_asm) (by k_mem)); (case kix45f => assumption)); intro t9lq7; (try dsimp only)))
  k_with "x45" => ((k_here; k_dflt (refine' last_start ?klx45g ?kix45g ?_; (case klx45g => exact News.isList (by k_asm) (by k_mem)); (case kix45g => assumption)); intro t9lq7; (try dsimp only)))
  k_with "x45" => ((k_here; k_dflt (refine' last_start ?klx45h ?kix45h ?_; (case klx45h => exact News.isList (by k_asm) (by k_mem)); (case kix45h => assumption)); intro t9lq7; (try dsimp only)))
  k_with "x45" => ((k_here; k_dflt (refine' last_start ?klx45i ?kix45i ?_; (case klx45i => exact News.isList (by k_asm) (by k_mem)); (case kix45i => assumption)); intro t9lq7; (try dsimp only)))
  k_with "x45" => ((k_here; k_dflt (refine' last_start ?klx45j ?kix45j ?_; (case klx45j => exact News.isList (by k_asm) (by k_mem)); (case kix45j => assumption)); intro t9lq7; (try dsimp only)))
  k_with "x45" => ((k_here; k_dflt (refine' last_start ?klx45k ?kix45k ?_; (case klx45k => exact News.isList (by k_asm) (by k_mem)); (case kix45k => assumption)); intro t9lq7; (try dsimp only)))
  k_with "x45" => ((k_here; k_dflt (refine' last_start ?klx45l ?kix45l ?_; (case klx45l => exact News.isList (by k_asm) (by k_mem)); (case kix45l => assumption)); intro t9lq7; (try dsimp only)))
  k_with "x45" => ((k_here; k_dflt (refine' last_start ?klx45m ?kix45m ?_; (case klx45m => exact News.isList (by k_asm) (by k_mem)); (case kix45m => assumption)); intro t9lq7; (try dsimp only)))
  k_with "x45" => ((k_here; k_dflt (refine' last_start ?klx45n ?kix45n ?_; (case klx45n => exact News.isList (by k_asm) (by k_mem)); (case kix45n => assumption)); intro t9lq7; (try dsimp only)))
  k_with "x45" => ((k_here; k_dflt (refine' last_start ?klx45o ?kix45o ?_; (case klx45o => exact News.isList (by k_asm) (by k_mem)); (case kix45o => assumption)); intro t9lq7; (try dsimp only)))
  k_with "x45" => ((k_here; k_dflt (refine' last_start ?klx45p ?kix45p ?_; (case klx45p => exact News.isList (by k_asm) (by k_mem)); (case kix45p => assumption)); intro t9lq7; (try dsimp only)))
  k_with "x46" => ((k_here; (rename Fr _ _ _ _ => lFpq7); (with_unfolding_all refine' For_turns lFpq7 ?_; k_whole)))
  k_with "x47" => ((k_here; k_dflt (refine lcT (by k_asm) (by with_unfolding_all rfl) (by decide) (by rfl) (by decide) (by rfl) ?_)))
  k_with "x48" => ((k_here; k_dflt (first | (refine' bytes_upto (s := ⟨_, _, _, _, _⟩) ?Fx48a ?Nx48a ?zx48a ?nx48a ?_; (case Fx48a => k_asm); (case Nx48a => k_asm); (case zx48a => omega); (case nx48a => rfl)) | (refine' bytes_since (s := ⟨_, _, _, _, _⟩) ?Fx48a ?Nx48a ?zx48a ?nx48a ?kx48a ?_; (case Fx48a => k_asm); (case Nx48a => k_asm); (case zx48a => omega); (case nx48a => rfl); (case kx48a => omega))); intro h9sq7 t9sq7 j9sq7 F9sq7 N9sq7; (try dsimp only)))
  k_with "x48" => ((k_here; k_dflt (first | (refine' bytes_upto (s := ⟨_, _, _, _, _⟩) ?Fx48b ?Nx48b ?zx48b ?nx48b ?_; (case Fx48b => k_asm); (case Nx48b => k_asm); (case zx48b => omega); (case nx48b => rfl)) | (refine' bytes_since (s := ⟨_, _, _, _, _⟩) ?Fx48b ?Nx48b ?zx48b ?nx48b ?kx48b ?_; (case Fx48b => k_asm); (case Nx48b => k_asm); (case zx48b => omega); (case nx48b => rfl); (case kx48b => omega))); intro h9sq7 t9sq7 j9sq7 F9sq7 N9sq7; (try dsimp only)))
  k_with "x48" => ((k_here; k_dflt (first | (refine' bytes_upto (s := ⟨_, _, _, _, _⟩) ?Fx48c ?Nx48c ?zx48c ?nx48c ?_; (case Fx48c => k_asm); (case Nx48c => k_asm); (case zx48c => omega); (case nx48c => rfl)) | (refine' bytes_since (s := ⟨_, _, _, _, _⟩) ?Fx48c ?Nx48c ?zx48c ?nx48c ?kx48c ?_; (case Fx48c => k_asm); (case Nx48c => k_asm); (case zx48c => omega); (case nx48c => rfl); (case kx48c => omega))); intro h9sq7 t9sq7 j9sq7 F9sq7 N9sq7; (try dsimp only)))
  k_with "x48" => ((k_here; k_dflt (first | (refine' bytes_upto (s := ⟨_, _, _, _, _⟩) ?Fx48d ?Nx48d ?zx48d ?nx48d ?_; (case Fx48d => k_asm); (case Nx48d => k_asm); (case zx48d => omega); (case nx48d => rfl)) | (refine' bytes_since (s := ⟨_, _, _, _, _⟩) ?Fx48d ?Nx48d ?zx48d ?nx48d ?kx48d ?_; (case Fx48d => k_asm); (case Nx48d => k_asm); (case zx48d => omega); (case nx48d => rfl); (case kx48d => omega))); intro h9sq7 t9sq7 j9sq7 F9sq7 N9sq7; (try dsimp only)))
  k_with "x48" => ((k_here; k_dflt (first | (refine' bytes_upto (s := ⟨_, _, _, _, _⟩) ?Fx48e ?Nx48e ?zx48e ?nx48e ?_; (case Fx48e => k_asm); (case Nx48e => k_asm); (case zx48e => omega); (case nx48e => rfl)) | (refine' bytes_since (s := ⟨_, _, _, _, _⟩) ?Fx48e ?Nx48e ?zx48e ?nx48e ?kx48e ?_; (case Fx48e => k_asm); (case Nx48e => k_asm); (case zx48e => omega); (case nx48e => rfl); (case kx48e => omega))); intro h9sq7 t9sq7 j9sq7 F9sq7 N9sq7; (try dsimp only)))
  k_with "x48" => ((k_here; k_dflt (first | (refine' bytes_upto (s := ⟨_, _, _, _, _⟩) ?Fx48f ?Nx48f ?zx48f ?nx48f ?_; (case Fx48f => k_asm); (case Nx48f => k_asm); (case zx48f => omega); (case nx48f => rfl)) | (refine' bytes_since (s := ⟨_, _, _, _, _⟩) ?Fx48f ?Nx48f ?zx48f ?nx48f ?kx48f ?_; (case Fx48f => k_asm); (case Nx48f => k_asm); (case zx48f => omega); (case nx48f => rfl); (case kx48f => omega))); intro h9sq7 t9sq7 j9sq7 F9sq7 N9sq7; (try dsimp only)))
  k_with "x48" => ((k_here; k_dflt (first | (refine' bytes_upto (s := ⟨_, _, _, _, _⟩) ?Fx48g ?Nx48g ?zx48g ?nx48g ?_; (case Fx48g => k_asm); (case Nx48g => k_asm); (case zx48g => omega); (case nx48g => rfl)) | (refine' bytes_since (s := ⟨_, _, _, _, _⟩) ?Fx48g ?Nx48g ?zx48g ?nx48g ?kx48g ?_; (case Fx48g => k_asm); (case Nx48g => k_asm); (case zx48g => omega); (case nx48g => rfl); (case kx48g => omega))); intro h9sq7 t9sq7 j9sq7 F9sq7 N9sq7; (try dsimp only)))
  k_with "x48" => ((k_here; k_dflt (first | (refine' bytes_upto (s := ⟨_, _, _, _, _⟩) ?Fx48h ?Nx48h ?zx48h ?nx48h ?_; (case Fx48h => k_asm); (case Nx48h => k_asm); (case zx48h => omega); (case nx48h => rfl)) | (refine' bytes_since (s := ⟨_, _, _, _, _⟩) ?Fx48h ?Nx48h ?zx48h ?nx48h ?kx48h ?_; (case Fx48h => k_asm); (case Nx48h => k_asm); (case zx48h => omega); (case nx48h => rfl); (case kx48h => omega))); intro h9sq7 t9sq7 j9sq7 F9sq7 N9sq7; (try dsimp only)))
  k_with "x48" => ((k_here; k_dflt (first | (refine' bytes_upto (s := ⟨_, _, _, _, _⟩) ?Fx48i ?Nx48i ?zx48i ?nx48i ?_; (case Fx48i => k_asm); (case Nx48i => k_asm); (case zx48i => omega); (case nx48i => rfl)) | (refine' bytes_since (s := ⟨_, _, _, _, _⟩) ?Fx48i ?Nx48i ?zx48i ?nx48i ?kx48i ?_; (case Fx48i => k_asm); (case Nx48i => k_asm); (case zx48i => omega); (case nx48i => rfl); (case kx48i => omega))); intro h9sq7 t9sq7 j9sq7 F9sq7 N9sq7; (try dsimp only)))
  k_with "x48" => ((k_here; k_dflt (first | (refine' bytes_upto (s := ⟨_, _, _, _, _⟩) ?Fx48j ?Nx48j ?zx48j ?nx48j ?_; (case Fx48j => k_asm); (case Nx48j => k_asm); (case zx48j => omega); (case nx48j => rfl)) | (refine' bytes_since (s := ⟨_, _, _, _, _⟩) ?Fx48j ?Nx48j ?zx48j ?nx48j ?kx48j ?_; (case Fx48j => k_asm); (case Nx48j => k_asm); (case zx48j => omega); (case nx48j => rfl); (case kx48j => omega))); intro h9sq7 t9sq7 j9sq7 F9sq7 N9sq7; (try dsimp only)))
  k_with "x48" => ((k_here; k_dflt (first | (refine' bytes_upto (s := ⟨_, _, _, _, _⟩) ?Fx48k ?Nx48k ?zx48k ?nx48k ?_; (case Fx48k => k_asm); (case Nx48k => k_asm); (case zx48k => omega); (case nx48k => rfl)) | (refine' bytes_since (s := ⟨_, _, _, _, _⟩) ?Fx48k ?Nx48k ?zx48k ?nx48k ?kx48k ?_; (case Fx48k => k_asm); (case Nx48k => k_asm); (case zx48k => omega); (case nx48k => rfl); (case kx48k => omega))); intro h9sq7 t9sq7 j9sq7 F9sq7 N9sq7; (try dsimp only)))
  k_with "x48" => ((k_here; k_dflt (first | (refine' bytes_upto (s := ⟨_, _, _, _, _⟩) ?Fx48l ?Nx48l ?zx48l ?nx48l ?_; (case Fx48l => k_asm); (case Nx48l => k_asm); (case zx48l => omega); (case nx48l => rfl)) | (refine' bytes_since (s := ⟨_, _, _, _, _⟩) ?Fx48l ?Nx48l ?zx48l ?nx48l ?kx48l ?_; (case Fx48l => k_asm); (case Nx48l => k_asm); (case zx48l => omega); (case nx48l => rfl); (case kx48l => omega))); intro h9sq7 t9sq7 j9sq7 F9sq7 N9sq7; (try dsimp only)))
  k_with "x48" => ((k_here; k_dflt (first | (refine' bytes_upto (s := ⟨_, _, _, _, _⟩) ?Fx48m ?Nx48m ?zx48m ?nx48m ?_; (case Fx48m => k_asm); (case Nx48m => k_asm); (case zx48m => omega); (case nx48m => rfl)) | (refine' bytes_since (s := ⟨_, _, _, _, _⟩) ?Fx48m ?Nx48m ?zx48m ?nx48m ?kx48m ?_; (case Fx48m => k_asm); (case Nx48m => k_asm); (case zx48m => omega); (case nx48m => rfl); (case kx48m => omega))); intro h9sq7 t9sq7 j9sq7 F9sq7 N9sq7; (try dsimp only)))
  k_with "x48" => ((k_here; k_dflt (first | (refine' bytes_upto (s := ⟨_, _, _, _, _⟩) ?Fx48n ?Nx48n ?zx48n ?nx48n ?_; (case Fx48n => k_asm); (case Nx48n => k_asm); (case zx48n => omega); (case nx48n => rfl)) | (refine' bytes_since (s := ⟨_, _, _, _, _⟩) ?Fx48n ?Nx48n ?zx48n ?nx48n ?kx48n ?_; (case Fx48n => k_asm); (case Nx48n => k_asm); (case zx48n => omega); (case nx48n => rfl); (case kx48n => omega))); intro h9sq7 t9sq7 j9sq7 F9sq7 N9sq7; (try dsimp only)))
  k_with "x48" => ((k_here; k_dflt (first | (refine' bytes_upto (s := ⟨_, _, _, _, _⟩) ?Fx48o ?Nx48o ?zx48o ?nx48o ?_; (case Fx48o => k_asm); (case Nx48o => k_asm); (case zx48o => omega); (case nx48o => rfl)) | (refine' bytes_since (s := ⟨_, _, _, _, _⟩) ?Fx48o ?Nx48o ?zx48o ?nx48o ?kx48o ?_; (case Fx48o => k_asm); (case Nx48o => k_asm); (case zx48o => omega); (case nx48o => rfl); (case kx48o => omega))); intro h9sq7 t9sq7 j9sq7 F9sq7 N9sq7; (try dsimp only)))
  k_with "x48" => ((k_here; k_dflt (first | (refine' bytes_upto (s := ⟨_, _, _, _, _⟩) ?Fx48p ?Nx48p ?zx48p ?nx48p ?_; (case Fx48p => k_asm); (case Nx48p => k_asm); (case zx48p => omega); (case nx48p => rfl)) | (refine' bytes_since (s := ⟨_, _, _, _, _⟩) ?Fx48p ?Nx48p ?zx48p ?nx48p ?kx48p ?_; (case Fx48p => k_asm); (case Nx48p => k_asm); (case zx48p => omega); (case nx48p => rfl); (case kx48p => omega))); intro h9sq7 t9sq7 j9sq7 F9sq7 N9sq7; (try dsimp only)))
  k_with "x49" => ((k_here; k_dflt (refine' len_ints9 ?Nx49a ?mx49a ?ix49a ?zx49a ?_; (case Nx49a => k_asm); (case mx49a => k_mem); (case ix49a => assumption); (case zx49a => omega)); intro t9nq7 j9nq7; (try dsimp only)))
  k_with "x49" => ((k_here; k_dflt (refine' len_ints9 ?Nx49b ?mx49b ?ix49b ?zx49b ?_; (case Nx49b => k_asm); (case mx49b => k_mem); (case ix49b => assumption); (case zx49b => omega)); intro t9nq7 j9nq7; (try dsimp only)))
  k_with "x49" => ((k_here; k_dflt (refine' len_ints9 ?Nx49c ?mx49c ?ix49c ?zx49c ?_; (case Nx49c => k_asm); (case mx49c => k_mem); (case ix49c => assumption); (case zx49c => omega)); intro t9nq7 j9nq7; (try dsimp only)))
  k_with "x49" => ((k_here; k_dflt (refine' len_ints9 ?Nx49d ?mx49d ?ix49d ?zx49d ?_; (case Nx49d => k_asm); (case mx49d => k_mem); (case ix49d => assumption); (case zx49d => omega)); intro t9nq7 j9nq7; (try dsimp only)))
  k_with "x49" => ((k_here; k_dflt (refine' len_ints9 ?Nx49e ?mx49e ?ix49e ?zx49e ?_; (case Nx49e => k_asm); (case mx49e => k_mem); (case ix49e => assumption); (case zx49e => omega)); intro t9nq7 j9nq7; (try dsimp only)))
  k_with "x49" => ((k_here; k_dflt (refine' len_ints9 ?Nx49f ?mx49f ?ix49f ?zx49f ?_; (case Nx49f => k_asm); (case mx49f => k_mem); (case ix49f => assumption); (case zx49f => omega)); intro t9nq7 j9nq7; (try dsimp only)))
  k_with "x49" => ((k_here; k_dflt (refine' len_ints9 ?Nx49g ?mx49g ?ix49g ?zx49g ?_; (case Nx49g => k_asm); (case mx49g => k_mem); (case ix49g => assumption); (case zx49g => omega)); intro t9nq7 j9nq7; (try dsimp only)))
  k_with "x49" => ((k_here; k_dflt (refine' len_ints9 ?Nx49h ?mx49h ?ix49h ?zx49h ?_; (case Nx49h => k_asm); (case mx49h => k_mem); (case ix49h => assumption); (case zx49h => omega)); intro t9nq7 j9nq7; (try dsimp only)))
  k_with "x49" => ((k_here; k_dflt (refine' len_ints9 ?Nx49i ?mx49i ?ix49i ?zx49i ?_; (case Nx49i => k_asm); (case mx49i => k_mem); (case ix49i => assumption); (case zx49i => omega)); intro t9nq7 j9nq7; (try dsimp only)))
  k_with "x49" => ((k_here; k_dflt (refine' len_ints9 ?Nx49j ?mx49j ?ix49j ?zx49j ?_; (case Nx49j => k_asm); (case mx49j => k_mem); (case ix49j => assumption); (case zx49j => omega)); intro t9nq7 j9nq7; (try dsimp only)))
  k_with "x49" => ((k_here; k_dflt (refine' len_ints9 ?Nx49k ?mx49k ?ix49k ?zx49k ?_; (case Nx49k => k_asm); (case mx49k => k_mem); (case ix49k => assumption); (case zx49k => omega)); intro t9nq7 j9nq7; (try dsimp only)))
  k_with "x49" => ((k_here; k_dflt (refine' len_ints9 ?Nx49l ?mx49l ?ix49l ?zx49l ?_; (case Nx49l => k_asm); (case mx49l => k_mem); (case ix49l => assumption); (case zx49l => omega)); intro t9nq7 j9nq7; (try dsimp only)))
  k_with "x49" => ((k_here; k_dflt (refine' len_ints9 ?Nx49m ?mx49m ?ix49m ?zx49m ?_; (case Nx49m => k_asm); (case mx49m => k_mem); (case ix49m => assumption); (case zx49m => omega)); intro t9nq7 j9nq7; (try dsimp only)))
  k_with "x49" => ((k_here; k_dflt (refine' len_ints9 ?Nx49n ?mx49n ?ix49n ?zx49n ?_; (case Nx49n => k_asm); (case mx49n => k_mem); (case ix49n => assumption); (case zx49n => omega)); intro t9nq7 j9nq7; (try dsimp only)))
  k_with "x49" => ((k_here; k_dflt (refine' len_ints9 ?Nx49o ?mx49o ?ix49o ?zx49o ?_; (case Nx49o => k_asm); (case mx49o => k_mem); (case ix49o => assumption); (case zx49o => omega)); intro t9nq7 j9nq7; (try dsimp only)))
  k_with "x49" => ((k_here; k_dflt (refine' len_ints9 ?Nx49p ?mx49p ?ix49p ?zx49p ?_; (case Nx49p => k_asm); (case mx49p => k_mem); (case ix49p => assumption); (case zx49p => omega)); intro t9nq7 j9nq7; (try dsimp only)))
  trivial
set_option pp.deepTerms false
set_option pp.deepTerms.threshold 8
theorem c_cuts (w : World) (cs : List Int) (l : List UInt8) (t t' : Tok) (hsz : cs.length ≤ 50) (hlz : l.length < 500) (hall : ∀ c ∈ cs, 0 ≤ c ∧ c ≤ 1114111) (htot : pre cs cs.length = l.length) (hcut : ∀ cut, cut ≤ l.length → CutOK cs l cut) : PCS w 16 173 [.str (textOf cs) t, .bytes l.toArray t'] (RBool true) := by
  unfold PCS
  k_fill
  w_top off
  intro mean mg mb dp un gd cn cs' a ccd cl outer A₀ base h₀ L m s Q E B F XB TB hk hd hu hret
  have X := XB.keeps B.stays
  have T := TB.keeps B.stays
  k_with_none
  k_with "x1" => ((refine wpAny_call ?_; first   | (refine' code_defG (news := []) ?k1x1 ?k2x1 ?k3x1 News.nil ?k5x1 ?kAx1 ?kFx1 ?kKx1 ?k6x1 ?k7x1 ?k8x1 ?k9x1 ?kBx1 ?_ ?c2x1 ?c3x1 ?c4x1 ?c5x1; (case kAx1 => exact rfl); (case kFx1 => exact rfl); (case kKx1 => assumption); (case k1x1 => k_asm); (case k2x1 => k_asm); (case k3x1 => k_asm); (case k5x1 => k_asm); (case k6x1 => k_is); (case k7x1 => k_is); (case k8x1 => ktr_room); (case k9x1 => exact BindsTo.of_eq rfl); (case c5x1 => decide); (case kBx1 => exact locs rfl); (case c2x1 => exact rfl); (case c3x1 => exact rfl); (case c4x1 => exact rfl); k_whole; intro gpq7 Lpq7 hpq7 FGpq7 Fpq7 Npq7 Bpq7 Xpq7 Tpq7 kGpq7; (try dsimp only); (try k_fold))   | (refine' code_defGC (news := []) ?k1x1 ?k2x1 ?k3x1 News.nil ?k5x1 ?kAx1 ?kFx1 ?kKx1 ?k6x1 ?k7x1 ?k8x1 ?k9x1 ?kBx1 ?kDx1 ?_ ?c2x1 ?c3x1 ?c4x1; (case kAx1 => exact rfl); (case kFx1 => exact rfl); (case kKx1 => assumption); (case k1x1 => k_asm); (case k2x1 => k_asm); (case k3x1 => k_asm); (case k5x1 => k_asm); (case k6x1 => k_is); (case k7x1 => k_is); (case k8x1 => ktr_room); (case k9x1 => exact BindsTo.of_eq rfl); (case kBx1 => exact rfl); (case kDx1 => decide +kernel); (case c2x1 => exact rfl); (case c3x1 => exact rfl); (case c4x1 => exact rfl); k_whole; intro gpq7 Lpq7 hpq7 tkpq7 cellspq7 FGpq7 Fpq7 Npq7 Ypq7 Bpq7 Xpq7 Tpq7 l1q7 kGpq7; clear l1q7; k_cells Ypq7; (try simp only [List.cons_append, List.nil_append] at Npq7); (try dsimp only); (try k_fold))))
  k_with "calls" => (cell_ask (c_need_charset _ _ _ (by assumption)))
  k_with "calls" => (cell_ask (c_has_sign _ _ _ _ _ (by assumption)))
  k_with "calls" => (cell_ask (c_utf8_octets _ _ _ (by assumption)))
  k_with "calls" => (cell_ask (c_utf8_sign _ _ _ _ _ (by first | assumption | omega) (by first | assumption | omega) (by first | assumption | omega)))
  k_with "calls" => (cell_ask (c_sign_at' _ _ _ _ _ _ _ (by assumption) (by first | assumption | omega) (by first | assumption | omega) (by first | assumption | omega)))
  k_with "x15" => ((intro zq7 h2q7 h3q7; (simp only [List.forall_mem_cons, List.not_mem_nil, false_implies, implies_true, and_true, ne_eq] at h2q7); (simp only [List.contains_cons, List.contains_nil, Bool.or_false, Bool.or_eq_false_iff, beq_eq_false_iff_ne, ne_eq] at h3q7); simp [kstB, h2q7, h3q7]))
  k_with "calls" => (cell_ask (c_text_in _ _ _ _ _ (by assumption) (by assumption)))
  k_with "calls" => (cell_ask (c_strict_text _ _ _ _ _ (by assumption) (by assumption) (by assumption)))
  k_with "x18" => ((k_here; k_dflt (refine item_text (by first | assumption | omega) (by first | assumption | omega) (by first | assumption | omega) ?_)))
  k_with "x19" => ((k_here; k_dflt (refine len_text (by first | assumption | omega) ?_)))
  k_with "x20" => ((k_here; k_dflt (refine ord_one (by first | assumption | omega) ?_)))
  k_with "calls" => (cell_ask (c_has_sign_true _ _ _ _ _ (by assumption) (by assumption)))
  k_with "x22" => ((intro zq7 h1q7 h2q7 h3q7; (simp only [List.forall_mem_cons, List.not_mem_nil, false_implies, implies_true, and_true, ne_eq] at h2q7); (simp only [List.contains_cons, List.contains_nil, Bool.or_false, Bool.or_eq_false_iff, beq_eq_false_iff_ne, ne_eq] at h3q7); simp [kstB, h1q7, h2q7, h3q7]))
  k_with "calls" => (cell_ask (c_octets_in0 _ _ _ _ _ (by assumption) (by first | assumption | omega) (by assumption)))
  k_with "calls" => (cell_ask (c_best_charset _ _ _ (by first | assumption | omega) (by assumption)))
  k_with "x45" => ((k_here; k_dflt (refine' last_start ?klx45a ?kix45a ?_; (case klx45a => exact News.isList (by k_asm) (by k_mem)); (case kix45a => assumption)); intro t9lq7; (try dsimp only)))
  k_with "x45" => ((k_here; k_dflt (refine' last_start ?klx45b ?kix45b ?_; (case klx45b => exact News.isList (by k_asm) (by k_mem)); (case kix45b => assumption)); intro t9lq7; (try dsimp only)))
  k_with "x45" => ((k_here; k_dflt (refine' last_start ?klx45c ?kix45c ?_; (case klx45c => exact News.isList (by k_asm) (by k_mem)); (case kix45c => assumption)); intro t9lq7; (try dsimp only)))
  k_with "x45" => ((k_here; k_dflt (refine' last_start ?klx45d ?kix45d ?_; (case klx45d => exact News.isList (by k_asm) (by k_mem)); (case kix45d => assumption)); intro t9lq7; (try dsimp only)))
  k_with "x45" => ((k_here; k_dflt (refine' last_start ?klx45e ?kix45e ?_; (case klx45e => exact News.isList (by k_asm) (by k_mem)); (case kix45e => assumption)); intro t9lq7; (try dsimp only)))
  k_with "x45" => ((k_here; k_dflt (refine' last_start ?klx45f ?kix45f ?_; (case klx45f => exact News.isList (by k_asm) (by k_mem)); (case kix45f => assumption)); intro t9lq7; (try dsimp only)))
  k_with "x45" => ((k_here; k_dflt (refine' last_start ?klx45g ?kix45g ?_; (case klx45g => exact News.isList (by k_asm) (by k_mem)); (case kix45g => assumption)); intro t9lq7; (try dsimp only)))
  k_with "x45" => ((k_here; k_dflt (refine' last_start ?klx45h ?kix45h ?_; (case klx45h => exact News.isList (by k_asm) (by k_mem)); (case kix45h => assumption)); intro t9lq7; (try dsimp only)))
  k_with "x45" => ((k_here; k_dflt (refine' last_start ?klx45i ?kix45i ?_; (case klx45i => exact News.isList (by k_asm) (by k_mem)); (case kix45i => assumption)); intro t9lq7; (try dsimp only)))
  k_with "x45" => ((k_here; k_dflt (refine' last_start ?klx45j ?kix45j ?_; (case klx45j => exact News.isList (by k_asm) (by k_mem)); (case kix45j => assumption)); intro t9lq7; (try dsimp only)))
  k_with "x45" => ((k_here; k_dflt (refine' last_start ?klx45k ?kix45k ?_; (case klx45k => exact News.isList (by k_asm) (by k_mem)); (case kix45k => assumption)); intro t9lq7; (try dsimp only)))
  k_with "x45" => ((k_here; k_dflt (refine' last_start ?klx45l ?kix45l ?_; (case klx45l => exact News.isList (by k_asm) (by k_mem)); (case kix45l => assumption)); intro t9lq7; (try dsimp only)))
  k_with "x45" => ((k_here; k_dflt (refine' last_start ?klx45m ?kix45m ?_; (case klx45m => exact News.isList (by k_asm) (by k_mem)); (case kix45m => assumption)); intro t9lq7; (try dsimp only)))
  k_with "x45" => ((k_here; k_dflt (refine' last_start ?klx45n ?kix45n ?_; (case klx45n => exact News.isList (by k_asm) (by k_mem)); (case kix45n => assumption)); intro t9lq7; (try dsimp only)))
  k_with "x45" => ((k_here; k_dflt (refine' last_start ?klx45o ?kix45o ?_; (case klx45o => exact News.isList (by k_asm) (by k_mem)); (case kix45o => assumption)); intro t9lq7; (try dsimp only)))
  k_with "x45" => ((k_here; k_dflt (refine' last_start ?klx45p ?kix45p ?_; (case klx45p => exact News.isList (by k_asm) (by k_mem)); (case kix45p => assumption)); intro t9lq7; (try dsimp only)))
  k_with "x46" => ((k_here; (rename Fr _ _ _ _ => lFpq7); (with_unfolding_all refine' For_turns lFpq7 ?_; k_whole)))
  k_with "x47" => ((k_here; k_dflt (refine lcT (by k_asm) (by with_unfolding_all rfl) (by decide) (by rfl) (by decide) (by rfl) ?_)))
  k_with "x48" => ((k_here; k_dflt (first | (refine' bytes_upto (s := ⟨_, _, _, _, _⟩) ?Fx48a ?Nx48a ?zx48a ?nx48a ?_; (case Fx48a => k_asm); (case Nx48a => k_asm); (case zx48a => omega); (case nx48a => rfl)) | (refine' bytes_since (s := ⟨_, _, _, _, _⟩) ?Fx48a ?Nx48a ?zx48a ?nx48a ?kx48a ?_; (case Fx48a => k_asm); (case Nx48a => k_asm); (case zx48a => omega); (case nx48a => rfl); (case kx48a => omega))); intro h9sq7 t9sq7 j9sq7 F9sq7 N9sq7; (try dsimp only)))
  k_with "x48" => ((k_here; k_dflt (first | (refine' bytes_upto (s := ⟨_, _, _, _, _⟩) ?Fx48b ?Nx48b ?zx48b ?nx48b ?_; (case Fx48b => k_asm); (case Nx48b => k_asm); (case zx48b => omega); (case nx48b => rfl)) | (refine' bytes_since (s := ⟨_, _, _, _, _⟩) ?Fx48b ?Nx48b ?zx48b ?nx48b ?kx48b ?_; (case Fx48b => k_asm); (case Nx48b => k_asm); (case zx48b => omega); (case nx48b => rfl); (case kx48b => omega))); intro h9sq7 t9sq7 j9sq7 F9sq7 N9sq7; (try dsimp only)))
  k_with "x48" => ((k_here; k_dflt (first | (refine' bytes_upto (s := ⟨_, _, _, _, _⟩) ?Fx48c ?Nx48c ?zx48c ?nx48c ?_; (case Fx48c => k_asm); (case Nx48c => k_asm); (case zx48c => omega); (case nx48c => rfl)) | (refine' bytes_since (s := ⟨_, _, _, _, _⟩) ?Fx48c ?Nx48c ?zx48c ?nx48c ?kx48c ?_; (case Fx48c => k_asm); (case Nx48c => k_asm); (case zx48c => omega); (case nx48c => rfl); (case kx48c => omega))); intro h9sq7 t9sq7 j9sq7 F9sq7 N9sq7; (try dsimp only)))
  k_with "x48" => ((k_here; k_dflt (first | (refine' bytes_upto (s := ⟨_, _, _, _, _⟩) ?Fx48d ?Nx48d ?zx48d ?nx48d ?_; (case Fx48d => k_asm); (case Nx48d => k_asm); (case zx48d => omega); (case nx48d => rfl)) | (refine' bytes_since (s := ⟨_, _, _, _, _⟩) ?Fx48d ?Nx48d ?zx48d ?nx48d ?kx48d ?_; (case Fx48d => k_asm); (case Nx48d => k_asm); (case zx48d => omega); (case nx48d => rfl); (case kx48d => omega))); intro h9sq7 t9sq7 j9sq7 F9sq7 N9sq7; (try dsimp only)))
  k_with "x48" => ((k_here; k_dflt (first | (refine' bytes_upto (s := ⟨_, _, _, _, _⟩) ?Fx48e ?Nx48e ?zx48e ?nx48e ?_; (case Fx48e => k_asm); (case Nx48e => k_asm); (case zx48e => omega); (case nx48e => rfl)) | (refine' bytes_since (s := ⟨_, _, _, _, _⟩) ?Fx48e ?Nx48e ?zx48e ?nx48e ?kx48e ?_; (case Fx48e => k_asm); (case Nx48e => k_asm); (case zx48e => omega); (case nx48e => rfl); (case kx48e => omega))); intro h9sq7 t9sq7 j9sq7 F9sq7 N9sq7; (try dsimp only)))
  k_with "x48" => ((k_here; k_dflt (first | (refine' bytes_upto (s := ⟨_, _, _, _, _⟩) ?Fx48f ?Nx48f ?zx48f ?nx48f ?_; (case Fx48f => k_asm); (case Nx48f => k_asm); (case zx48f => omega); (case nx48f => rfl)) | (refine' bytes_since (s := ⟨_, _, _, _, _⟩) ?Fx48f ?Nx48f ?zx48f ?nx48f ?kx48f ?_; (case Fx48f => k_asm); (case Nx48f => k_asm); (case zx48f => omega); (case nx48f => rfl); (case kx48f => omega))); intro h9sq7 t9sq7 j9sq7 F9sq7 N9sq7; (try dsimp only)))
  k_with "x48" => ((k_here; k_dflt (first | (refine' bytes_upto (s := ⟨_, _, _, _, _⟩) ?Fx48g ?Nx48g ?zx48g ?nx48g ?_; (case Fx48g => k_asm); (case Nx48g => k_asm); (case zx48g => omega); (case nx48g => rfl)) | (refine' bytes_since (s := ⟨_, _, _, _, _⟩) ?Fx48g ?Nx48g ?zx48g ?nx48g ?kx48g ?_; (case Fx48g => k_asm); (case Nx48g => k_asm); (case zx48g => omega); (case nx48g => rfl); (case kx48g => omega))); intro h9sq7 t9sq7 j9sq7 F9sq7 N9sq7; (try dsimp only)))
  k_with "x48" => ((k_here; k_dflt (first | (refine' bytes_upto (s := ⟨_, _, _, _, _⟩) ?Fx48h ?Nx48h ?zx48h ?nx48h ?_; (case Fx48h => k_asm); (case Nx48h => k_asm); (case zx48h => omega); (case nx48h => rfl)) | (refine' bytes_since (s := ⟨_, _, _, _, _⟩) ?Fx48h ?Nx48h ?zx48h ?nx48h ?kx48h ?_; (case Fx48h => k_asm); (case Nx48h => k_asm); (case zx48h => omega); (case nx48h => rfl); (case kx48h => omega))); intro h9sq7 t9sq7 j9sq7 F9sq7 N9sq7; (try dsimp only)))
  k_with "x48" => ((k_here; k_dflt (first | (refine' bytes_upto (s := ⟨_, _, _, _, _⟩) ?Fx48i ?Nx48i ?zx48i ?nx48i ?_; (case Fx48i => k_asm); (case Nx48i => k_asm); (case zx48i => omega); (case nx48i => rfl)) | (refine' bytes_since (s := ⟨_, _, _, _, _⟩) ?Fx48i ?Nx48i ?zx48i ?nx48i ?kx48i ?_; (case Fx48i => k_asm); (case Nx48i => k_asm); (case zx48i => omega); (case nx48i => rfl); (case kx48i => omega))); intro h9sq7 t9sq7 j9sq7 F9sq7 N9sq7; (try dsimp only)))
  k_with "x48" => ((k_here; k_dflt (first | (refine' bytes_upto (s := ⟨_, _, _, _, _⟩) ?Fx48j ?Nx48j ?zx48j ?nx48j ?_; (case Fx48j => k_asm); (case Nx48j => k_asm); (case zx48j => omega); (case nx48j => rfl)) | (refine' bytes_since (s := ⟨_, _, _, _, _⟩) ?Fx48j ?Nx48j ?zx48j ?nx48j ?kx48j ?_; (case Fx48j => k_asm); (case Nx48j => k_asm); (case zx48j => omega); (case nx48j => rfl); (case kx48j => omega))); intro h9sq7 t9sq7 j9sq7 F9sq7 N9sq7; (try dsimp only)))
  k_with "x48" => ((k_here; k_dflt (first | (refine' bytes_upto (s := ⟨_, _, _, _, _⟩) ?Fx48k ?Nx48k ?zx48k ?nx48k ?_; (case Fx48k => k_asm); (case Nx48k => k_asm); (case zx48k => omega); (case nx48k => rfl)) | (refine' bytes_since (s := ⟨_, _, _, _, _⟩) ?Fx48k ?Nx48k ?zx48k ?nx48k ?kx48k ?_; (case Fx48k => k_asm); (case Nx48k => k_asm); (case zx48k => omega); (case nx48k => rfl); (case kx48k => omega))); intro h9sq7 t9sq7 j9sq7 F9sq7 N9sq7; (try dsimp only)))
  k_with "x48" => ((k_here; k_dflt (first | (refine' bytes_upto (s := ⟨_, _, _, _, _⟩) ?Fx48l ?Nx48l ?zx48l ?nx48l ?_; (case Fx48l => k_asm); (case Nx48l => k_asm); (case zx48l => omega); (case nx48l => rfl)) | (refine' bytes_since (s := ⟨_, _, _, _, _⟩) ?Fx48l ?Nx48l ?zx48l ?nx48l ?kx48l ?_; (case Fx48l => k_asm); (case Nx48l => k_asm); (case zx48l => omega); (case nx48l => rfl); (case kx48l => omega))); intro h9sq7 t9sq7 j9sq7 F9sq7 N9sq7; (try dsimp only)))
  k_with "x48" => ((k_here; k_dflt (first | (refine' bytes_upto (s := ⟨_, _, _, _, _⟩) ?Fx48m ?Nx48m ?zx48m ?nx48m ?_; (case Fx48m => k_asm); (case Nx48m => k_asm); (case zx48m => omega); (case nx48m => rfl)) | (refine' bytes_since (s := ⟨_, _, _, _, _⟩) ?Fx48m ?Nx48m ?zx48m ?nx48m ?kx48m ?_; (case Fx48m => k_asm); (case Nx48m => k_asm); (case zx48m => omega); (case nx48m => rfl); (case kx48m => omega))); intro h9sq7 t9sq7 j9sq7 F9sq7 N9sq7; (try dsimp only)))
  k_with "x48" => ((k_here; k_dflt (first | (refine' bytes_upto (s := ⟨_, _, _, _, _⟩) ?Fx48n ?Nx48n ?zx48n ?nx48n ?_; (case Fx48n => k_asm); (case Nx48n => k_asm); (case zx48n => omega); (case nx48n => rfl)) | (refine' bytes_since (s := ⟨_, _, _, _, _⟩) ?Fx48n ?Nx48n ?zx48n ?nx48n ?kx48n ?_; (case Fx48n => k_asm); (case Nx48n => k_asm); (case zx48n => omega); (case nx48n => rfl); (case kx48n => omega))); intro h9sq7 t9sq7 j9sq7 F9sq7 N9sq7; (try dsimp only)))
  k_with "x48" => ((k_here; k_dflt (first | (refine' bytes_upto (s := ⟨_, _, _, _, _⟩) ?Fx48o ?Nx48o ?zx48o ?nx48o ?_; (case Fx48o => k_asm); (case Nx48o => k_asm); (case zx48o => omega); (case nx48o => rfl)) | (refine' bytes_since (s := ⟨_, _, _, _, _⟩) ?Fx48o ?Nx48o ?zx48o ?nx48o ?kx48o ?_; (case Fx48o => k_asm); (case Nx48o => k_asm); (case zx48o => omega); (case nx48o => rfl); (case kx48o => omega))); intro h9sq7 t9sq7 j9sq7 F9sq7 N9sq7; (try dsimp only)))
  k_with "x48" => ((k_here; k_dflt (first | (refine' bytes_upto (s := ⟨_, _, _, _, _⟩) ?Fx48p ?Nx48p ?zx48p ?nx48p ?_; (case Fx48p => k_asm); (case Nx48p => k_asm); (case zx48p => omega); (case nx48p => rfl)) | (refine' bytes_since (s := ⟨_, _, _, _, _⟩) ?Fx48p ?Nx48p ?zx48p ?nx48p ?kx48p ?_; (case Fx48p => k_asm); (case Nx48p => k_asm); (case zx48p => omega); (case nx48p => rfl); (case kx48p => omega))); intro h9sq7 t9sq7 j9sq7 F9sq7 N9sq7; (try dsimp only)))
  k_with "x49" => ((k_here; k_dflt (refine' len_ints9 ?Nx49a ?mx49a ?ix49a ?zx49a ?_; (case Nx49a => k_asm); (case mx49a => k_mem); (case ix49a => assumption); (case zx49a => omega)); intro t9nq7 j9nq7; (try dsimp only)))
  k_with "x49" => ((k_here; k_dflt (refine' len_ints9 ?Nx49b ?mx49b ?ix49b ?zx49b ?_; (case Nx49b => k_asm); (case mx49b => k_mem); (case ix49b => assumption); (case zx49b => omega)); intro t9nq7 j9nq7; (try dsimp only)))
  k_with "x49" => ((k_here; k_dflt (refine' len_ints9 ?Nx49c ?mx49c ?ix49c ?zx49c ?_; (case Nx49c => k_asm); (case mx49c => k_mem); (case ix49c => assumption); (case zx49c => omega)); intro t9nq7 j9nq7; (try dsimp only)))
  k_with "x49" => ((k_here; k_dflt (refine' len_ints9 ?Nx49d ?mx49d ?ix49d ?zx49d ?_; (case Nx49d => k_asm); (case mx49d => k_mem); (case ix49d => assumption); (case zx49d => omega)); intro t9nq7 j9nq7; (try dsimp only)))
  k_with "x49" => ((k_here; k_dflt (refine' len_ints9 ?Nx49e ?mx49e ?ix49e ?zx49e ?_; (case Nx49e => k_asm); (case mx49e => k_mem); (case ix49e => assumption); (case zx49e => omega)); intro t9nq7 j9nq7; (try dsimp only)))
  k_with "x49" => ((k_here; k_dflt (refine' len_ints9 ?Nx49f ?mx49f ?ix49f ?zx49f ?_; (case Nx49f => k_asm); (case mx49f => k_mem); (case ix49f => assumption); (case zx49f => omega)); intro t9nq7 j9nq7; (try dsimp only)))
  k_with "x49" => ((k_here; k_dflt (refine' len_ints9 ?Nx49g ?mx49g ?ix49g ?zx49g ?_; (case Nx49g => k_asm); (case mx49g => k_mem); (case ix49g => assumption); (case zx49g => omega)); intro t9nq7 j9nq7; (try dsimp only)))
  k_with "x49" => ((k_here; k_dflt (refine' len_ints9 ?Nx49h ?mx49h ?ix49h ?zx49h ?_; (case Nx49h => k_asm); (case mx49h => k_mem); (case ix49h => assumption); (case zx49h => omega)); intro t9nq7 j9nq7; (try dsimp only)))
  k_with "x49" => ((k_here; k_dflt (refine' len_ints9 ?Nx49i ?mx49i ?ix49i ?zx49i ?_; (case Nx49i => k_asm); (case mx49i => k_mem); (case ix49i => assumption); (case zx49i => omega)); intro t9nq7 j9nq7; (try dsimp only)))
  k_with "x49" => ((k_here; k_dflt (refine' len_ints9 ?Nx49j ?mx49j ?ix49j ?zx49j ?_; (case Nx49j => k_asm); (case mx49j => k_mem); (case ix49j => assumption); (case zx49j => omega)); intro t9nq7 j9nq7; (try dsimp only)))
  k_with "x49" => ((k_here; k_dflt (refine' len_ints9 ?Nx49k ?mx49k ?ix49k ?zx49k ?_; (case Nx49k => k_asm); (case mx49k => k_mem); (case ix49k => assumption); (case zx49k => omega)); intro t9nq7 j9nq7; (try dsimp only)))
  k_with "x49" => ((k_here; k_dflt (refine' len_ints9 ?Nx49l ?mx49l ?ix49l ?zx49l ?_; (case Nx49l => k_asm); (case mx49l => k_mem); (case ix49l => assumption); (case zx49l => omega)); intro t9nq7 j9nq7; (try dsimp only)))
  k_with "x49" => ((k_here; k_dflt (refine' len_ints9 ?Nx49m ?mx49m ?ix49m ?zx49m ?_; (case Nx49m => k_asm); (case mx49m => k_mem); (case ix49m => assumption); (case zx49m => omega)); intro t9nq7 j9nq7; (try dsimp only)))
  k_with "x49" => ((k_here; k_dflt (refine' len_ints9 ?Nx49n ?mx49n ?ix49n ?zx49n ?_; (case Nx49n => k_asm); (case mx49n => k_mem); (case ix49n => assumption); (case zx49n => omega)); intro t9nq7 j9nq7; (try dsimp only)))
  k_with "x49" => ((k_here; k_dflt (refine' len_ints9 ?Nx49o ?mx49o ?ix49o ?zx49o ?_; (case Nx49o => k_asm); (case mx49o => k_mem); (case ix49o => assumption); (case zx49o => omega)); intro t9nq7 j9nq7; (try dsimp only)))
  k_with "x49" => ((k_here; k_dflt (refine' len_ints9 ?Nx49p ?mx49p ?ix49p ?zx49p ?_; (case Nx49p => k_asm); (case mx49p => k_mem); (case ix49p => assumption); (case zx49p => omega)); intro t9nq7 j9nq7; (try dsimp only)))
  k_with "my text" =>
    (rename Fr _ _ _ _ => lF)
    (rename News _ _ _ _ => lN)
    (refine' for_textS (σ := List Value × Nat) (fun c => [(_, W.listOf c.1.toArray c.2), (_, _)]) (fun c => [(Str.ofString "words", .str (textOf cs) t), (Str.ofString "data", .bytes l.toArray t'), (Str.ofString "starts", .ref _)]) (fun i c => IntsAre c.1 (startsN cs i)) ([_], 0) ?hh lF ?kn ?kk ?kf ?step ?done)
    (case hh => rfl)
    (case kn => exact lN)
    (case kk => kst_all)
    (case kf => exact .cons _ _ .nil)
    (case' step =>
      (rintro i9 t9 ⟨vs9, n9⟩ u9 h9 tk9 I9 oI9 hi9 hf9 hne9 F9 N9)
      (try dsimp only at hf9 hne9 F9 N9)
      (obtain ⟨hc0, hc1⟩ := hall _ (getD_mem hi9))
      (have hn1 : @Ne Nat _ _ := hne9 _ (.head _))
      (have hn2 : @Ne Nat _ _ := hne9 _ (.tail _ (.head _)))
      (try dsimp only at hn1 hn2)
      (have hv9 : vs9.length ≤ 100 := by rw [hf9.length, startsN_length]; omega)
      (clear lF lN)
      (try k_fold))
    (case' done =>
      (rintro ⟨vs9, n9⟩ u9 h9 tk9 hf9s F9 N9)
      (try dsimp only at hf9s F9 N9)
      (clear lF lN)
      (try k_fold))
  k_with "my hfor" =>
    (rename Fr _ _ _ _ => lF)
    (with_unfolding_all refine' For_turns (fr_hide lF ((envX cn cs' L a ccd cl :: outer).filterMap (·.frame))) ?_)
    k_whole
  k_with "my for" =>
    (rename Fr _ _ _ _ => lF)
    (rename News _ _ _ _ => lN)
    (rename IsRange _ _ _ _ _ _ _ _ => lR)
    (rename Below _ _ _ _ => lB)
    (refine' for_rangeH (n := l.length + 1) (σ := Obj) (fun c => [(_, W.listOf vs9.toArray n9), (_, c)]) (fun _ => [(Str.ofString "words", .str (textOf cs) t), (Str.ofString "data", .bytes l.toArray t'), (Str.ofString "starts", .ref _)]) (fun _ c => ∃ v, c.data = .cell v) _ ?rhh lR ?rhs ?rhn lB XB TB lF ?rkn ?rkk ?rkf ?rstep ?rdone)
    (case rhh => rfl)
    (case rhs => exact small_one (by omega) (by omega) (by omega) (by omega))
    (case rhn => exact range_cuts l)
    (case rkn => exact lN)
    (case rkk => kst_all)
    (case rkf => exact ⟨_, by assumption⟩)
    (case' rstep =>
      (rintro i9 t9 c9 u9 g9 h9 tk9 I9 oI9 hi9 ⟨v9, hv9⟩ hne9 Tg9 Bg9 Xg9 Tp9 F9 N9)
      (try dsimp only at hne9 F9 N9)
      (rw [Int.zero_add])
      (have hc9 := hcut i9 (by omega))
      (have hn1 : @Ne Nat _ _ := hne9 _ (.head _))
      (have hn2 : @Ne Nat _ _ := hne9 _ (.tail _ (.head _)))
      (try dsimp only at hn1 hn2)
      (clear lF lN lB lR)
      (try k_fold))
    (case' rdone =>
      (rintro c9 u9 g9 h9 tk9 hf9 Tg9 F9 N9)
      (try dsimp only at F9 N9)
      (clear lF lN lB lR)
      (try k_fold))
  k_with "my comp" =>
    (rename Fr _ _ _ _ => lF)
    (rename News _ _ _ _ => lN)
    (refine ints_srcT (fun a => decide (a ≤ (i9 : Int))) lF lN rfl (by k_mem) (by assumption) (by rw [startsN_length]; omega) ?_ ?_)
    (all_goals first
      | (intro j9 u9 I9 oI9 C9 oC9 D9 m9 ys9 h9 tk9 E9 hi9 hC9 hx9 F9 N9 off9 ne9; (have off9' := off9); (simp only [LCg.Off3, and_true] at off9'); (try k_fold))
      | (intro g9 ys9 hys9; (have hys8 : IntsAre ys9 (startsUp cs i9) := hys9); clear hys9; (have hl1 : 1 ≤ (startsUp cs i9).length := hc9.n1); (have hl2 : (startsUp cs i9).length ≤ cs.length + 1 := hc9.n2)))
  k_with "my cend" =>
    (rename News _ _ _ _ => nE)
    (first
      | exact LCg.CompEnd.intro (by assumption) nE _ (by lcg_sub) (by assumption) (by k_mem) ⟨rfl, decide_eq_true (by omega), _, rfl⟩
      | exact LCg.CompEnd.intro (by assumption) nE _ (by lcg_sub) (by assumption) (by k_mem) ⟨rfl, decide_eq_false (by omega)⟩)
  k_with "my start" =>
    (first
      | refine ints_at9 (k := (startsUp cs i9).length - 1) (News.isList (by k_asm) (by k_mem)) (show IntsAre _ (startsN cs cs.length) by assumption) (by omega) (by rw [startsN_length]; omega) (by rw [startsN_length]; omega) ?_
      | (have hl3 := (hc9.blunt (by assumption)).1; have hl4 := (hc9.blunt (by assumption)).2.2.2.2.1; have hl5 := (hc9.blunt (by assumption)).2.2.2.2.2.1; refine ints_at9 (k := (startsUp cs i9).length) (News.isList (by k_asm) (by k_mem)) (show IntsAre _ (startsN cs cs.length) by assumption) (by omega) (by rw [startsN_length]; omega) (by rw [startsN_length]; omega) ?_))
    (intro t9p)
    (rw [startsN_getD cs (by omega)])
    (try dsimp only)
  k_with "my cut" =>
    (first
      | (refine text_to_N (s := ⟨_, _, _, _, _⟩) (k := (startsUp cs i9).length - 1) (by k_asm) (by k_asm) (by omega) (by omega) (by omega) ?_)
      | (refine text_from_N (s := ⟨_, _, _, _, _⟩) (k := (startsUp cs i9).length - 1) (by k_asm) (by k_asm) (by omega) (by omega) (by omega) ?_)
      | (refine text_from_N (s := ⟨_, _, _, _, _⟩) (k := (startsUp cs i9).length) (by k_asm) (by k_asm) (by omega) (by omega) (by omega) ?_))
    (intro h9s t9s j9s F9s N9s)
    (try dsimp only)
  k_with "my add" =>
    (first
      | refine add_text _ [65533] rfl rfl (by rw [List.length_take]; omega) (by decide) ?_
      | refine add_text _ _ rfl rfl (by rw [List.length_replicate]; omega) (by rw [List.length_drop]; omega) ?_)
    (intro t9s j9s)
    (try dsimp only)
  k_with "my mul" =>
    (refine mul_sign 65533 rfl (by omega) (by omega) ?_)
    (intro t9s j9s)
    (try dsimp only)
  k_with "my call" =>
    (first
      | (cell_ask (c_strict_text _ _ _ _ _ isCs_U (by rw [List.length_take]; omega) (hc9.sharp (by assumption)).1); rw [(hc9.sharp (by assumption)).2.2.1])
      | (cell_ask (c_strict_text _ _ _ _ _ isCs_U (by rw [List.length_drop]; omega) (hc9.sharp (by assumption)).2.1); rw [(hc9.sharp (by assumption)).2.2.2])
      | (cell_ask (c_text_in _ (Str.ofString "utf-8") (aheadOf l i9) _ _ isCs_U (by rw [List.length_take]; omega)); rw [(hc9.blunt (by assumption)).2.2.2.1])
      | (cell_ask (c_text_in _ (Str.ofString "utf-8") (behindOf l i9) _ _ isCs_U (by rw [List.length_drop]; omega)); rw [(hc9.blunt (by assumption)).2.2.2.2.2.2])
      | (k_dflt (refine' pcs_use (c_law_refused _ _ (aheadOf l i9) _ _ isCs_U (by rw [List.length_take]; omega)) (by k_asm) (by k_asm) (by k_asm) (by assumption) (by assumption) (by first | exact rfl | assumption) (by k_asm) (by ktr_room) (by ktr_units) ?_); (rintro v9r g9r h9r tk9r T9r B9r X9r P9r F9r N9r ⟨t9r, e9r⟩); subst e9r; rw [(hc9.blunt (by assumption)).2.1])
      | (k_dflt (refine' pcs_use (c_law_refused _ _ (behindOf l i9) _ _ isCs_U (by rw [List.length_drop]; omega)) (by k_asm) (by k_asm) (by k_asm) (by assumption) (by assumption) (by first | exact rfl | assumption) (by k_asm) (by ktr_room) (by ktr_units) ?_); (rintro v9r g9r h9r tk9r T9r B9r X9r P9r F9r N9r ⟨t9r, e9r⟩); subst e9r; rw [(hc9.blunt (by assumption)).2.2.1]))
    (try dsimp only)
  k_with "my hend" =>
    (rename News _ _ _ _ => nE)
    (rename KtsTurn _ _ _ => tE)
    (exact TurnEndH.intro _ c9 tE (by assumption) nE (by k_mem) (List.forall_mem_cons.mpr ⟨by k_mem, List.forall_mem_cons.mpr ⟨by k_mem, List.forall_mem_nil _⟩⟩) (by rfl) hne9 (by kst_all) ⟨_, by assumption⟩)
  k_with "my end" =>
    (rename News _ _ _ _ => nE)
    (try simp only [List.push_toArray] at nE)
    (exact TurnEnd.intro (_, _) (_, _) (by assumption) nE (by k_mem) (List.forall_mem_cons.mpr ⟨by k_mem, List.forall_mem_cons.mpr ⟨by k_mem, List.forall_mem_nil _⟩⟩) (by rfl) hne9 (by kst_all) (by rw [startsN_succ hi9]; exact ints_app hf9 (.cons _ _ .nil)))
  refine wpAny_call ?_
  (refine' code_defUC ?k1 ?k2 ?k3 ?k5 ?kA ?kF ?kK ?k6 ?k7 ?k8 ?k9 ?kB ?kD ?_ ?c2 ?c3 ?c4; (case kA => exact rfl); (case kF => exact rfl); (case kK => assumption); (case k1 => exact B); (case k2 => exact F); (case k3 => exact X); (case k5 => exact T); (case k6 => k_is); (case k7 => k_is); (case k8 => ktr_room); (case k9 => exact BindsTo.of_eq rfl); (case kB => exact rfl); (case kD => decide +kernel); (case c2 => exact rfl); (case c3 => exact rfl); (case c4 => exact rfl); k_whole; intro L1 h1 tk1 cells1 F1 N1 Y1 B1 X1 T1; k_cells Y1; (try simp only [List.cons_append, List.nil_append] at N1); (try dsimp only); (try k_fold))
  clear B F X T
  k_steps
  all_goals first
    | exact absurd (show pre cs cs.length = ((l.toArray.size : Nat) : Int) by rw [List.size_toArray]; exact htot) (by assumption)
    | exact absurd rfl (by assumption : pre cs ((startsUp cs i9).length - 1) ≠ pre cs ((startsUp cs i9).length - 1))
    | exact hret _ _ _ (upf_of_turn (by assumption) (Fr.keep (by assumption))) rfl
end


/-! comprehensions without a test, told by the index -/
noncomputable def EachI (R : Nat → Value → Prop) (ys : List Value) (n : Nat) : Prop := ys.length = n ∧ ∀ i v, ys[i]? = some v → R i v
theorem EachI.nil {R : Nat → Value → Prop} : EachI R [] 0 := ⟨rfl, fun i v h => by simp at h⟩
theorem EachI.snoc {R : Nat → Value → Prop} {ys : List Value} {n : Nat} {v : Value} (h : EachI R ys n) (r : R n v) : EachI R (ys ++ [v]) (n + 1) := by
  refine ⟨by simp [h.1], fun i u hu => ?_⟩
  by_cases hi : i < ys.length
  · rw [List.getElem?_append_left hi] at hu
    exact h.2 i u hu
  · rw [List.getElem?_append_right (by omega)] at hu
    have : i - ys.length = 0 := by
      cases q : i - ys.length with
      | zero => rfl
      | succ k => rw [q] at hu; simp at hu
    rw [this] at hu
    have hv : v = u := by simpa using hu
    have hin : i = n := by have := h.1; omega
    subst hv hin
    exact r
theorem EachI.split {R : Nat → Value → Prop} {ys : List Value} {n : Nat} (h : EachI R ys (n + 1)) : ∃ zs v, ys = zs ++ [v] ∧ EachI R zs n ∧ R n v := by
  obtain ⟨zs, v, rfl⟩ : ∃ zs v, ys = zs ++ [v] := by
    refine ⟨ys.dropLast, ys.getLast (by intro e; rw [e] at h; exact absurd h.1 (by simp)), (List.dropLast_concat_getLast _).symm⟩
  have hz : zs.length = n := by have := h.1; simp at this; exact this
  refine ⟨zs, v, rfl, ⟨hz, fun i u hu => h.2 i u ?_⟩, h.2 n v ?_⟩
  · rw [List.getElem?_append_left (by exact (List.getElem?_eq_some_iff.mp hu).1)]
    exact hu
  · rw [List.getElem?_append_right (by omega), show n - zs.length = 0 by omega]
    rfl
theorem EachI.ints {f : Nat → Int} : ∀ {n : Nat} {ys : List Value}, EachI (fun i v => ∃ u, v = .int (f i) u) ys n → IntsAre ys ((List.range n).map f)
  | 0, ys, h => by
    obtain rfl := List.length_eq_zero_iff.mp h.1
    exact .nil
  | n + 1, ys, h => by
    obtain ⟨zs, v, rfl, h', u, rfl⟩ := h.split
    rw [List.range_succ, List.map_append]
    exact ints_app h'.ints (.cons _ _ .nil)
theorem EachI.strs {f : Nat → Str} : ∀ {n : Nat} {ys : List Value}, EachI (fun i v => ∃ u, v = .str (f i) u) ys n → StrsAre ys ((List.range n).map f)
  | 0, ys, h => by
    obtain rfl := List.length_eq_zero_iff.mp h.1
    exact .nil
  | n + 1, ys, h => by
    obtain ⟨zs, v, rfl, h', u, rfl⟩ := h.split
    rw [List.range_succ, List.map_append]
    exact StrsAre.append' h'.strs (.cons _ _ .nil)
inductive BytesAre : List Value → List (List UInt8) → Prop
  | nil : BytesAre [] []
  | cons (l : List UInt8) (t : Tok) {vs : List Value} {ls : List (List UInt8)} (h : BytesAre vs ls) : BytesAre (.bytes l.toArray t :: vs) (l :: ls)
theorem BytesAre.app {vs ws : List Value} {ls ms : List (List UInt8)} (h : BytesAre vs ls) (g : BytesAre ws ms) : BytesAre (vs ++ ws) (ls ++ ms) := by
  induction h with
  | nil => exact g
  | cons l t _ ih => exact .cons l t ih
theorem EachI.bytes {f : Nat → List UInt8} : ∀ {n : Nat} {ys : List Value}, EachI (fun i v => ∃ u, v = .bytes (f i).toArray u) ys n → BytesAre ys ((List.range n).map f)
  | 0, ys, h => by
    obtain rfl := List.length_eq_zero_iff.mp h.1
    exact .nil
  | n + 1, ys, h => by
    obtain ⟨zs, v, rfl, h', u, rfl⟩ := h.split
    rw [List.range_succ, List.map_append]
    exact h'.bytes.app (.cons _ _ .nil)
theorem range_getD {α β : Type} (l : List α) (d : α) (g : α → β) : (List.range l.length).map (fun i => g (l.getD i d)) = l.map g := by
  refine List.ext_getElem (by simp) fun i h1 h2 => ?_
  simp only [List.getElem_map, List.getElem_range]
  rw [List.getD_eq_getElem?_getD, List.getElem?_eq_getElem (by simpa using h2)]
  rfl
section
variable {prog : Program} {w : World} {A : Around} {s₁ : Shared} {h₀ : Heap} {L : Addr} {m : Str → Option Value} {env : Env}
theorem mapU {elt : Expr} {x : Str} {scope : Scope} {cl : List (Str × Addr)} {Fin : Shared → List Value → List (Addr × Obj) → Prop} {xv : Value} {n : Nat} {P : Nat → Value → Prop} {S : List (Addr × Obj) → Prop} {news : List (Addr × Obj)} (R : Nat → Value → Prop)
    (src : SrcG prog w A h₀ L xv n P S s₁) (F : Fr h₀ L s₁.heap m) (N : News h₀ L s₁.heap news) (hS : S news) (hsz : n ≤ sizeLine)
    (turn : ∀ i v I oI C oC D m₂ ys h tk (E' : Value → Shared → Prop), i < n → P i v → LCg.NsObj oC m₂ → m₂ x = some v → Fr h₀ L h m → News h₀ L h ((I, oI) :: (C, oC) :: (D, LCg.lst ys) :: news) → LCg.Off3 I C D news → ((@Ne Nat I C) ∧ (@Ne Nat I D) ∧ (@Ne Nat C D)) →
      wpAny (model prog w) A (eval elt (compEnvC scope cl C env)) (LCg.CompEnd h₀ L m { s₁ with heap := h, toks := tk } I oI C oC D (LCg.lst ys) S (fun y news' => news' = news ∧ R i y)) E' { s₁ with heap := h, toks := tk })
    (fin : ∀ g ys, EachI R ys n → Fin { s₁ with heap := g } ys news) : CSrcU prog w A h₀ L m env elt x scope cl Fin xv s₁ := by
  refine ⟨n, P, S, news, F, N, hS, hsz, src, fun g => cr_ind (fun i ys nw => nw = news ∧ EachI R ys i) ⟨rfl, .nil⟩ ?_ ?_⟩
  · rintro i v I oI C oC D m₂ ys nw h tk E' hi hP ⟨rfl, hJ⟩ hC hx F N off ne
    refine wpAny_mono (turn i v I oI C oC D m₂ ys h tk E' hi hP hC hx F N off ne) (fun y s₃ hq => ?_) fun _ _ e => e
    obtain ⟨h', tk', nw', e, F', N', off', hS, rfl, hR⟩ := hq
    exact ⟨h', tk', _, e, F', N', off', hS, rfl, hJ.snoc hR⟩
  · rintro ys nw ⟨rfl, hJ⟩
    exact fin g ys hJ
theorem map_text {elt : Expr} {x : Str} {scope : Scope} {cl : List (Str × Addr)} {Fin : Shared → List Value → List (Addr × Obj) → Prop} {cs : List Int} {t : Tok} {news : List (Addr × Obj)} (R : Nat → Value → Prop)
    (F : Fr h₀ L s₁.heap m) (N : News h₀ L s₁.heap news) (hh : A.handled = none) (hsz : cs.length < 1000)
    (turn : ∀ i u I oI C oC D m₂ ys h tk (E' : Value → Shared → Prop), i < cs.length → LCg.NsObj oC m₂ → m₂ x = some (.str (one (cs.getD i 0)) u) → Fr h₀ L h m → News h₀ L h ((I, oI) :: (C, oC) :: (D, LCg.lst ys) :: news) → LCg.Off3 I C D news → ((@Ne Nat I C) ∧ (@Ne Nat I D) ∧ (@Ne Nat C D)) →
      wpAny (model prog w) A (eval elt (compEnvC scope cl C env)) (LCg.CompEnd h₀ L m { s₁ with heap := h, toks := tk } I oI C oC D (LCg.lst ys) (fun _ => True) (fun y news' => news' = news ∧ R i y)) E' { s₁ with heap := h, toks := tk })
    (fin : ∀ g ys, EachI R ys cs.length → Fin { s₁ with heap := g } ys news) : CSrcU prog w A h₀ L m env elt x scope cl Fin (.str (textOf cs) t) s₁ := by
  have src := SrcG.str (prog := prog) (w := w) (A := A) (h₀ := h₀) (L := L) (x := textOf cs) (t := t) (s₁ := s₁) hh
  rw [textOf_size] at src
  refine mapU R src F N trivial (by rw [sizeLine_eq]; omega) ?_ fin
  intro i v I oI C oC D m₂ ys h tk E' hi hv hC hx F N off ne
  obtain ⟨hi', u, rfl⟩ := sign_text hv
  exact turn i u I oI C oC D m₂ ys h tk E' hi' hC hx F N off ne
theorem map_list {elt : Expr} {x : Str} {scope : Scope} {cl : List (Str × Addr)} {Fin : Shared → List Value → List (Addr × Obj) → Prop} {ax : Addr} {its : List Value} {ns : List Int} {k : Nat} {news : List (Addr × Obj)} (R : Nat → Value → Prop)
    (F : Fr h₀ L s₁.heap m) (N : News h₀ L s₁.heap news) (hh : A.handled = none) (hm : (ax, W.listOf its.toArray k) ∈ news) (hi : IntsAre its ns) (hsz : ns.length < 1000)
    (turn : ∀ i u I oI C oC D m₂ ys h tk (E' : Value → Shared → Prop), i < ns.length → LCg.NsObj oC m₂ → m₂ x = some (.int (ns.getD i 0) u) → Fr h₀ L h m → News h₀ L h ((I, oI) :: (C, oC) :: (D, LCg.lst ys) :: news) → LCg.Off3 I C D news → ((@Ne Nat I C) ∧ (@Ne Nat I D) ∧ (@Ne Nat C D)) →
      wpAny (model prog w) A (eval elt (compEnvC scope cl C env)) (LCg.CompEnd h₀ L m { s₁ with heap := h, toks := tk } I oI C oC D (LCg.lst ys) (fun nw => (ax, W.listOf its.toArray k) ∈ nw) (fun y news' => news' = news ∧ R i y)) E' { s₁ with heap := h, toks := tk })
    (fin : ∀ g ys, EachI R ys ns.length → Fin { s₁ with heap := g } ys news) : CSrcU prog w A h₀ L m env elt x scope cl Fin (.ref ax) s₁ := by
  have src := SrcG.list (prog := prog) (w := w) (A := A) (h₀ := h₀) (L := L) (s₁ := s₁) hh N hm
  rw [hi.length] at src
  refine mapU R src F N hm (by rw [sizeLine_eq]; omega) ?_ fin
  intro i v I oI C oC D m₂ ys h tk E' hi' hv hC hx F N off ne
  obtain ⟨u, hu⟩ := hi.get i _ (by rw [List.getElem?_eq_getElem hi'])
  have ev : v = .int (ns.getD i 0) u := by
    have hv' : its.toArray[i]? = some v := hv
    rw [List.getElem?_toArray, hu] at hv'
    rw [List.getD_eq_getElem?_getD, List.getElem?_eq_getElem hi']
    exact (Option.some.inj hv').symm
  subst ev
  exact turn i u I oI C oC D m₂ ys h tk E' hi' hC hx F N off ne
theorem map_range {elt : Expr} {x : Str} {scope : Scope} {cl : List (Str × Addr)} {Fin : Shared → List Value → List (Addr × Obj) → Prop} {r : Addr} {b : Int} {t u v : Tok} {n : Nat} {news : List (Addr × Obj)} (R : Nat → Value → Prop)
    (F : Fr h₀ L s₁.heap m) (N : News h₀ L s₁.heap news) (hh : A.handled = none) (hr : IsRange s₁.heap r 0 b 1 t u v) (hb : b = (n : Int)) (hsz : n < 1000)
    (turn : ∀ i u I oI C oC D m₂ ys h tk (E' : Value → Shared → Prop), i < n → LCg.NsObj oC m₂ → m₂ x = some (.int (i : Int) u) → Fr h₀ L h m → News h₀ L h ((I, oI) :: (C, oC) :: (D, LCg.lst ys) :: news) → LCg.Off3 I C D news → ((@Ne Nat I C) ∧ (@Ne Nat I D) ∧ (@Ne Nat C D)) →
      wpAny (model prog w) A (eval elt (compEnvC scope cl C env)) (LCg.CompEnd h₀ L m { s₁ with heap := h, toks := tk } I oI C oC D (LCg.lst ys) (fun _ => True) (fun y news' => news' = news ∧ R i y)) E' { s₁ with heap := h, toks := tk })
    (fin : ∀ g ys, EachI R ys n → Fin { s₁ with heap := g } ys news) : CSrcU prog w A h₀ L m env elt x scope cl Fin (.ref r) s₁ := by
  subst hb
  refine mapU R (SrcG.range hh hr (small_one (by omega) (by omega) (by omega) (by omega)) (n := n) (by rw [rangeSize_nat]; omega)) F N trivial (by rw [sizeLine_eq]; omega) ?_ fin
  rintro i v I oI C oC D m₂ ys h tk E' hi ⟨u, rfl⟩ hC hx F N off ne
  exact turn i u I oI C oC D m₂ ys h tk E' hi hC (by rw [hx, Int.zero_add]) F N off ne
/-- the draws of the signs: the pen's entry changes from turn to turn -/
theorem draw_range {elt : Expr} {x : Str} {scope : Scope} {cl : List (Str × Addr)} {Fin : Shared → List Value → List (Addr × Obj) → Prop} {r : Addr} {b : Int} {t u v : Tok} {n : Nat} (nwOf : Int × Tok × Int × Tok → List (Addr × Obj)) (c₀ : Int × Tok × Int × Tok) (menu : List Int)
    (F : Fr h₀ L s₁.heap m) (N : News h₀ L s₁.heap (nwOf c₀)) (hh : A.handled = none) (hr : IsRange s₁.heap r 0 b 1 t u v) (hb : b = (n : Int)) (hsz : n < 100) (hx0 : 0 ≤ c₀.1) (hx1 : c₀.1 ≤ 100) (hy0 : 0 ≤ c₀.2.2.1)
    (turn : ∀ i u I oI C oC D m₂ ys x₁ t₁ y₁ u₁ h tk (E' : Value → Shared → Prop), i < n → 0 ≤ x₁ → x₁ ≤ 1000 → 0 ≤ y₁ → LCg.NsObj oC m₂ → m₂ x = some (.int (i : Int) u) → Fr h₀ L h m → News h₀ L h ((I, oI) :: (C, oC) :: (D, LCg.lst ys) :: nwOf (x₁, t₁, y₁, u₁)) → LCg.Off3 I C D (nwOf (x₁, t₁, y₁, u₁)) → ((@Ne Nat I C) ∧ (@Ne Nat I D) ∧ (@Ne Nat C D)) →
      wpAny (model prog w) A (eval elt (compEnvC scope cl C env)) (LCg.CompEnd h₀ L m { s₁ with heap := h, toks := tk } I oI C oC D (LCg.lst ys) (fun _ => True) (fun y news' => ∃ x₂ t₂ y₂ u₂, news' = nwOf (x₂, t₂, y₂, u₂) ∧ 0 ≤ x₂ ∧ x₂ ≤ x₁ + 1 ∧ 0 ≤ y₂ ∧ ∃ k u, k ∈ menu ∧ y = .int k u)) E' { s₁ with heap := h, toks := tk })
    (fin : ∀ g ys cs x₂ t₂ y₂ u₂, IntsAre ys cs → cs.length = n → (∀ k ∈ cs, k ∈ menu) → Fin { s₁ with heap := g } ys (nwOf (x₂, t₂, y₂, u₂))) : CSrcU prog w A h₀ L m env elt x scope cl Fin (.ref r) s₁ := by
  subst hb
  refine ⟨n, _, _, nwOf c₀, F, N, trivial, by rw [sizeLine_eq]; omega, SrcG.range hh hr (small_one (by omega) (by omega) (by omega) (by omega)) (n := n) (by rw [rangeSize_nat]; omega), fun g => cr_ind (fun i ys nw => ∃ x₁ t₁ y₁ u₁ cs, nw = nwOf (x₁, t₁, y₁, u₁) ∧ 0 ≤ x₁ ∧ x₁ ≤ 100 + i ∧ 0 ≤ y₁ ∧ IntsAre ys cs ∧ cs.length = i ∧ ∀ k ∈ cs, k ∈ menu) ⟨c₀.1, c₀.2.1, c₀.2.2.1, c₀.2.2.2, [], rfl, hx0, by omega, hy0, .nil, rfl, fun _ h => nomatch h⟩ ?_ ?_⟩
  · rintro i v I oI C oC D m₂ ys nw h tk E' hi ⟨u, rfl⟩ ⟨x₁, t₁, y₁, u₁, cs, rfl, a1, a2, a3, hI, hl, hm⟩ hC hx F N off ne
    refine wpAny_mono (turn i u I oI C oC D m₂ ys x₁ t₁ y₁ u₁ h tk E' hi a1 (by omega) a3 hC (by rw [hx, Int.zero_add]) F N off ne) (fun y s₃ hq => ?_) fun _ _ e => e
    obtain ⟨h', tk', nw', e, F', N', off', hS, x₂, t₂, y₂, u₂, rfl, b1, b2, b3, k, u', hk, rfl⟩ := hq
    refine ⟨h', tk', _, e, F', N', off', hS, x₂, t₂, y₂, u₂, cs ++ [k], rfl, b1, by push_cast; omega, b3, ints_app hI (.cons _ _ .nil), by simp [hl], ?_⟩
    intro k' hk'
    rcases List.mem_append.mp hk' with q | q
    · exact hm k' q
    · rw [List.mem_singleton.mp q]; exact hk
  · rintro ys nw ⟨x₁, t₁, y₁, u₁, cs, rfl, _, _, _, hI, hl, hm⟩
    exact fin g ys cs x₁ t₁ y₁ u₁ hI hl hm
end
section
variable {prog : Program} {w : World} {A : Around} {E : Value → Shared → Prop} {s : Shared} {h₀ : Heap} {L : Addr} {m : Str → Option Value} {env : Env}
theorem lcAU {elt iter : Expr} {x y : Str} {px py : Pos} {scope : Scope} {cl : List (Str × Addr)} {pos spos : Pos} {Q : Flow → Shared → Prop} (_F₀ : Fr h₀ L s.heap m) (hLe : env.locals = L)
    (hsw : swapsWith (.ListComp elt [⟨.Name x px, iter, [], 0⟩] scope pos) (some (.Name y py)) spos.line env = pure true)
    (hclos : closureFor scope env = pure cl) (hcell : ∀ z ∈ scope.names, z.2 ≠ .cell) (hkind : scope.kind = .function)
    (hnames : ∀ z ∈ scope.names, z.2 = .local → scope.names.lookup z.1 = some .local) (hx : scope.names.lookup x = some .local)
    (hy : env.kindOf y = some .local) (hp : (env.scope.kind == .class || (env.scope.kind == .module && env.locals != env.globals)) = false)
    (h : wpAny (model prog w) A (eval iter env) (CSrcU prog w A h₀ L m env elt x scope cl (fun s₂ => LCg.FinA h₀ L m s₂ y Q)) E s)
    (hs : ∀ x, foldedSetIterable iter env x = pure x := by intro _; rfl) :
    wpAny (model prog w) A (exec (.Assign [.Name y py] (.ListComp elt [⟨.Name x px, iter, [], 0⟩] scope pos) spos) env) Q E s := by
  subst hLe
  rw [exec_Assign_Name_used _ _ _ _ hsw]
  refine wpAny_bind (wpAny_standAt (wpAny_bind ?_))
  show wpAny _ A (do let _ ← comprehension (.ListComp elt [⟨.Name x px, iter, [], 0⟩] scope pos) scope env _ (newList []) false (eval iter env) (some (assign (.Name y py) env))) _ _ s
  refine wpAny_bind (wpAny_mono (wpAny_comprehension_free (use := some (assign (.Name y py) env)) (Q := fun _ s' => Q .next s') rfl hs hclos hkind hnames
    (wpAny_mono h (fun xv s₁ h₁ => ?_) fun _ _ e => e)) (fun _ s' hq => wpAny_pure (wpAny_pure hq)) fun _ _ e => e)
  obtain ⟨n, P, S, news, F, N, hS, hsz, src, R⟩ := h₁
  refine src _ _ fun o fp St W hIo hSt hst hfp => ?_
  have up : ∀ b o', s₁.heap.get? b = some o' → (s₁.heap.push o).get? b = some o' := fun b o' e => Heap.get?_push_of_some _ e
  refine LCg.block_U W hsz hIo hSt hcell hkind hx hst (fun b hb => ?_) (F.keeps up) (N.grown up) (Nat.ne_of_lt F.ns.lt) (next_is_new F) (fun p hp => Nat.ne_of_lt (Heap.lt_size (N p hp).1)) hS (R _) ?_
  · show b < (s₁.heap.push _).objs.size
    rw [Heap.size_push]
    exact Nat.lt_succ_of_le (hfp b hb)
  · intro D C h' tk m' ys news' F' N' o1 hn hC₀ hD₀ hCL hDL hCD offC fin
    show wpAny _ A (assign (.Name y py) env (.ref D)) _ _ _
    refine wpAny_assign_Name (wpAny_storeName_local hy F'.ns (fun h₂ hn₂ hs₂ => ?_) hp)
    have hL₀ : h₀.get? env.locals = none := Heap.get?_none_of_le F'.above
    have F₂ : Fr h₀ env.locals h₂ (fun z => if z = y then some (.ref D) else m z) := ⟨hn₂, fun b o e => hs₂.extBut b o (fun q => by rw [q, hL₀] at e; cases e) (F'.keep b o e), F'.above⟩
    refine ⟨m', hn.sameBut hs₂ hCL, fun h'' hs'' => fin D h'' _ (F₂.change hs'' hCL hC₀) (fun p hp => ?_) o1⟩
    have z : h₂.get? p.1 = some p.2 := hs₂.extBut _ _ (N' p hp).2.1 (N' p hp).1
    refine ⟨hs''.extBut _ _ ?_ z, (N' p hp).2⟩
    rcases List.mem_cons.mp hp with rfl | hp
    · exact Ne.symm hCD
    · exact offC p hp
end


theorem iteY {c : Prop} [Decidable c] {X Y : Prop} (hc : c) (h : X) : if c then X else Y := by
  rw [if_pos hc]
  exact h
theorem iteN {c : Prop} [Decidable c] {X Y : Prop} (hc : ¬ c) (h : Y) : if c then X else Y := by
  rw [if_neg hc]
  exact h
section
open Builtin
theorem slot_bjoin : Slot "bytes" "join" "bytes.join" :=
  .of (owner := "bytes") (n := "join") (by rw [typeLookup_type, builtinLookup_eq_fast]; kernel_rfl) (by decide +kernel) (by decide +kernel) (by decide +kernel)
    (by first | exact .inl (by decide +kernel) | exact .inr (by decide +kernel)) (by rw [isSubtype_type]; kernel_rfl)
theorem type_bjoin : typeOf (.builtin "bytes.join") = pure (.type "method_descriptor") := by show builtinType _ = _; rw [builtinType_eq_fast]; kernel_rfl
theorem entry_bjoin : entryFor table "bytes.join" = some Builtin.«bytes.join» := entryFor_of_tree (by kernel_rfl)
theorem args_bjoin (a b : Value) : argsOk "bytes.join" ⟨[a, b], []⟩ := by
  unfold argsOk; rw [signature?_of (id := "bytes.join") (n := ['n', 'i', 'o', 'j']) (o := ['s', 'e', 't', 'y', 'b']) (by kernel_rfl) FB.owner_bytes]; kernel_rfl
theorem take_eq {id : String} {b : Array UInt8} {t : Tok} : Bytes.takeBufferQuiet? id (.bytes b t) 0 = pure (some (b, none)) := by
  have e : ((0 : Int) == Bytes.fullReadOnly) = false := by decide
  unfold Bytes.takeBufferQuiet? Bytes.takeBuffer?
  rw [KBy.special_eq KBy.look_buffer, KBy.own_buffer, e, KBy.buffer_eq]
  rfl
theorem gm_bjoin {M : Model} {A : Around} {E : Value → Shared → Prop} {s : Shared} {b : Array UInt8} {t : Tok} {pl : Sem Bool} {Q : Value × List Value → Shared → Prop} (h : Q (.builtin "bytes.join", [.bytes b t]) s) : wpAny M A (getMethod (.bytes b t) "join" pl) Q E s := by
  with_reducible exact KBd.method_of (.bytes b t) (typeIs_bytes _ _ _) slot_bjoin type_bjoin KBd.noRef h
theorem BytesAre.len {vs : List Value} {ls : List (List UInt8)} (h : BytesAre vs ls) : vs.length = ls.length := by
  induction h with
  | nil => rfl
  | cons l t _ ih => simp [ih]
theorem BytesAre.get {vs : List Value} {ls : List (List UInt8)} (h : BytesAre vs ls) : ∀ (i : Nat) (hi : i < ls.length), ∃ t, vs.toArray.getD i .none = .bytes (ls[i]).toArray t := by
  induction h with
  | nil => intro i hi; exact absurd hi (Nat.not_lt_zero _)
  | cons l t h ih =>
    intro i hi
    cases i with
    | zero => exact ⟨t, rfl⟩
    | succ i =>
      obtain ⟨t', e⟩ := ih i (by simpa using hi)
      refine ⟨t', ?_⟩
      simpa [Array.getD] using e
theorem joined_flat (ls : List (List UInt8)) : Bytes.joined #[] (ls.map List.toArray) = ls.flatten.toArray := by
  have key : ∀ (ls : List (List UInt8)) (k : Nat) (out : Array UInt8), ((ls.map List.toArray).zipIdx k).foldl (fun out (x : Array UInt8 × Nat) => (if x.2 > 0 then out ++ (#[] : Array UInt8) else out) ++ x.1) out = out ++ ls.flatten.toArray := by
    intro ls
    induction ls with
    | nil => intro k out; simp
    | cons l r ih =>
      intro k out
      rw [List.map_cons, List.zipIdx_cons, List.foldl_cons, ih]
      have e : (if k > 0 then out ++ (#[] : Array UInt8) else out) = out := by split <;> simp
      rw [e]
      simp
  have := key ls 0 #[]
  simpa [Bytes.joined] using this
theorem fold_size (ls : List (List UInt8)) : ∀ (k : Nat), ((ls.map List.toArray).toArray).foldl (fun n (x : Array UInt8) => n + x.size) k = k + ls.flatten.length := by
  induction ls with
  | nil => intro k; simp
  | cons l r ih =>
    intro k
    have := ih (k + l.length)
    simp at this ⊢
    rw [this]
    omega
theorem wp_joinLetGo {M : Model} {A : Around} {E : Value → Shared → Prop} {s : Shared} {Q : Unit → Shared → Prop} (h : Q () s) : ∀ (taken : List (Value × Option Value)) (keep : List Value), (∀ x ∈ taken, x.2 = none) → wpAny M A (Bytes.joinLetGo taken keep) Q E s := by
  intro taken
  induction taken with
  | nil => intro keep _; exact wpAny_pure h
  | cons x r ih =>
    intro keep hn
    obtain ⟨v, wv⟩ := x
    have e : wv = none := hn _ (.head _)
    subst e
    unfold Bytes.joinLetGo
    refine wpAny_bind (wpAny_letGo ?_)
    exact ih keep fun x hx => hn x (.tail _ hx)
theorem meets_bjoin {D : Addr} {vs : List Value} {ls : List (List UInt8)} {t : Tok} (hi : BytesAre vs ls) (hz : ls.flatten.length < 10000) :
    Meets («bytes.join» ⟨[.bytes #[] t, .ref D], []⟩) (fun _ R s => s.heap.IsList D vs.toArray ∧ ∀ t' k, R (.ok (.ret (.bytes ls.flatten.toArray t'))) { s with toks := k }) := by
  refine .of_wp fun prog w A R s hS => ?_
  obtain ⟨⟨o, ho, hc, n, hd⟩, h⟩ := hS
  have hT : s.TypeIs (.ref D) "list" := ⟨o, ho, hc⟩
  show wpAny _ _ (Bytes.joinM .bytes ⟨[.bytes #[] t, .ref D], []⟩) _ _ s
  unfold Bytes.joinM
  refine wpAny_bind (wpAny_of_eq (a := (.bytes #[] t, .ref D)) rfl ?_)
  dsimp only
  refine wpAny_bind ?_
  k_fold
  unfold Bytes.joinItems
  refine wpAny_bind (wpAny_typeOf hT ?_)
  refine wpAny_ite (if_pos (show ((Value.type "list" == Value.type "list" || Value.type "list" == Value.type "tuple") = true) by decide) ▸ ?_)
  refine wpAny_pure ?_
  k_unfold
  refine wpAny_bind ?_
  k_fold
  show wpAny _ _ (load D >>= fun r => _) _ _ s
  refine wpAny_bind (wpAny_load ho ?_)
  rw [hd]
  refine wpAny_pure ?_
  k_unfold
  dsimp only
  refine wpAny_ite (iteY (by decide) ?_)
  have hl : s.heap.get? D = some o := ho
  have go : ∀ (F : Value → Sem Fin) (G : Sem Fin) , wpAny (model prog w) A.in1 G (fun fin s' => ∃ v, fin = Fin.done (Flow.ret v) ∧ R (Except.ok (Flow.ret v)) s') (fun e s' => R (Except.error e) s') s →
      (∀ l t', vs = [.bytes l t'] → wpAny (model prog w) A.in1 (F (.bytes l t')) (fun fin s' => ∃ v, fin = Fin.done (Flow.ret v) ∧ R (Except.ok (Flow.ret v)) s') (fun e s' => R (Except.error e) s') s) →
      wpAny (model prog w) A.in1 (match vs.toArray with | #[x] => F x | _ => G) (fun fin s' => ∃ v, fin = Fin.done (Flow.ret v) ∧ R (Except.ok (Flow.ret v)) s') (fun e s' => R (Except.error e) s') s := by
    intro F G h1 h2
    cases hi with
    | nil => exact h1
    | cons l t' hr =>
      cases hr with
      | nil => exact h2 _ _ rfl
      | cons l' t'' hr => exact h1
  refine go _ _ ?_ ?_
  · refine wpAny_bind ?_
    rw [Std.Legacy.Range.forIn_eq_forIn_range']
    have hlen := hi.len
    have hsz : List.range' [:vs.toArray.size].start [:vs.toArray.size].size [:vs.toArray.size].step = List.range' 0 ls.length 1 := by
      rw [← hlen]
      simp [Std.Legacy.Range.size]
    rw [hsz]
    refine wpAny_forIn_list _ (fun rest b s' => s' = s ∧ ∃ i, rest = List.range' i (ls.length - i) 1 ∧ i ≤ ls.length ∧ b.1 = ((ls.take i).map List.toArray).toArray ∧ ∀ x ∈ b.2, x.1.onHeap = false ∧ x.2 = none) _ ?_ ?_ _ _ ⟨rfl, 0, by simp, Nat.zero_le _, by simp, fun _ hx => nomatch hx⟩
    · rintro x rest ⟨b1, b2⟩ s' ⟨rfl, i, hr, hi', hb, ht⟩
      dsimp only at hb ht
      have hlt : i < ls.length := by
        cases q : ls.length - i with
        | zero => rw [q] at hr; simp at hr
        | succ k => omega
      have hr' : List.range' i (ls.length - i) 1 = i :: List.range' (i + 1) (ls.length - (i + 1)) 1 := by
        rw [show ls.length - i = (ls.length - (i + 1)) + 1 by omega, List.range'_succ]
      rw [hr'] at hr
      obtain ⟨rfl, rfl⟩ := List.cons.inj hr
      obtain ⟨t', hg⟩ := hi.get x hlt
      have hany : (b2.any fun x => x.1.onHeap) = false := List.any_eq_false.mpr fun x hx => by rw [(ht x hx).1]; decide
      refine wpAny_bind ?_
      k_fold
      show wpAny _ _ (load D >>= fun r => _) _ _ s'
      refine wpAny_bind (wpAny_load ho ?_)
      rw [hd]
      refine wpAny_pure ?_
      k_unfold
      dsimp only
      rw [hg]
      refine wpAny_ite (iteN (by rw [hany]; decide) ?_)
      refine wpAny_bind (wpAny_holding (wpAny_of_eq take_eq ?_))
      dsimp only
      refine wpAny_bind ?_
      k_fold
      show wpAny _ _ (load D >>= fun r => _) _ _ s'
      refine wpAny_bind (wpAny_load ho ?_)
      rw [hd]
      refine wpAny_pure ?_
      k_unfold
      dsimp only
      refine wpAny_ite (iteN (by simp) ?_)
      refine wpAny_pure ?_
      refine ⟨rfl, x + 1, rfl, hlt, ?_, ?_⟩
      · dsimp only
        rw [hb, show ls.take (x + 1) = ls.take x ++ [ls[x]] by rw [List.take_add_one, List.getElem?_eq_getElem hlt]; rfl, List.map_append]
        simp only [List.push_toArray, List.map_cons, List.map_nil]
      · intro y hy
        rcases List.mem_append.mp hy with q | q
        · exact ht y q
        · rw [List.mem_singleton.mp q]; exact ⟨rfl, rfl⟩
    · rintro ⟨b1, b2⟩ s' ⟨rfl, i, hr, hi', hb, ht⟩
      dsimp only at hb ht
      have hin : i = ls.length := by
        cases q : ls.length - i with
        | zero => omega
        | succ k => rw [q, List.range'_succ] at hr; cases hr
      subst hin
      rw [List.take_length] at hb
      subst hb
      refine wpAny_bind (wpAny_of_eq (a := (#[] : Array UInt8)) rfl ?_)
      refine wpAny_ite (iteN (by
        rw [fold_size, KBy.tooLong_not (by rw [show (#[] : Array UInt8).size = 0 from rfl, Nat.zero_mul]; omega)]
        decide) ?_)
      refine wpAny_bind ?_
      show wpAny _ _ (mkBytes _) _ _ s'
      rw [show (((ls.map List.toArray).toArray).toList) = ls.map List.toArray from rfl, joined_flat]
      refine wpAny_mkBytes ?_ (by rw [List.size_toArray, sizeLine_eq]; omega)
      refine wpAny_bind (wpAny_holding (wpAny_point ?_))
      refine wpAny_bind (wp_joinLetGo ?_ _ _ fun x hx => (ht x hx).2)
      exact wpAny_pure ⟨_, rfl, h _ _⟩
  · intro l t' hv
    subst hv
    cases hi with
    | cons l t' hr =>
      cases hr
      refine wpAny_bind (wpAny_typeOf (typeIs_bytes _ _ _) ?_)
      refine wpAny_ite (iteY (by decide) ?_)
      refine wpAny_bind (wpAny_rule ?_)
      refine wpAny_pure ⟨_, rfl, ?_⟩
      have := h t' s.toks
      simpa using this
theorem call_bjoin {prog : Program} {w : World} {A : Around} {E : Value → Shared → Prop} {s : Shared} {D : Addr} {vs : List Value} {ls : List (List UInt8)} {t : Tok} {Q : Value → Shared → Prop} (hl : s.heap.IsList D vs.toArray) (hi : BytesAre vs ls) (hz : ls.flatten.length < 10000)
    (h : ∀ t' k, Q (.bytes ls.flatten.toArray t') { s with toks := k }) : wpAny (model prog w) A (call (.builtin "bytes.join") [.bytes #[] t, .ref D]) Q E s :=
  call_meets slot_bjoin (typeIs_bytes _ _ _) entry_bjoin (args_bjoin _ _) (meets_bjoin hi hz) ⟨hl, h⟩
end


/-! the plain law: what is read of octets that were written -/
noncomputable def menuL : List Int := [65, 127, 128, 233, 255, 256, 2047, 2048, 55295, 57344, 65533, 65536, 1114111, 10]
theorem menu_facts : ∀ k ∈ menuL, (0 ≤ k ∧ k ≤ 1114111) ∧ (0 ≤ k ∧ hasSign sU k = true) ∧ (0 ≤ k ∧ 0 < u8len k) ∧ u8len k = lawSize k := by decide +kernel
noncomputable abbrev encB (k : Int) : List UInt8 := toB (encL k)
noncomputable def E8 (cs : List Int) : List UInt8 := toB (encAll true cs)
theorem E8_nil : E8 [] = [] := rfl
theorem E8_cons (c : Int) (r : List Int) : E8 (c :: r) = encB c ++ E8 r := by simp [E8, encB, toB, encAll]
theorem E8_append (a b : List Int) : E8 (a ++ b) = E8 a ++ E8 b := by simp [E8, toB, encAll]
theorem bAt_app (a r : List UInt8) (j : Int) (hj : 0 ≤ j) : bAt (a ++ r) (a.length + j) = bAt r j := by
  unfold bAt
  rw [List.getD_eq_getElem?_getD, List.getD_eq_getElem?_getD, List.getElem?_append_right (by omega), show ((a.length : Int) + j).toNat - a.length = j.toNat by omega]
theorem bAt_pre (p r : List UInt8) (j : Int) (h0 : 0 ≤ j) (hj : j < p.length) : bAt (p ++ r) j = bAt p j := by
  unfold bAt
  rw [List.getD_eq_getElem?_getD, List.getD_eq_getElem?_getD, List.getElem?_append_left (by omega)]
theorem okAt_app (a r : List UInt8) (j lo hi : Int) (hj : 0 ≤ j) : okAt (a ++ r) (a.length + j) lo hi ↔ okAt r j lo hi := by
  unfold okAt
  rw [bAt_app a r j hj, List.length_append]
  push_cast
  constructor <;> (rintro ⟨h1, h2, h3⟩; exact ⟨by omega, h2, h3⟩)
theorem decAt_app (a r : List UInt8) : decAt (a ++ r) a.length = decAt r 0 := by
  have e0 : bAt (a ++ r) (a.length : Int) = bAt r 0 := by have := bAt_app a r 0 (by omega); rwa [Int.add_zero] at this
  have e1 := bAt_app a r 1 (by omega)
  have e2 := bAt_app a r 2 (by omega)
  have e3 := bAt_app a r 3 (by omega)
  unfold decAt
  simp only [e0, e1, e2, e3, okAt_app a r _ _ _ (show (0 : Int) ≤ 1 by decide), okAt_app a r _ _ _ (show (0 : Int) ≤ 2 by decide), okAt_app a r _ _ _ (show (0 : Int) ≤ 3 by decide), Int.zero_add]
theorem signAt_app (x : Str) (a r : List UInt8) : signAt x (a ++ r) a.length = signAt x r 0 := by
  have e0 : bAt (a ++ r) (a.length : Int) = bAt r 0 := by have := bAt_app a r 0 (by omega); rwa [Int.add_zero] at this
  unfold signAt
  rw [decAt_app, e0]
/-- from a place on: what is behind it alone counts, and the fuel does not -/
theorem signs_at (x : Str) : ∀ (f : Nat) (a r : List UInt8) (g : Nat), r.length ≤ f → r.length ≤ g → signsFrom x (a ++ r) f a.length = signsFrom x r g 0
  | 0, a, r, g, hf, hg => by
    have hr : r = [] := List.length_eq_zero_iff.mp (by omega)
    subst hr
    cases g with
    | zero => rfl
    | succ g => rw [signsFrom, signsFrom, if_neg (by simp)]
  | f + 1, a, r, g, hf, hg => by
    rw [signsFrom]
    by_cases hr : r.length = 0
    · have hr : r = [] := List.length_eq_zero_iff.mp hr
      subst hr
      rw [if_neg (by simp)]
      cases g with
      | zero => rfl
      | succ g => rw [signsFrom, if_neg (by simp)]
    · obtain ⟨g, rfl⟩ : ∃ k, g = k + 1 := ⟨g - 1, by omega⟩
      have c1 : (a.length : Int) < ((a ++ r).length : Nat) := by rw [List.length_append]; push_cast; omega
      have c2 : (0 : Int) < (r.length : Nat) := by omega
      rw [if_pos c1, signsFrom, if_pos c2, signAt_app]
      refine congrArg _ ?_
      have hb := signAt_bounds x r 0
      obtain ⟨n, hn⟩ : ∃ n : Nat, (signAt x r 0).2 = (n : Int) := ⟨(signAt x r 0).2.toNat, by omega⟩
      rw [hn]
      by_cases hle : n ≤ r.length
      · have e1 : a ++ r = (a ++ r.take n) ++ r.drop n := by rw [List.append_assoc, List.take_append_drop]
        have e2 : (a.length : Int) + n = ((a ++ r.take n).length : Int) := by rw [List.length_append, List.length_take, Nat.min_eq_left hle]; push_cast; rfl
        rw [e1, e2, signs_at x f _ _ g (by rw [List.length_drop]; omega) (by rw [List.length_drop]; omega)]
        have e3 : r = r.take n ++ r.drop n := (List.take_append_drop n r).symm
        have e4 : (0 : Int) + n = ((r.take n).length : Int) := by rw [List.length_take, Nat.min_eq_left hle]; omega
        conv => rhs; rw [e3, e4]
        rw [signs_at x g (r.take n) (r.drop n) g (by rw [List.length_drop]; omega) (by rw [List.length_drop]; omega)]
      · cases f with
        | zero =>
          cases g with
          | zero => rfl
          | succ g => rw [signsFrom, signsFrom, if_neg (by omega)]
        | succ f =>
          rw [signsFrom, if_neg (by rw [List.length_append]; push_cast; omega)]
          cases g with
          | zero => rfl
          | succ g => rw [signsFrom, if_neg (by omega)]
theorem bad_at (x : Str) : ∀ (f : Nat) (a r : List UInt8) (g : Nat), r.length ≤ f → r.length ≤ g → badFrom x (a ++ r) f a.length = if badFrom x r g 0 = -1 then -1 else a.length + badFrom x r g 0
  | 0, a, r, g, hf, hg => by
    have hr : r = [] := List.length_eq_zero_iff.mp (by omega)
    subst hr
    cases g with
    | zero => rfl
    | succ g =>
      have e : badFrom x [] (g + 1) 0 = -1 := by rw [badFrom, if_neg (by simp)]
      rw [badFrom, e, if_pos rfl]
  | f + 1, a, r, g, hf, hg => by
    rw [badFrom]
    by_cases hr : r.length = 0
    · have hr : r = [] := List.length_eq_zero_iff.mp hr
      subst hr
      have e : badFrom x [] g 0 = -1 := by
        cases g with
        | zero => rfl
        | succ g => rw [badFrom, if_neg (by simp)]
      rw [if_neg (by simp), e, if_pos rfl]
    · obtain ⟨g, rfl⟩ : ∃ k, g = k + 1 := ⟨g - 1, by omega⟩
      rw [if_pos (by rw [List.length_append]; push_cast; omega), signAt_app]
      have eg : badFrom x r (g + 1) 0 = if (signAt x r 0).1 < 0 then 0 else badFrom x r g (0 + (signAt x r 0).2) := by rw [badFrom, if_pos (by omega)]
      rw [eg]
      by_cases hc : (signAt x r 0).1 < 0
      · rw [if_pos hc, if_pos hc, if_neg (by decide)]; omega
      · rw [if_neg hc, if_neg hc]
        have hb := signAt_bounds x r 0
        obtain ⟨n, hn⟩ : ∃ n : Nat, (signAt x r 0).2 = (n : Int) := ⟨(signAt x r 0).2.toNat, by omega⟩
        rw [hn]
        by_cases hle : n ≤ r.length
        · have e1 : a ++ r = (a ++ r.take n) ++ r.drop n := by rw [List.append_assoc, List.take_append_drop]
          have e2 : (a.length : Int) + n = ((a ++ r.take n).length : Int) := by rw [List.length_append, List.length_take, Nat.min_eq_left hle]; push_cast; rfl
          have e3 : r = r.take n ++ r.drop n := (List.take_append_drop n r).symm
          have e4 : (0 : Int) + n = ((r.take n).length : Int) := by rw [List.length_take, Nat.min_eq_left hle]; omega
          have k1 := bad_at x f (a ++ r.take n) (r.drop n) g (by rw [List.length_drop]; omega) (by rw [List.length_drop]; omega)
          have k2 := bad_at x g (r.take n) (r.drop n) g (by rw [List.length_drop]; omega) (by rw [List.length_drop]; omega)
          rw [← e1, ← e2] at k1
          rw [← e3, ← e4] at k2
          rw [k1, k2]
          have hneg : badFrom x (r.drop n) g 0 = -1 ∨ 0 ≤ badFrom x (r.drop n) g 0 := by
            have : ∀ (g : Nat) (l : List UInt8) (i : Int), 0 ≤ i → badFrom x l g i = -1 ∨ 0 ≤ badFrom x l g i := by
              intro g
              induction g with
              | zero => intro l i _; exact .inl rfl
              | succ g ih =>
                intro l i hi
                rw [badFrom]
                split
                · split
                  · exact .inr hi
                  · have := signAt_bounds x l i
                    exact ih l _ (by omega)
                · exact .inl rfl
            exact this g _ 0 (by omega)
          rcases hneg with h | h
          · rw [h]; simp
          · rw [if_neg (by omega), if_neg (by omega), if_neg (by omega)]; omega
        · have e5 : badFrom x r g (0 + (n : Int)) = -1 := by
            cases g with
            | zero => rfl
            | succ g => rw [badFrom, if_neg (by omega)]
          rw [e5, if_pos rfl]
          cases f with
          | zero => rfl
          | succ f => rw [badFrom, if_neg (by rw [List.length_append]; push_cast; omega)]
theorem bad_sign (x : Str) : ∀ (g : Nat) (l : List UInt8) (i : Int), 0 ≤ i → badFrom x l g i = -1 ∨ 0 ≤ badFrom x l g i := by
  intro g
  induction g with
  | zero => intro l i _; exact .inl rfl
  | succ g ih =>
    intro l i hi
    rw [badFrom]
    split
    · split
      · exact .inr hi
      · have := signAt_bounds x l i
        exact ih l _ (by omega)
    · exact .inl rfl
noncomputable abbrev S8 (x : Str) (l : List UInt8) : List Int := signsFrom x l l.length 0
noncomputable abbrev B8 (x : Str) (l : List UInt8) : Int := badFrom x l l.length 0
theorem S8_step (x : Str) (p r : List UInt8) (hp : 0 < p.length) (c : Int) (h : signAt x (p ++ r) 0 = (c, (p.length : Int))) : S8 x (p ++ r) = (if 0 ≤ c then c else 65533) :: S8 x r := by
  unfold S8
  obtain ⟨g, hg⟩ : ∃ g, (p ++ r).length = g + 1 := ⟨p.length + r.length - 1, by rw [List.length_append]; omega⟩
  rw [hg, signsFrom, if_pos (by rw [hg]; omega), h, Int.zero_add]
  refine congrArg _ ?_
  rw [List.length_append] at hg
  exact signs_at x g p r r.length (by omega) (Nat.le_refl _)
theorem B8_step (x : Str) (p r : List UInt8) (hp : 0 < p.length) (c : Int) (h : signAt x (p ++ r) 0 = (c, (p.length : Int))) : B8 x (p ++ r) = if c < 0 then 0 else if B8 x r = -1 then -1 else p.length + B8 x r := by
  unfold B8
  obtain ⟨g, hg⟩ : ∃ g, (p ++ r).length = g + 1 := ⟨p.length + r.length - 1, by rw [List.length_append]; omega⟩
  rw [hg, badFrom, if_pos (by rw [hg]; omega), h, Int.zero_add]
  rw [List.length_append] at hg
  by_cases hc : c < 0
  · rw [if_pos hc, if_pos hc]
  · rw [if_neg hc, if_neg hc]
    exact bad_at x g p r r.length (by omega) (Nat.le_refl _)


/-! the plain law -/
theorem encAll_false (ps : List Int) : encAll false ps = ps := by simp [encAll]
theorem S8_plain {x : Str} (hx : x = sA ∨ x = sL) : ∀ (ps : List Int), (∀ c ∈ ps, 0 ≤ c ∧ hasSign x c = true) → S8 x (toB ps) = ps
  | [], _ => rfl
  | c :: r, h => by
    obtain ⟨h0, h1⟩ := h c (.head _)
    have hu : ¬ x = sU := by rcases hx with rfl | rfl <;> decide
    have h256 : c < 256 ∧ (x = sA → c < 128) := by
      unfold hasSign at h1
      rw [if_neg hu] at h1
      have h2 := of_decide_eq_true h1
      rcases hx with rfl | rfl
      · rw [if_pos rfl] at h2; exact ⟨by omega, fun _ => h2⟩
      · rw [if_neg (by decide)] at h2; exact ⟨h2, fun q => absurd q (by decide)⟩
    have eb : bAt ([c.toNat.toUInt8] ++ toB r) 0 = c := by
      show ((c.toNat.toUInt8).toNat : Int) = c
      rw [UInt8.toNat_ofNat']
      omega
    have es : signAt x ([c.toNat.toUInt8] ++ toB r) 0 = (c, (([c.toNat.toUInt8] : List UInt8).length : Int)) := by
      unfold signAt
      rw [if_neg hu, eb, if_neg (fun q => by have := h256.2 q.1; omega)]
      rfl
    have e := S8_step x [c.toNat.toUInt8] (toB r) Nat.one_pos c es
    rw [if_pos h0, S8_plain hx r fun d hd => h d (.tail _ hd)] at e
    exact e
theorem pl_one {x : Str} (hx : x = sA ∨ x = sL) {ps : List Int} (h : ∀ c ∈ ps, 0 ≤ c ∧ hasSign x c = true) (i : Nat) :
    signsFrom x ((toB (encAll (decide (x = sU)) ps)).take i) ((toB (encAll (decide (x = sU)) ps)).take i).length 0 = ps.take i := by
  have e : decide (x = sU) = false := by rcases hx with rfl | rfl <;> decide
  rw [e, encAll_false]
  have e2 : (toB ps).take i = toB (ps.take i) := by simp [toB, List.map_take]
  rw [e2]
  exact S8_plain hx _ fun c hc => h c (List.mem_of_mem_take hc)
/-! signs of the menu -/
theorem enc_len : ∀ k ∈ menuL, ((encB k).length : Int) = lawSize k ∧ 0 < (encB k).length ∧ (encB k).length ≤ 4 := by decide +kernel
theorem enc_dec : ∀ k ∈ menuL, decAt (encB k) 0 = (k, ((encB k).length : Int)) ∧ 0 ≤ k := by decide +kernel
theorem enc_cut : ∀ k ∈ menuL, ∀ j < 4, 0 < j → j < (encB k).length → decAt ((encB k).take j) 0 = (-1, (j : Int)) ∧ ∀ b ∈ (encB k).drop j, (128 : Nat) ≤ b.toNat ∧ b.toNat ≤ 191 := by decide +kernel
theorem dec_app (p r : List UInt8) (hp : 0 < p.length) (h : 0 ≤ (decAt p 0).1) (hn : (decAt p 0).2 = p.length) : decAt (p ++ r) 0 = decAt p 0 := by
  have b0 := bAt_pre p r 0 (by omega) (by omega)
  have k : ∀ j lo hi, 0 ≤ j → okAt p j lo hi → okAt (p ++ r) j lo hi ∧ bAt (p ++ r) j = bAt p j := fun j lo hi hj ⟨h1, h2, h3⟩ => by
    have e := bAt_pre p r j hj h1
    exact ⟨⟨by rw [List.length_append]; push_cast; omega, by rw [e]; exact h2, by rw [e]; exact h3⟩, e⟩
  unfold decAt at h ⊢
  simp only [b0, Int.zero_add] at h ⊢
  by_cases h1 : bAt p 0 < 128
  · rw [if_pos h1, if_pos h1]
  · rw [if_neg h1] at h ⊢
    rw [if_neg h1]
    by_cases h2 : (span (bAt p 0)).2.2 = 0
    · rw [if_pos h2, if_pos h2]
    · rw [if_neg h2] at h ⊢
      rw [if_neg h2]
      by_cases h3 : okAt p 1 (span (bAt p 0)).1 (span (bAt p 0)).2.1
      · obtain ⟨q3, e3⟩ := k _ _ _ (by decide) h3
        rw [if_neg (fun q => q h3)] at h
        rw [if_neg (show ¬ ¬ okAt (p ++ r) 1 _ _ from fun q => q q3), if_neg (show ¬ ¬ okAt p 1 _ _ from fun q => q h3), e3]
        by_cases h4 : (span (bAt p 0)).2.2 = 1
        · rw [if_pos h4, if_pos h4]
        · rw [if_neg h4] at h ⊢
          rw [if_neg h4]
          by_cases h5 : okAt p 2 128 191
          · obtain ⟨q5, e5⟩ := k _ _ _ (by decide) h5
            rw [if_neg (fun q => q h5)] at h
            rw [if_neg (show ¬ ¬ okAt (p ++ r) 2 _ _ from fun q => q q5), if_neg (show ¬ ¬ okAt p 2 _ _ from fun q => q h5), e5]
            by_cases h6 : (span (bAt p 0)).2.2 = 2
            · rw [if_pos h6, if_pos h6]
            · rw [if_neg h6] at h ⊢
              rw [if_neg h6]
              by_cases h7 : okAt p 3 128 191
              · obtain ⟨q7, e7⟩ := k _ _ _ (by decide) h7
                rw [if_neg (show ¬ ¬ okAt (p ++ r) 3 _ _ from fun q => q q7), if_neg (show ¬ ¬ okAt p 3 _ _ from fun q => q h7), e7]
              · rw [if_pos h7] at h
                exact absurd h (by decide)
          · rw [if_pos h5] at h
            exact absurd h (by decide)
      · rw [if_pos h3] at h
        exact absurd h (by decide)
theorem sign_enc {k : Int} (hk : k ∈ menuL) (r : List UInt8) : signAt sU (encB k ++ r) 0 = (k, ((encB k).length : Int)) := by
  obtain ⟨e, h0⟩ := enc_dec k hk
  rw [signAt, if_pos rfl, dec_app _ r (enc_len k hk).2.1 (by rw [e]; exact h0) (by rw [e]), e]
theorem S8_enc : ∀ (as : List Int) (p : List UInt8), (∀ k ∈ as, k ∈ menuL) → S8 sU (E8 as ++ p) = as ++ S8 sU p
  | [], p, _ => rfl
  | c :: r, p, h => by
    rw [E8_cons, List.append_assoc, S8_step sU (encB c) (E8 r ++ p) (enc_len c (h c (.head _))).2.1 c (sign_enc (h c (.head _)) _), if_pos (enc_dec c (h c (.head _))).2, S8_enc r p fun k hk => h k (.tail _ hk)]
    rfl
theorem B8_enc : ∀ (as : List Int) (p : List UInt8), (∀ k ∈ as, k ∈ menuL) → B8 sU (E8 as ++ p) = if B8 sU p = -1 then -1 else (E8 as).length + B8 sU p
  | [], p, _ => by
    show B8 sU p = _
    split
    · assumption
    · show _ = (0 : Int) + _
      omega
  | c :: r, p, h => by
    have hc := enc_len c (h c (.head _))
    rw [E8_cons, List.append_assoc, B8_step sU (encB c) (E8 r ++ p) hc.2.1 c (sign_enc (h c (.head _)) _), if_neg (by have := (enc_dec c (h c (.head _))).2; omega), B8_enc r p fun k hk => h k (.tail _ hk), List.length_append]
    by_cases q : B8 sU p = -1
    · rw [if_pos q, if_pos rfl, if_pos q]
    · rw [if_neg q, if_neg q]
      have hneg : B8 sU p = -1 ∨ 0 ≤ B8 sU p := bad_sign sU _ p 0 (by omega)
      rw [if_neg (by omega)]
      push_cast
      omega
theorem dec_cont (b : UInt8) (r : List UInt8) (h1 : 128 ≤ b.toNat) (h2 : b.toNat ≤ 191) : signAt sU ([b] ++ r) 0 = (-1, (([b] : List UInt8).length : Int)) := by
  have eb : bAt ([b] ++ r) 0 = (b.toNat : Int) := rfl
  rw [signAt, if_pos rfl]
  unfold decAt
  simp only [eb]
  have es : span (b.toNat : Int) = (0, 0, 0) := by
    unfold span
    rw [if_neg (by omega), if_neg (by omega), if_neg (by omega)]
  rw [if_neg (by omega), es, if_pos rfl]
  rfl
theorem S8_cont (r : List UInt8) : ∀ (q : List UInt8), (∀ b ∈ q, 128 ≤ b.toNat ∧ b.toNat ≤ 191) → S8 sU (q ++ r) = List.replicate q.length 65533 ++ S8 sU r
  | [], _ => rfl
  | b :: q, h => by
    have e := S8_step sU [b] (q ++ r) Nat.one_pos (-1) (dec_cont b _ (h b (.head _)).1 (h b (.head _)).2)
    rw [if_neg (by decide), S8_cont r q fun d hd => h d (.tail _ hd)] at e
    exact e
theorem B8_cont (r : List UInt8) (b : UInt8) (q : List UInt8) (h1 : 128 ≤ b.toNat) (h2 : b.toNat ≤ 191) : B8 sU ((b :: q) ++ r) = 0 := by
  have e := B8_step sU [b] (q ++ r) Nat.one_pos (-1) (dec_cont b _ h1 h2)
  rw [if_pos (by decide)] at e
  exact e
theorem S8_part {p : List UInt8} (hp : 0 < p.length) (h : decAt p 0 = (-1, (p.length : Int))) : S8 sU p = [65533] ∧ B8 sU p = 0 := by
  have es : signAt sU (p ++ []) 0 = (-1, (p.length : Int)) := by rw [List.append_nil, signAt, if_pos rfl, h]
  have a := S8_step sU p [] hp (-1) es
  have b := B8_step sU p [] hp (-1) es
  rw [List.append_nil] at a b
  exact ⟨a, b⟩
/-! the places -/
theorem size_sum : ∀ (l : List Int), (∀ k ∈ l, k ∈ menuL) → (l.map lawSize).sum = (E8 l).length
  | [], _ => rfl
  | c :: r, h => by
    rw [List.map_cons, List.sum_cons, E8_cons, List.length_append, size_sum r fun k hk => h k (.tail _ hk), ← (enc_len c (h c (.head _))).1]
    push_cast
    rfl
theorem pre_len {cs : List Int} (h : ∀ k ∈ cs, k ∈ menuL) (k : Nat) : pre cs k = (E8 (cs.take k)).length := size_sum _ fun c hc => h c (List.mem_of_mem_take hc)
theorem pl_tot (cs : List Int) (h : ∀ k ∈ cs, k ∈ menuL) : pre cs cs.length = (toB (encAll true cs)).length := by
  rw [pre_len h, List.take_length]
  rfl
theorem take_succ_getD {cs : List Int} {k : Nat} (h : k < cs.length) : cs.take (k + 1) = cs.take k ++ [cs.getD k 0] := by
  rw [List.take_add_one, List.getD_eq_getElem?_getD, List.getElem?_eq_getElem h]; rfl
theorem pre_step {cs : List Int} (h : ∀ k ∈ cs, k ∈ menuL) {k : Nat} (hk : k < cs.length) : pre cs (k + 1) = pre cs k + (encB (cs.getD k 0)).length ∧ 0 < (encB (cs.getD k 0)).length := by
  have hm := h _ (getD_mem hk)
  rw [pre_succ hk, (enc_len _ hm).1]
  exact ⟨rfl, (enc_len _ hm).2.1⟩
theorem pre_mono {cs : List Int} (h : ∀ k ∈ cs, k ∈ menuL) (i : Nat) : ∀ d, i + d ≤ cs.length → pre cs i ≤ pre cs (i + d)
  | 0, _ => Int.le_refl _
  | d + 1, hd => by
    have a := pre_mono h i d (by omega)
    have b := pre_step h (k := i + d) (by omega)
    rw [← Nat.add_assoc, b.1]
    omega
/-- where a cut lies -/
theorem find_cut {cs : List Int} (h : ∀ k ∈ cs, k ∈ menuL) (cut : Nat) : ∀ n, n ≤ cs.length → (cut : Int) ≤ pre cs n → ∃ k j : Nat, k ≤ n ∧ (cut : Int) = pre cs k + j ∧ (j = 0 ∨ (k < n ∧ j < (encB (cs.getD k 0)).length))
  | 0, _, hc => by
    have e : pre cs 0 = 0 := by simp [pre]
    exact ⟨0, 0, Nat.le_refl _, by rw [e] at hc ⊢; omega, .inl rfl⟩
  | n + 1, hn, hc => by
    by_cases q : (cut : Int) ≤ pre cs n
    · obtain ⟨k, j, h1, h2, h3⟩ := find_cut h cut n (by omega) q
      exact ⟨k, j, by omega, h2, by omega⟩
    · have b := pre_step h (k := n) (by omega)
      rw [b.1] at hc
      by_cases q2 : (cut : Int) = pre cs n + (encB (cs.getD n 0)).length
      · exact ⟨n + 1, 0, Nat.le_refl _, by rw [b.1]; omega, .inl rfl⟩
      · obtain ⟨j, hj⟩ : ∃ j : Nat, (cut : Int) = pre cs n + j := ⟨((cut : Int) - pre cs n).toNat, by omega⟩
        exact ⟨n, j, by omega, hj, .inr ⟨by omega, by omega⟩⟩
theorem filter_upto (k : Nat) : ∀ n, k < n → ((List.range n).filter fun i => decide (i ≤ k)).length = k + 1
  | 0, h => absurd h (Nat.not_lt_zero _)
  | n + 1, h => by
    rw [List.range_succ, List.filter_append, List.length_append]
    by_cases q : k < n
    · rw [filter_upto k n q, List.filter_cons, if_neg (by simpa using q)]
      rfl
    · have e : k = n := by omega
      subst e
      have : (List.range k).filter (fun i => decide (i ≤ k)) = List.range k := by
        rw [List.filter_eq_self]
        intro i hi
        have := List.mem_range.mp hi
        exact decide_eq_true (by omega)
      rw [this, List.filter_cons, if_pos (by simp)]
      simp
theorem starts_len {cs : List Int} (h : ∀ k ∈ cs, k ∈ menuL) {cut k j : Nat} (hk : k ≤ cs.length) (hc : (cut : Int) = pre cs k + j) (hj : j = 0 ∨ (k < cs.length ∧ j < (encB (cs.getD k 0)).length)) : (startsUp cs cut).length = k + 1 := by
  unfold startsUp startsN
  rw [List.filter_map, List.length_map, ← filter_upto k (cs.length + 1) (by omega)]
  refine congrArg List.length (List.filter_congr fun i hi => ?_)
  have hi' := List.mem_range.mp hi
  show decide (pre cs i ≤ (cut : Int)) = decide (i ≤ k)
  rw [decide_eq_decide]
  constructor
  · intro hle
    refine Classical.byContradiction fun hn => ?_
    have hlt : k < cs.length := by omega
    have b := pre_step h hlt
    have a := pre_mono h (k + 1) (i - (k + 1)) (by omega)
    rw [show k + 1 + (i - (k + 1)) = i by omega] at a
    rcases hj with rfl | ⟨_, hj⟩ <;> omega
  · intro hle
    have a := pre_mono h i (k - i) (by omega)
    rw [show i + (k - i) = k by omega] at a
    omega
theorem pl_cut (cs : List Int) (h : ∀ k ∈ cs, k ∈ menuL) (cut : Nat) (hc : cut ≤ (toB (encAll true cs)).length) : CutOK cs (toB (encAll true cs)) cut := by
  have htot := pl_tot cs h
  obtain ⟨k, j, hk, hcut, hj⟩ := find_cut h cut cs.length (Nat.le_refl _) (by rw [htot]; omega)
  have hlen := starts_len h hk hcut hj
  have hsplit : toB (encAll true cs) = E8 (cs.take k) ++ E8 (cs.drop k) := by rw [← E8_append, List.take_append_drop]; rfl
  have hpre := pre_len h k
  have ht : ∀ c ∈ cs.take k, c ∈ menuL := fun c hc => h c (List.mem_of_mem_take hc)
  have hd : ∀ c ∈ cs.drop k, c ∈ menuL := fun c hc => h c (List.mem_of_mem_drop hc)
  have hcn : cut = (E8 (cs.take k)).length + j := by omega
  have hnil : ∀ p : List UInt8, p = [] → S8 sU p = [] ∧ B8 sU p = -1 := fun p e => by subst e; exact ⟨rfl, rfl⟩
  have hk1 : (startsUp cs cut).length - 1 = k := by omega
  refine ⟨by omega, by omega, fun hs => ?_, fun hb => ?_⟩
  · rw [hk1] at hs ⊢
    have hj0 : j = 0 := by omega
    subst hj0
    have ea : aheadOf (toB (encAll true cs)) cut = E8 (cs.take k) := by
      show List.take cut _ = _
      rw [hsplit, hcn, Nat.add_zero, List.take_left']
      rfl
    have eb : behindOf (toB (encAll true cs)) cut = E8 (cs.drop k) := by
      show List.drop cut _ = _
      rw [hsplit, hcn, Nat.add_zero, List.drop_left']
      rfl
    rw [ea, eb]
    have s1 := S8_enc (cs.take k) [] ht
    have s2 := S8_enc (cs.drop k) [] hd
    have b1 := B8_enc (cs.take k) [] ht
    have b2 := B8_enc (cs.drop k) [] hd
    rw [List.append_nil, (hnil [] rfl).1, List.append_nil] at s1 s2
    rw [List.append_nil, (hnil [] rfl).2, if_pos rfl] at b1 b2
    exact ⟨b1, b2, s1, s2⟩
  · rw [hk1] at hb ⊢
    have hj0 : 0 < j := by
      rcases Nat.eq_zero_or_pos j with q | q
      · subst q; exact absurd (by omega) hb
      · exact q
    obtain ⟨hklt, hjl⟩ : k < cs.length ∧ j < (encB (cs.getD k 0)).length := by
      rcases hj with q | q
      · omega
      · exact q
    have hm := h _ (getD_mem hklt)
    obtain ⟨l1, l2, l3⟩ := enc_len _ hm
    obtain ⟨d1, d2⟩ := enc_cut _ hm j (by omega) hj0 hjl
    have edrop : cs.drop k = cs.getD k 0 :: cs.drop (k + 1) := by
      rw [List.drop_eq_getElem_cons hklt, List.getD_eq_getElem?_getD, List.getElem?_eq_getElem hklt]; rfl
    have e8 : E8 (cs.drop k) = (encB (cs.getD k 0)).take j ++ ((encB (cs.getD k 0)).drop j ++ E8 (cs.drop (k + 1))) := by
      rw [edrop, E8_cons, ← List.append_assoc, List.take_append_drop]
    have hpl : ((encB (cs.getD k 0)).take j).length = j := by rw [List.length_take]; omega
    have ea : aheadOf (toB (encAll true cs)) cut = E8 (cs.take k) ++ (encB (cs.getD k 0)).take j := by
      show List.take cut _ = _
      rw [hsplit, e8, ← List.append_assoc, List.take_left']
      rw [List.length_append, hpl, hcn]
    have eb : behindOf (toB (encAll true cs)) cut = (encB (cs.getD k 0)).drop j ++ E8 (cs.drop (k + 1)) := by
      show List.drop cut _ = _
      rw [hsplit, e8, ← List.append_assoc, List.drop_left']
      rw [List.length_append, hpl, hcn]
    obtain ⟨p1, p2⟩ := S8_part (p := (encB (cs.getD k 0)).take j) (by omega) (by rw [d1, hpl])
    have s1 := S8_enc (cs.take k) ((encB (cs.getD k 0)).take j) ht
    have b1 := B8_enc (cs.take k) ((encB (cs.getD k 0)).take j) ht
    rw [p1] at s1
    rw [p2, if_neg (by decide), Int.add_zero, ← hpre] at b1
    have hd' : ∀ c ∈ cs.drop (k + 1), c ∈ menuL := fun c hc => h c (List.mem_of_mem_drop hc)
    have s2 := S8_cont (E8 (cs.drop (k + 1))) _ d2
    have s3 := S8_enc (cs.drop (k + 1)) [] hd'
    rw [List.append_nil, (hnil [] rfl).1, List.append_nil] at s3
    rw [s3] at s2
    have b2 : B8 sU ((encB (cs.getD k 0)).drop j ++ E8 (cs.drop (k + 1))) = 0 := by
      cases q : (encB (cs.getD k 0)).drop j with
      | nil =>
        have q' : (encB (cs.getD k 0)).length - j = 0 := by rw [← List.length_drop, q]; rfl
        omega
      | cons b r =>
        have hb' := d2 b (by rw [q]; exact .head _)
        exact B8_cont _ b r hb'.1 hb'.2
    have hps := (pre_step h hklt).1
    rw [hlen]
    rw [ea, eb]
    refine ⟨by omega, b1, b2, s1, by omega, by omega, ?_⟩
    have e9 : (pre cs (k + 1) - (cut : Int)).toNat = ((encB (cs.getD k 0)).drop j).length := by rw [List.length_drop]; omega
    rw [e9]
    exact s2
theorem pcs_use0 {w : World} {d : Nat} {f : Addr} {vs : List Value} {R : Heap → Heap → Value → Prop} {mean : ExcName → Option Value} {mg mb : Str → Option Value} {dp un : Nat} {gd : Option (List Code)} {cn : Str} {cs : Scope} {a : Addr} {ccd : Value} {cl : List (Str × Addr)} {A₀ : Around} {base h₀ : Heap} {L : Addr} {m : Str → Option Value} {news : List (Addr × Obj)} {s : Shared} {Q E : Value → Shared → Prop}
    (C : PCS w d f vs R) (B : Below A₀ base [] h₀) (F : Fr h₀ L s.heap m) (X : (hd.heap_39 w.params).In base) (T : Top hd.view_39 LOOSE mean mg mb base) (hk : cs.kind = .function) (N : News h₀ L s.heap news)
    (hdp : dp + d < recursionLimit) (hun : un + 40 * d < cLine)
    (h : ∀ v h' tk, Fr h₀ L h' m → News h₀ L h' news → R s.heap h' v → Q v { s with heap := h', toks := tk }) :
    wpAny (model PySem.Challenge.rw_nz0281_01.row.toRowW.prog w) (ktrTop dp un gd cn cs L a ccd cl []) (call (.ref f) vs) Q E s :=
  C mean mg mb dp un gd cn cs a ccd cl [] A₀ base h₀ L m s Q E B F X T hk hdp hun fun v h' tk U r => by
    obtain ⟨g', T', F', N', _⟩ := upf_ground B F N U
    refine h v h' tk ⟨F'.ns, fun b o e => F'.keep b o (T'.other b o e (fun hm => nomatch hm)), by rw [← T'.size]; exact F'.above⟩ (fun p hp => ?_) r
    obtain ⟨p1, p2, p3⟩ := N' p hp
    refine ⟨p1, p2, ?_⟩
    cases q : h₀.get? p.1 with
    | none => rfl
    | some o =>
      obtain ⟨sl, hs⟩ := T'.up q
      rw [p3] at hs; cases hs
theorem news_drop {h₀ h : Heap} {L : Addr} {news : List (Addr × Obj)} (k : Nat) (N : News h₀ L h news) : News h₀ L h (news.drop k) := N.perm fun p hp => List.mem_of_mem_drop hp
theorem news_erase {h₀ h : Heap} {L : Addr} {news : List (Addr × Obj)} (k : Nat) (N : News h₀ L h news) : News h₀ L h (news.eraseIdx k) := N.perm fun p hp => List.mem_of_mem_eraseIdx hp
theorem pl_len {x : Str} (hx : x = sA ∨ x = sL) (ps : List Int) : (toB (encAll (decide (x = sU)) ps)).length = ps.length := by
  have e : decide (x = sU) = false := by rcases hx with rfl | rfl <;> decide
  rw [e]
  simp [toB, encAll]
theorem pl_bytes {x : Str} (hx : x = sA ∨ x = sL) (ps : List Int) : (ps.map fun n => n.toNat.toUInt8) = toB (encAll (decide (x = sU)) ps) := by
  have e : decide (x = sU) = false := by rcases hx with rfl | rfl <;> decide
  rw [e]
  simp [toB, encAll]
theorem lt_100 {n : Nat} (h : n < 8) : n < 100 := by omega
theorem lt_1000 {n : Nat} (h : n < 8) : n < 1000 := by omega
theorem lt_p1 {n : Nat} (h : n < 8) : n + 1 < 1000 := by omega
theorem le_line {n : Nat} (h : n < 8) : n ≤ 16777216 := by omega
theorem len_p1 {l n : Nat} (h : l = n) : ((l : Int) + 1) = ((n + 1 : Nat) : Int) := by omega
theorem len_lt {l : List UInt8} {n : Nat} (h : l.length = n) (h2 : n < 8) : l.length < 1000 := by omega
theorem take_lt {l : List UInt8} {n i : Nat} (h : l.length = n) (h2 : n < 8) : (l.take i).length < 1000 := by rw [List.length_take]; omega
theorem le_2000 {n : Nat} (h : n < 8) : n ≤ 2000 := by omega
theorem ne_same_b {prog : Program} {w : World} {A : Around} {E : Value → Shared → Prop} {s : Shared} {Q : Value → Shared → Prop} {b c : Array UInt8} {t u : Tok} (e : b = c) (h : Q (.bool false) s) : wpAny (model prog w) A (compareOp .NotEq (.bytes b t) (.bytes c u)) Q E s := by
  subst e
  refine ne_bytes ?_
  rw [bne_self_eq_false]
  exact h


noncomputable def bestS (cs : List Int) : Str := if lacks sA cs = [] then sA else if lacks sL cs = [] then sL else sU
noncomputable def bestI (cs : List Int) : Int := if lacks sA cs = [] then 0 else if lacks sL cs = [] then 1 else 2
noncomputable def isSt (x : Str) : Value → Bool
  | .str y _ => y.cps.toList == x.cps.toList
  | _ => false
section
variable {prog : Program} {w : World} {A : Around} {E : Value → Shared → Prop} {s : Shared} {h₀ : Heap} {L : Addr} {m : Str → Option Value} {news : List (Addr × Obj)} {Q : Value → Shared → Prop} {t t1 t2 t3 : Tok}
theorem index_three {D : Addr} {n : Nat} {x : Str} (j : Nat) (N : News h₀ L s.heap news) (hm : (D, W.listOf #[.str sA t1, .str sL t2, .str sU t3] n) ∈ news) (hx : (x = sA ∧ j = 0) ∨ (x = sL ∧ j = 1) ∨ (x = sU ∧ j = 2))
    (h : Q (.int (j : Int) s.toks) { s with toks := s.toks + 1 }) : wpAny (model prog w) A (call (.builtin "list.index") [.ref D, .str x t]) Q E s := by
  refine call_meets PySem.F.slot_list_index ⟨_, (N _ hm).1, rfl⟩ PySem.F.entry_list_index (PySem.F.args_list_index_2 _ _)
    (MeetsSeq.list_index D #[.str sA t1, .str sL t2, .str sU t3] n (.str x t) (isSt x) (fun y hy => ?_) j ?_ ?_ ?_ ?_) ⟨(N _ hm).1, h⟩
  · have hy' : y = .str sA t1 ∨ y = .str sL t2 ∨ y = .str sU t3 := by simpa using hy
    rcases hy' with rfl | rfl | rfl <;> exact SeqRoads2.EqGives.str _ _ _ _
  · show j < 3
    omega
  · omega
  · rcases hx with ⟨rfl, rfl⟩ | ⟨rfl, rfl⟩ | ⟨rfl, rfl⟩ <;> (show (_ == _) = true; exact beq_self_eq_true _)
  · rcases hx with ⟨rfl, rfl⟩ | ⟨rfl, rfl⟩ | ⟨rfl, rfl⟩
    · intro k _ hk; exact absurd hk (Nat.not_lt_zero _)
    · intro k hk hlt
      obtain rfl : k = 0 := by omega
      show (sA.cps.toList == sL.cps.toList) = false
      decide +kernel
    · intro k hk hlt
      have : k = 0 ∨ k = 1 := by omega
      rcases this with rfl | rfl
      · show (sA.cps.toList == sU.cps.toList) = false
        decide +kernel
      · show (sL.cps.toList == sU.cps.toList) = false
        decide +kernel
theorem index_best {D : Addr} {n : Nat} {cs : List Int} (N : News h₀ L s.heap news) (hm : (D, W.listOf #[.str sA t1, .str sL t2, .str sU t3] n) ∈ news)
    (h : ∀ u k, Q (.int (bestI cs) u) { s with toks := k }) : wpAny (model prog w) A (call (.builtin "list.index") [.ref D, .str (if lacks sA cs = [] then sA else if lacks sL cs = [] then sL else sU) t]) Q E s := by
  by_cases h1 : lacks sA cs = []
  · rw [if_pos h1]
    refine index_three 0 N hm (.inl ⟨rfl, rfl⟩) ?_
    have := h s.toks (s.toks + 1)
    rwa [bestI, if_pos h1] at this
  · by_cases h2 : lacks sL cs = []
    · rw [if_neg h1, if_pos h2]
      refine index_three 1 N hm (.inr (.inl ⟨rfl, rfl⟩)) ?_
      have := h s.toks (s.toks + 1)
      rwa [bestI, if_neg h1, if_pos h2] at this
    · rw [if_neg h1, if_neg h2]
      refine index_three 2 N hm (.inr (.inr ⟨rfl, rfl⟩)) ?_
      have := h s.toks (s.toks + 1)
      rwa [bestI, if_neg h1, if_neg h2] at this
end
theorem lacks_one (x : Str) (c : Int) : lacks x [c] = [] ↔ hasSign x c = true := by
  unfold lacks
  rw [List.filter_eq_nil_iff]
  simp
theorem lacks_all (x : Str) (cs : List Int) : lacks x cs = [] ↔ ∀ c ∈ cs, lacks x [c] = [] := by
  unfold lacks
  rw [List.filter_eq_nil_iff]
  refine ⟨fun h c hc => ?_, fun h c hc => ?_⟩
  · rw [List.filter_eq_nil_iff]
    intro d hd
    rw [List.mem_singleton.mp hd]
    exact h c hc
  · have := h c hc
    rw [List.filter_eq_nil_iff] at this
    exact this c (.head _)
theorem lacks_up {c : Int} (h : lacks sA [c] = []) : lacks sL [c] = [] := by
  rw [lacks_one] at h ⊢
  have e1 : ¬ sA = sU := by decide
  have e2 : ¬ sL = sU := by decide
  have e3 : ¬ sL = sA := by decide
  unfold hasSign at h ⊢
  rw [if_neg e1, if_pos rfl] at h
  rw [if_neg e2, if_neg e3]
  have := of_decide_eq_true h
  exact decide_eq_true (by omega)
theorem best_max {cs : List Int} {M : Int} (hm : M ∈ [0] ++ cs.map fun c => bestI [c]) (hle : ∀ a, a ∈ ([0] ++ cs.map fun c => bestI [c]) → a ≤ M) : M = bestI cs := by
  have h0 : 0 ≤ M := hle 0 (.head _)
  have hc : ∀ c ∈ cs, bestI [c] ≤ M := fun c hc => hle _ (List.mem_append_right _ (List.mem_map_of_mem (f := fun c => bestI [c]) hc))
  have hM : M = 0 ∨ ∃ c ∈ cs, M = bestI [c] := by
    rcases List.mem_append.mp hm with h | h
    · exact .inl (List.mem_singleton.mp h)
    · obtain ⟨c, hc, e⟩ := List.mem_map.mp h
      exact .inr ⟨c, hc, e.symm⟩
  by_cases h1 : lacks sA cs = []
  · have hz : ∀ c ∈ cs, bestI [c] = 0 := fun c hc => by rw [bestI, if_pos ((lacks_all _ _).mp h1 c hc)]
    rw [bestI, if_pos h1]
    rcases hM with h | ⟨c, hc, e⟩
    · exact h
    · rw [e, hz c hc]
  · have hx : ∃ c ∈ cs, lacks sA [c] ≠ [] := Classical.byContradiction fun hn => h1 ((lacks_all _ _).mpr fun c hc => Classical.byContradiction fun hn' => hn ⟨c, hc, hn'⟩)
    by_cases h2 : lacks sL cs = []
    · rw [bestI, if_neg h1, if_pos h2]
      have hall : ∀ c ∈ cs, bestI [c] ≤ 1 := fun c hc => by
        rw [bestI]
        split
        · decide
        · rw [if_pos ((lacks_all _ _).mp h2 c hc)]; decide
      obtain ⟨c, hc', hn⟩ := hx
      have e1 : bestI [c] = 1 := by rw [bestI, if_neg hn, if_pos ((lacks_all _ _).mp h2 c hc')]
      have := hc c hc'
      rcases hM with h | ⟨d, hd, e⟩
      · omega
      · have := hall d hd
        omega
    · rw [bestI, if_neg h1, if_neg h2]
      have hy : ∃ c ∈ cs, lacks sL [c] ≠ [] := Classical.byContradiction fun hn => h2 ((lacks_all _ _).mpr fun c hc => Classical.byContradiction fun hn' => hn ⟨c, hc, hn'⟩)
      obtain ⟨c, hc', hn⟩ := hy
      have e1 : bestI [c] = 2 := by rw [bestI, if_neg (fun q => hn (lacks_up q)), if_neg hn]
      have := hc c hc'
      rcases hM with h | ⟨d, hd, e⟩
      · omega
      · have h3 : bestI [d] ≤ 2 := by
          rw [bestI]
          split
          · decide
          · split <;> decide
        omega
section
variable {prog : Program} {w : World} {A : Around} {E : Value → Shared → Prop} {s : Shared} {h₀ : Heap} {L : Addr} {m : Str → Option Value} {news : List (Addr × Obj)} {Q : Value → Shared → Prop} {t t1 t2 t3 u : Tok} {value slice : Expr}
theorem item_best {D : Addr} {n : Nat} {cs : List Int} {M : Int} (N : News h₀ L s.heap news) (hm : (D, W.listOf #[.str sA t1, .str sL t2, .str sU t3] n) ∈ news) (hM : M = bestI cs)
    (h : ∀ t, Q (.str (bestS cs) t) s)
    (hs : subscripted slice false (.ref D) (.int M u) = operate [.ref D, .int M u] (getItem (.ref D) (.int M u)) := by with_unfolding_all rfl) (hg : ∀ r, letTemporaryGo value (.ref D) r = pure () := by intro _; with_unfolding_all rfl) :
    wpAny (model prog w) A (subscriptTail value slice (.ref D) (.int M u)) Q E s := by
  subst hM
  have hl : s.heap.IsList D #[.str sA t1, .str sL t2, .str sU t3] := News.isList N hm
  have hh : ∃ tt, (#[.str sA t1, .str sL t2, .str sU t3] : Array Value)[(bestI cs).toNat]? = some (.str (bestS cs) tt) ∧ 0 ≤ bestI cs ∧ bestI cs < 2 ^ 63 := by
    unfold bestI bestS
    split
    · exact ⟨_, rfl, by decide, by decide⟩
    · split
      · exact ⟨_, rfl, by decide, by decide⟩
      · exact ⟨_, rfl, by decide, by decide⟩
  obtain ⟨tt, hx, h0, h1⟩ := hh
  exact item_list hl h0 h1 hx (h tt) hs hg
end


theorem pp_use {w : World} {d : Nat} {f : Addr} {menu : List Int} {mean : ExcName → Option Value} {mg mb : Str → Option Value} {dp un : Nat} {gd : Option (List Code)} {cn : Str} {cs : Scope} {a : Addr} {ccd : Value} {cl : List (Str × Addr)} {outer : List Env} {A₀ : Around} {base h₀ : Heap} {L : Addr} {m : Str → Option Value} {news : List (Addr × Obj)} {s : Shared} {Q E : Value → Shared → Prop}
    {p q ml : Addr} {x y : Int} {tx ty : Tok} {c c' c'' : Nat} {vs its : List Value} {cells : List Int}
    (C : PP w d f menu) (B : Below A₀ base outer h₀) (F : Fr h₀ L s.heap m) (X : (hd.heap_39 w.params).In h₀) (T : Top hd.view_39 LOOSE mean mg mb h₀) (hk : cs.kind = .function) (N : News h₀ L s.heap news)
    (hdp : dp + d < recursionLimit) (hun : un + 40 * d < cLine) (hm1 : (p, penO q x tx y ty c) ∈ news) (hm2 : (q, W.listOf vs.toArray c') ∈ news) (hm3 : (ml, W.listOf its.toArray c'') ∈ news) (hpq : @Ne Nat p q) (hpm : @Ne Nat p ml) (hqm : @Ne Nat q ml) (hI : IntsAre vs cells) (hJ : IntsAre its menu) (hlen : cells.length ≤ 40) (hx : 0 ≤ x) (hx2 : x ≤ 1000) (hy : 0 ≤ y)
    (h : ∀ r tr x' tx' y' ty' h' tk, Fr h₀ L h' m → News h₀ L h' (news.map fun e => if e.1 = p then (p, penO q x' tx' y' ty' c) else e) → r ∈ menu → 0 ≤ x' → x' ≤ x + 1 → 0 ≤ y' → Q (.int r tr) { s with heap := h', toks := tk }) :
    wpAny (model PySem.Challenge.rw_nz0281_01.row.toRowW.prog w) (ktrTop dp un gd cn cs L a ccd cl outer) (call (.ref f) [.ref p, .ref ml]) Q E s :=
  C mean mg mb dp un gd cn cs a ccd cl outer A₀ base h₀ L m s Q E p q ml x y tx ty c c' c'' vs its cells B F X T hk hdp hun
    (N.perm fun e he => by
      rcases List.mem_cons.mp he with rfl | he
      · exact hm1
      · rcases List.mem_cons.mp he with rfl | he
        · exact hm2
        · obtain rfl := List.mem_singleton.mp he
          exact hm3) hpq hpm hqm hI hJ hlen hx hx2 hy
    fun r tr x' tx' y' ty' h' tk K hp r1 x1 x2 y1 => h r tr x' tx' y' ty' h' tk (fr_turn F N hm1 K) (news_turn N hm1 K hp) r1 x1 x2 y1
section
local macro_rules | `(tactic| walk_at "a ne") => `(tactic| k_extra "x50")
local macro_rules | `(tactic| walk_at "a kne") => `(tactic| k_extra "x51")
local macro_rules | `(tactic| k_ne) => `(tactic| walk_at "a kne")
local macro_rules | `(tactic| walk_at "a om") => `(tactic| k_extra "x52")
local macro_rules | `(tactic| walk_at "call ref cons") => `(tactic| k_dflt (k_extra "my call"))
local macro_rules | `(tactic| walk_at "eval ListComp") => `(tactic| k_extra "x53")
local macro_rules | `(tactic| walk_at "eval ListComp") => `(tactic| k_extra "x54")
local macro_rules | `(tactic| walk_at "exec Assign cons ListComp") => `(tactic| k_extra "x55")
local macro_rules | `(tactic| walk_at "call ref cons") => `(tactic| k_extra "x56")
local macro_rules | `(tactic| walk_at "call ref cons") => `(tactic| k_extra "x57")
local macro_rules | `(tactic| walk_at "getMethod bytes") => `(tactic| k_extra "x58")
local macro_rules | `(tactic| walk_at "call builtin:bytes.join") => `(tactic| k_dflt (k_extra "my bjoin"))
local macro_rules | `(tactic| walk_at "compareOp NotEq ref ref") => `(tactic| k_dflt (k_extra "my ne"))
local macro_rules | `(tactic| walk_at "call builtin:list.index") => `(tactic| k_dflt (k_extra "my index"))
local macro_rules | `(tactic| walk_at "subscriptTail Name Call ref int") => `(tactic| k_dflt (k_extra "my best"))
local macro_rules | `(tactic| walk_at "compareOp NotEq str str") => `(tactic| k_extra "x59")
local macro_rules | `(tactic| walk_at "subscriptTail Name Slice bytes ref") => `(tactic| k_dflt (k_extra "my slice"))
local macro_rules | `(tactic| walk_at "subscriptTail Name Slice str ref") => `(tactic| k_dflt (k_extra "my cut"))
local macro_rules | `(tactic| walk_at "call type:bytes") => `(tactic| k_dflt (k_extra "my bytes"))
local macro_rules | `(tactic| walk_at "compareOp NotEq bytes bytes") => `(tactic| k_extra "x60")
local macro_rules | `(tactic| wrow_close) => `(tactic| k_extra "x61")
local macro_rules | `(tactic| walk_at "turn in") => `(tactic| k_extra "x62")
local macro_rules | `(tactic| walk_at "turn out") => `(tactic| k_extra "x63")
theorem xt63 : True := by
  k_with "x50" => ((k_dflt ((show ¬ @Eq Nat _ _); intro e9q7; (repeat (rename And _ _ => c9q7; obtain ⟨_, _⟩ := c9q7)); first | exact absurd e9q7 (by assumption) | exact absurd e9q7.symm (by assumption) | exact absurd e9q7 (Nat.ne_of_lt (by assumption)) | exact absurd e9q7.symm (Nat.ne_of_lt (by assumption)) | omega)))
  k_with "x51" => ((refine neN ?_; (try dsimp only); intro e9q7; (rename And _ _ => c9q7); first | exact absurd e9q7 c9q7.1 | exact absurd e9q7 c9q7.2.1 | exact absurd e9q7 c9q7.2.2.1 | exact absurd e9q7 c9q7.2.2.2.1 | exact absurd e9q7 c9q7.2.2.2.2.1 | exact absurd e9q7 c9q7.2.2.2.2.2.1 | exact absurd e9q7 c9q7.2.2.2.2.2.2.1 | exact absurd e9q7 c9q7.2.2.2.2.2.2.2.1 | exact absurd e9q7 c9q7.2.2.2.2.2.2.2.2.1 | exact absurd e9q7 c9q7.2 | exact absurd e9q7 c9q7.2.2 | exact absurd e9q7 c9q7.2.2.2 | exact absurd e9q7 c9q7.2.2.2.2 | exact absurd e9q7 c9q7.2.2.2.2.2 | exact absurd e9q7 c9q7.2.2.2.2.2.2 | exact absurd e9q7 c9q7.2.2.2.2.2.2.2 | exact absurd e9q7 c9q7.2.2.2.2.2.2.2.2 | exact absurd e9q7 c9q7.2.2.2.2.2.2.2.2.2 | exact absurd e9q7.symm c9q7.1 | exact absurd e9q7.symm c9q7.2.1 | exact absurd e9q7.symm c9q7.2.2.1 | exact absurd e9q7.symm c9q7.2.2.2.1 | exact absurd e9q7.symm c9q7.2.2.2.2.1 | exact absurd e9q7.symm c9q7.2.2.2.2.2.1 | exact absurd e9q7.symm c9q7.2.2.2.2.2.2.1 | exact absurd e9q7.symm c9q7.2.2.2.2.2.2.2.1 | exact absurd e9q7.symm c9q7.2.2.2.2.2.2.2.2.1 | exact absurd e9q7.symm c9q7.2 | exact absurd e9q7.symm c9q7.2.2 | exact absurd e9q7.symm c9q7.2.2.2 | exact absurd e9q7.symm c9q7.2.2.2.2 | exact absurd e9q7.symm c9q7.2.2.2.2.2 | exact absurd e9q7.symm c9q7.2.2.2.2.2.2 | exact absurd e9q7.symm c9q7.2.2.2.2.2.2.2 | exact absurd e9q7.symm c9q7.2.2.2.2.2.2.2.2 | exact absurd e9q7.symm c9q7.2.2.2.2.2.2.2.2.2 | exact absurd e9q7 (Nat.ne_of_lt c9q7.1) | exact absurd e9q7 (Nat.ne_of_lt c9q7.2.1) | exact absurd e9q7 (Nat.ne_of_lt c9q7.2.2.1) | exact absurd e9q7 (Nat.ne_of_lt c9q7.2.2.2.1) | exact absurd e9q7 (Nat.ne_of_lt c9q7.2.2.2.2.1) | exact absurd e9q7 (Nat.ne_of_lt c9q7.2.2.2.2.2.1) | exact absurd e9q7 (Nat.ne_of_lt c9q7.2.2.2.2.2.2.1) | exact absurd e9q7 (Nat.ne_of_lt c9q7.2.2.2.2.2.2.2.1) | exact absurd e9q7 (Nat.ne_of_lt c9q7.2.2.2.2.2.2.2.2.1) | exact absurd e9q7 (Nat.ne_of_lt c9q7.2) | exact absurd e9q7 (Nat.ne_of_lt c9q7.2.2) | exact absurd e9q7 (Nat.ne_of_lt c9q7.2.2.2) | exact absurd e9q7 (Nat.ne_of_lt c9q7.2.2.2.2) | exact absurd e9q7 (Nat.ne_of_lt c9q7.2.2.2.2.2) | exact absurd e9q7 (Nat.ne_of_lt c9q7.2.2.2.2.2.2) | exact absurd e9q7 (Nat.ne_of_lt c9q7.2.2.2.2.2.2.2) | exact absurd e9q7 (Nat.ne_of_lt c9q7.2.2.2.2.2.2.2.2) | exact absurd e9q7 (Nat.ne_of_lt c9q7.2.2.2.2.2.2.2.2.2) | exact absurd e9q7.symm (Nat.ne_of_lt c9q7.1) | exact absurd e9q7.symm (Nat.ne_of_lt c9q7.2.1) | exact absurd e9q7.symm (Nat.ne_of_lt c9q7.2.2.1) | exact absurd e9q7.symm (Nat.ne_of_lt c9q7.2.2.2.1) | exact absurd e9q7.symm (Nat.ne_of_lt c9q7.2.2.2.2.1) | exact absurd e9q7.symm (Nat.ne_of_lt c9q7.2.2.2.2.2.1) | exact absurd e9q7.symm (Nat.ne_of_lt c9q7.2.2.2.2.2.2.1) | exact absurd e9q7.symm (Nat.ne_of_lt c9q7.2.2.2.2.2.2.2.1) | exact absurd e9q7.symm (Nat.ne_of_lt c9q7.2.2.2.2.2.2.2.2.1) | exact absurd e9q7.symm (Nat.ne_of_lt c9q7.2) | exact absurd e9q7.symm (Nat.ne_of_lt c9q7.2.2) | exact absurd e9q7.symm (Nat.ne_of_lt c9q7.2.2.2) | exact absurd e9q7.symm (Nat.ne_of_lt c9q7.2.2.2.2) | exact absurd e9q7.symm (Nat.ne_of_lt c9q7.2.2.2.2.2) | exact absurd e9q7.symm (Nat.ne_of_lt c9q7.2.2.2.2.2.2) | exact absurd e9q7.symm (Nat.ne_of_lt c9q7.2.2.2.2.2.2.2) | exact absurd e9q7.symm (Nat.ne_of_lt c9q7.2.2.2.2.2.2.2.2) | exact absurd e9q7.symm (Nat.ne_of_lt c9q7.2.2.2.2.2.2.2.2.2) | (clear c9q7; (rename And _ _ => c8q7); first | exact absurd e9q7 c8q7.1 | exact absurd e9q7 c8q7.2.1 | exact absurd e9q7 c8q7.2.2.1 | exact absurd e9q7 c8q7.2.2.2.1 | exact absurd e9q7 c8q7.2.2.2.2.1 | exact absurd e9q7 c8q7.2.2.2.2.2.1 | exact absurd e9q7 c8q7.2.2.2.2.2.2.1 | exact absurd e9q7 c8q7.2.2.2.2.2.2.2.1 | exact absurd e9q7 c8q7.2.2.2.2.2.2.2.2.1 | exact absurd e9q7 c8q7.2 | exact absurd e9q7 c8q7.2.2 | exact absurd e9q7 c8q7.2.2.2 | exact absurd e9q7 c8q7.2.2.2.2 | exact absurd e9q7 c8q7.2.2.2.2.2 | exact absurd e9q7 c8q7.2.2.2.2.2.2 | exact absurd e9q7 c8q7.2.2.2.2.2.2.2 | exact absurd e9q7 c8q7.2.2.2.2.2.2.2.2 | exact absurd e9q7 c8q7.2.2.2.2.2.2.2.2.2 | exact absurd e9q7.symm c8q7.1 | exact absurd e9q7.symm c8q7.2.1 | exact absurd e9q7.symm c8q7.2.2.1 | exact absurd e9q7.symm c8q7.2.2.2.1 | exact absurd e9q7.symm c8q7.2.2.2.2.1 | exact absurd e9q7.symm c8q7.2.2.2.2.2.1 | exact absurd e9q7.symm c8q7.2.2.2.2.2.2.1 | exact absurd e9q7.symm c8q7.2.2.2.2.2.2.2.1 | exact absurd e9q7.symm c8q7.2.2.2.2.2.2.2.2.1 | exact absurd e9q7.symm c8q7.2 | exact absurd e9q7.symm c8q7.2.2 | exact absurd e9q7.symm c8q7.2.2.2 | exact absurd e9q7.symm c8q7.2.2.2.2 | exact absurd e9q7.symm c8q7.2.2.2.2.2 | exact absurd e9q7.symm c8q7.2.2.2.2.2.2 | exact absurd e9q7.symm c8q7.2.2.2.2.2.2.2 | exact absurd e9q7.symm c8q7.2.2.2.2.2.2.2.2 | exact absurd e9q7.symm c8q7.2.2.2.2.2.2.2.2.2 | exact absurd e9q7 (Nat.ne_of_lt c8q7.1) | exact absurd e9q7 (Nat.ne_of_lt c8q7.2.1) | exact absurd e9q7 (Nat.ne_of_lt c8q7.2.2.1) | exact absurd e9q7 (Nat.ne_of_lt c8q7.2.2.2.1) | exact absurd e9q7 (Nat.ne_of_lt c8q7.2.2.2.2.1) | exact absurd e9q7 (Nat.ne_of_lt c8q7.2.2.2.2.2.1) | exact absurd e9q7 (Nat.ne_of_lt c8q7.2.2.2.2.2.2.1) | exact absurd e9q7 (Nat.ne_of_lt c8q7.2.2.2.2.2.2.2.1) | exact absurd e9q7 (Nat.ne_of_lt c8q7.2.2.2.2.2.2.2.2.1) | exact absurd e9q7 (Nat.ne_of_lt c8q7.2) | exact absurd e9q7 (Nat.ne_of_lt c8q7.2.2) | exact absurd e9q7 (Nat.ne_of_lt c8q7.2.2.2) | exact absurd e9q7 (Nat.ne_of_lt c8q7.2.2.2.2) | exact absurd e9q7 (Nat.ne_of_lt c8q7.2.2.2.2.2) | exact absurd e9q7 (Nat.ne_of_lt c8q7.2.2.2.2.2.2) | exact absurd e9q7 (Nat.ne_of_lt c8q7.2.2.2.2.2.2.2) | exact absurd e9q7 (Nat.ne_of_lt c8q7.2.2.2.2.2.2.2.2) | exact absurd e9q7 (Nat.ne_of_lt c8q7.2.2.2.2.2.2.2.2.2) | exact absurd e9q7.symm (Nat.ne_of_lt c8q7.1) | exact absurd e9q7.symm (Nat.ne_of_lt c8q7.2.1) | exact absurd e9q7.symm (Nat.ne_of_lt c8q7.2.2.1) | exact absurd e9q7.symm (Nat.ne_of_lt c8q7.2.2.2.1) | exact absurd e9q7.symm (Nat.ne_of_lt c8q7.2.2.2.2.1) | exact absurd e9q7.symm (Nat.ne_of_lt c8q7.2.2.2.2.2.1) | exact absurd e9q7.symm (Nat.ne_of_lt c8q7.2.2.2.2.2.2.1) | exact absurd e9q7.symm (Nat.ne_of_lt c8q7.2.2.2.2.2.2.2.1) | exact absurd e9q7.symm (Nat.ne_of_lt c8q7.2.2.2.2.2.2.2.2.1) | exact absurd e9q7.symm (Nat.ne_of_lt c8q7.2) | exact absurd e9q7.symm (Nat.ne_of_lt c8q7.2.2) | exact absurd e9q7.symm (Nat.ne_of_lt c8q7.2.2.2) | exact absurd e9q7.symm (Nat.ne_of_lt c8q7.2.2.2.2) | exact absurd e9q7.symm (Nat.ne_of_lt c8q7.2.2.2.2.2) | exact absurd e9q7.symm (Nat.ne_of_lt c8q7.2.2.2.2.2.2) | exact absurd e9q7.symm (Nat.ne_of_lt c8q7.2.2.2.2.2.2.2) | exact absurd e9q7.symm (Nat.ne_of_lt c8q7.2.2.2.2.2.2.2.2) | exact absurd e9q7.symm (Nat.ne_of_lt c8q7.2.2.2.2.2.2.2.2.2))))
  k_with "x52" => (((repeat (rename And _ _ => c9q7; clear c9q7)); omega))
  k_with "x53" => ((k_here; (with_reducible show wpAny _ _ (eval (Expr.ListComp _ [PySem.Comprehension.mk _ _ [] _] _ _) _) _ _ _); k_dflt (refine lcU (by k_asm) (by with_unfolding_all rfl) (by decide) (by rfl) (by decide) (by rfl) ?_)))
  k_with "x54" => ((k_here; (with_reducible show wpAny _ _ (eval (Expr.ListComp _ [PySem.Comprehension.mk _ _ [_] _] _ _) _) _ _ _); k_dflt (refine lcT (by k_asm) (by with_unfolding_all rfl) (by decide) (by rfl) (by decide) (by rfl) ?_)))
  k_with "x55" => ((k_here; k_dflt (refine lcAU (by k_asm) (by rfl) (by with_unfolding_all rfl) (by with_unfolding_all rfl) (by decide) (by rfl) (by decide) (by rfl) (by rfl) (by rfl) ?_)))
  k_with "x56" => ((k_here; (with_reducible show wpAny _ _ (call (Value.ref 147) _) _ _ _); k_dflt (refine' pd_use (c_draw _ _ _ ?h1x56 ?h2x56) ?k1x56 ?k2x56 ?k3x56 ?k4x56 ?kKx56 ?k5x56 ?kdx56 ?kux56 ?m1x56 ?m2x56 ?pqx56 ?hIx56 ?hlx56 ?hxx56 ?hx2x56 ?hyx56 ?_; (case k1x56 => k_asm); (case k2x56 => k_asm); (case k3x56 => k_asm); (case k4x56 => k_asm); (case kKx56 => first | exact rfl | assumption); (case k5x56 => k_asm); (case kdx56 => ktr_room); (case kux56 => ktr_units); (case m1x56 => k_mem); (case m2x56 => k_mem); (case pqx56 => first | assumption | walk_at "a ne"); (case hIx56 => assumption); (case hlx56 => first | assumption | walk_at "a om"); (case hxx56 => first | assumption | walk_at "a om"); (case hx2x56 => first | assumption | walk_at "a om"); (case hyx56 => first | assumption | walk_at "a om"); (case h1x56 => walk_at "a om"); (case h2x56 => walk_at "a om")); (rintro r9q7 v9q7 x9q7 tx9q7 y9q7 ty9q7 h9q7 tk9q7 F9q7 N9q7 r1q7 r2q7 x1q7 x2q7 y1q7 ⟨t9q7, e9q7⟩); (subst e9q7); (simp only [List.map_cons, List.map_nil] at N9q7); (repeat (first | rw [if_pos trivial] at N9q7 | rw [if_pos rfl] at N9q7 | rw [if_neg (by walk_at "a ne")] at N9q7)); (try dsimp only)))
  k_with "x57" => ((k_here; (with_reducible show wpAny _ _ (call (Value.ref 154) _) _ _ _); k_dflt (k_extra "my pick")))
  k_with "x58" => ((k_here; (with_reducible refine gm_bjoin ?_)))
  k_with "x59" => ((k_here; k_dflt (refine ne_same (by with_unfolding_all rfl) ?_)))
  k_with "x60" => ((k_here; k_dflt (refine ne_same_b (by with_unfolding_all rfl) ?_)))
  k_with "x61" => (((show GoodW _ _ _ _ _ (.ok (.ret (.bool true))) _); (refine goodW_bool (by assumption) (by assumption) (raisesW_false ?nnx61) ?ppx61); (case nnx61 => wrow_none_raised); (case ppx61 => with_unfolding_all rfl)))
  k_with "x62" => ((intro i9q7 u9q7 I9q7 oI9q7 C9q7 oC9q7 D9q7 m9q7 ys9q7 h9q7 tk9q7 E9q7 hi9q7 hC9q7 hx9q7 F9q7 N9q7 off9q7 ne9q7; (have off9pq7 := off9q7); (simp only [LCg.Off3, and_true] at off9pq7); (try k_fold)))
  k_with "x63" => ((rename News _ _ _ _ => nEq7; exact LCg.CompEnd.intro (by assumption) nEq7 _ (by lcg_sub) (by assumption) (by first | trivial | k_mem) ⟨rfl, _, rfl⟩))
  trivial
set_option pp.deepTerms false
set_option pp.deepTerms.threshold 8
theorem law_holds : PySem.Challenge.rw_nz0281_01.Holds := hd (by
  k_fill
  intro w s₀ s₁ mg mb G Y fa o pm cd doc dV kV ho₀ hd₀ hcd₀ hD₀ hmg hg args vals as hpre hlay hrd hwl hlo
  have KX := kIn_of Y
  have X := (Ground.X G).1
  have V := (Ground.X G).2
  have GL := glob_more (Ground.glob G (by decide +kernel) (by decide +kernel)) V
  refine Ground.open G ?_
  intro T B D TE TW
  try (refine guard_noD D (by decide +kernel) ?_; clear D)
  obtain ⟨_, _, M⟩ := bmod_of_top T
  have TA := at_of_top T
  try (obtain ⟨_, _, he, B0⟩ := based_of_top T rfl hmg ho₀ hd₀; have he' : cd = _ := he; subst he'; clear he)
  clear hmg
  wrow_args hpre hlay hrd hwl hlo
  all_goals (
    first | refine callC_kw (enter_call ?_) | refine enter_call ?_
    w_top on
    try refine codeAny_mono ?_ (fun _ _ g => GoodW.toG g)
    have K0 := below_caller (Top.heap T)
    w_call any ho₀ hd₀ hcd₀ hD₀ T F
    clear hd₀ TA
    k_drop)
  k_fold
  rename List Int => script
  k_with_none
  k_with "x1" => ((refine wpAny_call ?_; first   | (refine' code_defG (news := []) ?k1x1 ?k2x1 ?k3x1 News.nil ?k5x1 ?kAx1 ?kFx1 ?kKx1 ?k6x1 ?k7x1 ?k8x1 ?k9x1 ?kBx1 ?_ ?c2x1 ?c3x1 ?c4x1 ?c5x1; (case kAx1 => exact rfl); (case kFx1 => exact rfl); (case kKx1 => assumption); (case k1x1 => k_asm); (case k2x1 => k_asm); (case k3x1 => k_asm); (case k5x1 => k_asm); (case k6x1 => k_is); (case k7x1 => k_is); (case k8x1 => ktr_room); (case k9x1 => exact BindsTo.of_eq rfl); (case c5x1 => decide); (case kBx1 => exact locs rfl); (case c2x1 => exact rfl); (case c3x1 => exact rfl); (case c4x1 => exact rfl); k_whole; intro gpq7 Lpq7 hpq7 FGpq7 Fpq7 Npq7 Bpq7 Xpq7 Tpq7 kGpq7; (try dsimp only); (try k_fold))   | (refine' code_defGC (news := []) ?k1x1 ?k2x1 ?k3x1 News.nil ?k5x1 ?kAx1 ?kFx1 ?kKx1 ?k6x1 ?k7x1 ?k8x1 ?k9x1 ?kBx1 ?kDx1 ?_ ?c2x1 ?c3x1 ?c4x1; (case kAx1 => exact rfl); (case kFx1 => exact rfl); (case kKx1 => assumption); (case k1x1 => k_asm); (case k2x1 => k_asm); (case k3x1 => k_asm); (case k5x1 => k_asm); (case k6x1 => k_is); (case k7x1 => k_is); (case k8x1 => ktr_room); (case k9x1 => exact BindsTo.of_eq rfl); (case kBx1 => exact rfl); (case kDx1 => decide +kernel); (case c2x1 => exact rfl); (case c3x1 => exact rfl); (case c4x1 => exact rfl); k_whole; intro gpq7 Lpq7 hpq7 tkpq7 cellspq7 FGpq7 Fpq7 Npq7 Ypq7 Bpq7 Xpq7 Tpq7 l1q7 kGpq7; clear l1q7; k_cells Ypq7; (try simp only [List.cons_append, List.nil_append] at Npq7); (try dsimp only); (try k_fold))))
  k_with "calls" => (cell_ask (c_need_charset _ _ _ (by assumption)))
  k_with "calls" => (cell_ask (c_has_sign _ _ _ _ _ (by assumption)))
  k_with "calls" => (cell_ask (c_utf8_octets _ _ _ (by assumption)))
  k_with "calls" => (cell_ask (c_utf8_sign _ _ _ _ _ (by first | assumption | omega) (by first | assumption | omega) (by first | assumption | omega)))
  k_with "calls" => (cell_ask (c_sign_at' _ _ _ _ _ _ _ (by assumption) (by first | assumption | omega) (by first | assumption | omega) (by first | assumption | omega)))
  k_with "x15" => ((intro zq7 h2q7 h3q7; (simp only [List.forall_mem_cons, List.not_mem_nil, false_implies, implies_true, and_true, ne_eq] at h2q7); (simp only [List.contains_cons, List.contains_nil, Bool.or_false, Bool.or_eq_false_iff, beq_eq_false_iff_ne, ne_eq] at h3q7); simp [kstB, h2q7, h3q7]))
  k_with "calls" => (cell_ask (c_text_in _ _ _ _ _ (by assumption) (by assumption)))
  k_with "calls" => (cell_ask (c_strict_text _ _ _ _ _ (by assumption) (by assumption) (by assumption)))
  k_with "x18" => ((k_here; k_dflt (refine item_text (by first | assumption | omega) (by first | assumption | omega) (by first | assumption | omega) ?_)))
  k_with "x19" => ((k_here; k_dflt (refine len_text (by first | assumption | omega) ?_)))
  k_with "x20" => ((k_here; k_dflt (refine ord_one (by first | assumption | omega) ?_)))
  k_with "calls" => (cell_ask (c_has_sign_true _ _ _ _ _ (by assumption) (by assumption)))
  k_with "x22" => ((intro zq7 h1q7 h2q7 h3q7; (simp only [List.forall_mem_cons, List.not_mem_nil, false_implies, implies_true, and_true, ne_eq] at h2q7); (simp only [List.contains_cons, List.contains_nil, Bool.or_false, Bool.or_eq_false_iff, beq_eq_false_iff_ne, ne_eq] at h3q7); simp [kstB, h1q7, h2q7, h3q7]))
  k_with "calls" => (cell_ask (c_octets_in0 _ _ _ _ _ (by assumption) (by first | assumption | omega) (by assumption)))
  k_with "calls" => (cell_ask (c_best_charset _ _ _ (by first | assumption | omega) (by assumption)))
  k_with "x50" => ((k_dflt ((show ¬ @Eq Nat _ _); intro e9q7; (repeat (rename And _ _ => c9q7; obtain ⟨_, _⟩ := c9q7)); first | exact absurd e9q7 (by assumption) | exact absurd e9q7.symm (by assumption) | exact absurd e9q7 (Nat.ne_of_lt (by assumption)) | exact absurd e9q7.symm (Nat.ne_of_lt (by assumption)) | omega)))
  k_with "x51" => ((refine neN ?_; (try dsimp only); intro e9q7; (rename And _ _ => c9q7); first | exact absurd e9q7 c9q7.1 | exact absurd e9q7 c9q7.2.1 | exact absurd e9q7 c9q7.2.2.1 | exact absurd e9q7 c9q7.2.2.2.1 | exact absurd e9q7 c9q7.2.2.2.2.1 | exact absurd e9q7 c9q7.2.2.2.2.2.1 | exact absurd e9q7 c9q7.2.2.2.2.2.2.1 | exact absurd e9q7 c9q7.2.2.2.2.2.2.2.1 | exact absurd e9q7 c9q7.2.2.2.2.2.2.2.2.1 | exact absurd e9q7 c9q7.2 | exact absurd e9q7 c9q7.2.2 | exact absurd e9q7 c9q7.2.2.2 | exact absurd e9q7 c9q7.2.2.2.2 | exact absurd e9q7 c9q7.2.2.2.2.2 | exact absurd e9q7 c9q7.2.2.2.2.2.2 | exact absurd e9q7 c9q7.2.2.2.2.2.2.2 | exact absurd e9q7 c9q7.2.2.2.2.2.2.2.2 | exact absurd e9q7 c9q7.2.2.2.2.2.2.2.2.2 | exact absurd e9q7.symm c9q7.1 | exact absurd e9q7.symm c9q7.2.1 | exact absurd e9q7.symm c9q7.2.2.1 | exact absurd e9q7.symm c9q7.2.2.2.1 | exact absurd e9q7.symm c9q7.2.2.2.2.1 | exact absurd e9q7.symm c9q7.2.2.2.2.2.1 | exact absurd e9q7.symm c9q7.2.2.2.2.2.2.1 | exact absurd e9q7.symm c9q7.2.2.2.2.2.2.2.1 | exact absurd e9q7.symm c9q7.2.2.2.2.2.2.2.2.1 | exact absurd e9q7.symm c9q7.2 | exact absurd e9q7.symm c9q7.2.2 | exact absurd e9q7.symm c9q7.2.2.2 | exact absurd e9q7.symm c9q7.2.2.2.2 | exact absurd e9q7.symm c9q7.2.2.2.2.2 | exact absurd e9q7.symm c9q7.2.2.2.2.2.2 | exact absurd e9q7.symm c9q7.2.2.2.2.2.2.2 | exact absurd e9q7.symm c9q7.2.2.2.2.2.2.2.2 | exact absurd e9q7.symm c9q7.2.2.2.2.2.2.2.2.2 | exact absurd e9q7 (Nat.ne_of_lt c9q7.1) | exact absurd e9q7 (Nat.ne_of_lt c9q7.2.1) | exact absurd e9q7 (Nat.ne_of_lt c9q7.2.2.1) | exact absurd e9q7 (Nat.ne_of_lt c9q7.2.2.2.1) | exact absurd e9q7 (Nat.ne_of_lt c9q7.2.2.2.2.1) | exact absurd e9q7 (Nat.ne_of_lt c9q7.2.2.2.2.2.1) | exact absurd e9q7 (Nat.ne_of_lt c9q7.2.2.2.2.2.2.1) | exact absurd e9q7 (Nat.ne_of_lt c9q7.2.2.2.2.2.2.2.1) | exact absurd e9q7 (Nat.ne_of_lt c9q7.2.2.2.2.2.2.2.2.1) | exact absurd e9q7 (Nat.ne_of_lt c9q7.2) | exact absurd e9q7 (Nat.ne_of_lt c9q7.2.2) | exact absurd e9q7 (Nat.ne_of_lt c9q7.2.2.2) | exact absurd e9q7 (Nat.ne_of_lt c9q7.2.2.2.2) | exact absurd e9q7 (Nat.ne_of_lt c9q7.2.2.2.2.2) | exact absurd e9q7 (Nat.ne_of_lt c9q7.2.2.2.2.2.2) | exact absurd e9q7 (Nat.ne_of_lt c9q7.2.2.2.2.2.2.2) | exact absurd e9q7 (Nat.ne_of_lt c9q7.2.2.2.2.2.2.2.2) | exact absurd e9q7 (Nat.ne_of_lt c9q7.2.2.2.2.2.2.2.2.2) | exact absurd e9q7.symm (Nat.ne_of_lt c9q7.1) | exact absurd e9q7.symm (Nat.ne_of_lt c9q7.2.1) | exact absurd e9q7.symm (Nat.ne_of_lt c9q7.2.2.1) | exact absurd e9q7.symm (Nat.ne_of_lt c9q7.2.2.2.1) | exact absurd e9q7.symm (Nat.ne_of_lt c9q7.2.2.2.2.1) | exact absurd e9q7.symm (Nat.ne_of_lt c9q7.2.2.2.2.2.1) | exact absurd e9q7.symm (Nat.ne_of_lt c9q7.2.2.2.2.2.2.1) | exact absurd e9q7.symm (Nat.ne_of_lt c9q7.2.2.2.2.2.2.2.1) | exact absurd e9q7.symm (Nat.ne_of_lt c9q7.2.2.2.2.2.2.2.2.1) | exact absurd e9q7.symm (Nat.ne_of_lt c9q7.2) | exact absurd e9q7.symm (Nat.ne_of_lt c9q7.2.2) | exact absurd e9q7.symm (Nat.ne_of_lt c9q7.2.2.2) | exact absurd e9q7.symm (Nat.ne_of_lt c9q7.2.2.2.2) | exact absurd e9q7.symm (Nat.ne_of_lt c9q7.2.2.2.2.2) | exact absurd e9q7.symm (Nat.ne_of_lt c9q7.2.2.2.2.2.2) | exact absurd e9q7.symm (Nat.ne_of_lt c9q7.2.2.2.2.2.2.2) | exact absurd e9q7.symm (Nat.ne_of_lt c9q7.2.2.2.2.2.2.2.2) | exact absurd e9q7.symm (Nat.ne_of_lt c9q7.2.2.2.2.2.2.2.2.2) | (clear c9q7; (rename And _ _ => c8q7); first | exact absurd e9q7 c8q7.1 | exact absurd e9q7 c8q7.2.1 | exact absurd e9q7 c8q7.2.2.1 | exact absurd e9q7 c8q7.2.2.2.1 | exact absurd e9q7 c8q7.2.2.2.2.1 | exact absurd e9q7 c8q7.2.2.2.2.2.1 | exact absurd e9q7 c8q7.2.2.2.2.2.2.1 | exact absurd e9q7 c8q7.2.2.2.2.2.2.2.1 | exact absurd e9q7 c8q7.2.2.2.2.2.2.2.2.1 | exact absurd e9q7 c8q7.2 | exact absurd e9q7 c8q7.2.2 | exact absurd e9q7 c8q7.2.2.2 | exact absurd e9q7 c8q7.2.2.2.2 | exact absurd e9q7 c8q7.2.2.2.2.2 | exact absurd e9q7 c8q7.2.2.2.2.2.2 | exact absurd e9q7 c8q7.2.2.2.2.2.2.2 | exact absurd e9q7 c8q7.2.2.2.2.2.2.2.2 | exact absurd e9q7 c8q7.2.2.2.2.2.2.2.2.2 | exact absurd e9q7.symm c8q7.1 | exact absurd e9q7.symm c8q7.2.1 | exact absurd e9q7.symm c8q7.2.2.1 | exact absurd e9q7.symm c8q7.2.2.2.1 | exact absurd e9q7.symm c8q7.2.2.2.2.1 | exact absurd e9q7.symm c8q7.2.2.2.2.2.1 | exact absurd e9q7.symm c8q7.2.2.2.2.2.2.1 | exact absurd e9q7.symm c8q7.2.2.2.2.2.2.2.1 | exact absurd e9q7.symm c8q7.2.2.2.2.2.2.2.2.1 | exact absurd e9q7.symm c8q7.2 | exact absurd e9q7.symm c8q7.2.2 | exact absurd e9q7.symm c8q7.2.2.2 | exact absurd e9q7.symm c8q7.2.2.2.2 | exact absurd e9q7.symm c8q7.2.2.2.2.2 | exact absurd e9q7.symm c8q7.2.2.2.2.2.2 | exact absurd e9q7.symm c8q7.2.2.2.2.2.2.2 | exact absurd e9q7.symm c8q7.2.2.2.2.2.2.2.2 | exact absurd e9q7.symm c8q7.2.2.2.2.2.2.2.2.2 | exact absurd e9q7 (Nat.ne_of_lt c8q7.1) | exact absurd e9q7 (Nat.ne_of_lt c8q7.2.1) | exact absurd e9q7 (Nat.ne_of_lt c8q7.2.2.1) | exact absurd e9q7 (Nat.ne_of_lt c8q7.2.2.2.1) | exact absurd e9q7 (Nat.ne_of_lt c8q7.2.2.2.2.1) | exact absurd e9q7 (Nat.ne_of_lt c8q7.2.2.2.2.2.1) | exact absurd e9q7 (Nat.ne_of_lt c8q7.2.2.2.2.2.2.1) | exact absurd e9q7 (Nat.ne_of_lt c8q7.2.2.2.2.2.2.2.1) | exact absurd e9q7 (Nat.ne_of_lt c8q7.2.2.2.2.2.2.2.2.1) | exact absurd e9q7 (Nat.ne_of_lt c8q7.2) | exact absurd e9q7 (Nat.ne_of_lt c8q7.2.2) | exact absurd e9q7 (Nat.ne_of_lt c8q7.2.2.2) | exact absurd e9q7 (Nat.ne_of_lt c8q7.2.2.2.2) | exact absurd e9q7 (Nat.ne_of_lt c8q7.2.2.2.2.2) | exact absurd e9q7 (Nat.ne_of_lt c8q7.2.2.2.2.2.2) | exact absurd e9q7 (Nat.ne_of_lt c8q7.2.2.2.2.2.2.2) | exact absurd e9q7 (Nat.ne_of_lt c8q7.2.2.2.2.2.2.2.2) | exact absurd e9q7 (Nat.ne_of_lt c8q7.2.2.2.2.2.2.2.2.2) | exact absurd e9q7.symm (Nat.ne_of_lt c8q7.1) | exact absurd e9q7.symm (Nat.ne_of_lt c8q7.2.1) | exact absurd e9q7.symm (Nat.ne_of_lt c8q7.2.2.1) | exact absurd e9q7.symm (Nat.ne_of_lt c8q7.2.2.2.1) | exact absurd e9q7.symm (Nat.ne_of_lt c8q7.2.2.2.2.1) | exact absurd e9q7.symm (Nat.ne_of_lt c8q7.2.2.2.2.2.1) | exact absurd e9q7.symm (Nat.ne_of_lt c8q7.2.2.2.2.2.2.1) | exact absurd e9q7.symm (Nat.ne_of_lt c8q7.2.2.2.2.2.2.2.1) | exact absurd e9q7.symm (Nat.ne_of_lt c8q7.2.2.2.2.2.2.2.2.1) | exact absurd e9q7.symm (Nat.ne_of_lt c8q7.2) | exact absurd e9q7.symm (Nat.ne_of_lt c8q7.2.2) | exact absurd e9q7.symm (Nat.ne_of_lt c8q7.2.2.2) | exact absurd e9q7.symm (Nat.ne_of_lt c8q7.2.2.2.2) | exact absurd e9q7.symm (Nat.ne_of_lt c8q7.2.2.2.2.2) | exact absurd e9q7.symm (Nat.ne_of_lt c8q7.2.2.2.2.2.2) | exact absurd e9q7.symm (Nat.ne_of_lt c8q7.2.2.2.2.2.2.2) | exact absurd e9q7.symm (Nat.ne_of_lt c8q7.2.2.2.2.2.2.2.2) | exact absurd e9q7.symm (Nat.ne_of_lt c8q7.2.2.2.2.2.2.2.2.2))))
  k_with "x52" => (((repeat (rename And _ _ => c9q7; clear c9q7)); omega))
  k_with "x53" => ((k_here; (with_reducible show wpAny _ _ (eval (Expr.ListComp _ [PySem.Comprehension.mk _ _ [] _] _ _) _) _ _ _); k_dflt (refine lcU (by k_asm) (by with_unfolding_all rfl) (by decide) (by rfl) (by decide) (by rfl) ?_)))
  k_with "x54" => ((k_here; (with_reducible show wpAny _ _ (eval (Expr.ListComp _ [PySem.Comprehension.mk _ _ [_] _] _ _) _) _ _ _); k_dflt (refine lcT (by k_asm) (by with_unfolding_all rfl) (by decide) (by rfl) (by decide) (by rfl) ?_)))
  k_with "x55" => ((k_here; k_dflt (refine lcAU (by k_asm) (by rfl) (by with_unfolding_all rfl) (by with_unfolding_all rfl) (by decide) (by rfl) (by decide) (by rfl) (by rfl) (by rfl) ?_)))
  k_with "x56" => ((k_here; (with_reducible show wpAny _ _ (call (Value.ref 147) _) _ _ _); k_dflt (refine' pd_use (c_draw _ _ _ ?h1x56 ?h2x56) ?k1x56 ?k2x56 ?k3x56 ?k4x56 ?kKx56 ?k5x56 ?kdx56 ?kux56 ?m1x56 ?m2x56 ?pqx56 ?hIx56 ?hlx56 ?hxx56 ?hx2x56 ?hyx56 ?_; (case k1x56 => k_asm); (case k2x56 => k_asm); (case k3x56 => k_asm); (case k4x56 => k_asm); (case kKx56 => first | exact rfl | assumption); (case k5x56 => k_asm); (case kdx56 => ktr_room); (case kux56 => ktr_units); (case m1x56 => k_mem); (case m2x56 => k_mem); (case pqx56 => first | assumption | walk_at "a ne"); (case hIx56 => assumption); (case hlx56 => first | assumption | walk_at "a om"); (case hxx56 => first | assumption | walk_at "a om"); (case hx2x56 => first | assumption | walk_at "a om"); (case hyx56 => first | assumption | walk_at "a om"); (case h1x56 => walk_at "a om"); (case h2x56 => walk_at "a om")); (rintro r9q7 v9q7 x9q7 tx9q7 y9q7 ty9q7 h9q7 tk9q7 F9q7 N9q7 r1q7 r2q7 x1q7 x2q7 y1q7 ⟨t9q7, e9q7⟩); (subst e9q7); (simp only [List.map_cons, List.map_nil] at N9q7); (repeat (first | rw [if_pos trivial] at N9q7 | rw [if_pos rfl] at N9q7 | rw [if_neg (by walk_at "a ne")] at N9q7)); (try dsimp only)))
  k_with "x57" => ((k_here; (with_reducible show wpAny _ _ (call (Value.ref 154) _) _ _ _); k_dflt (k_extra "my pick")))
  k_with "x58" => ((k_here; (with_reducible refine gm_bjoin ?_)))
  k_with "x59" => ((k_here; k_dflt (refine ne_same (by with_unfolding_all rfl) ?_)))
  k_with "x60" => ((k_here; k_dflt (refine ne_same_b (by with_unfolding_all rfl) ?_)))
  k_with "x61" => (((show GoodW _ _ _ _ _ (.ok (.ret (.bool true))) _); (refine goodW_bool (by assumption) (by assumption) (raisesW_false ?nnx61) ?ppx61); (case nnx61 => wrow_none_raised); (case ppx61 => with_unfolding_all rfl)))
  k_with "x62" => ((intro i9q7 u9q7 I9q7 oI9q7 C9q7 oC9q7 D9q7 m9q7 ys9q7 h9q7 tk9q7 E9q7 hi9q7 hC9q7 hx9q7 F9q7 N9q7 off9q7 ne9q7; (have off9pq7 := off9q7); (simp only [LCg.Off3, and_true] at off9pq7); (try k_fold)))
  k_with "x63" => ((rename News _ _ _ _ => nEq7; exact LCg.CompEnd.intro (by assumption) nEq7 _ (by lcg_sub) (by assumption) (by first | trivial | k_mem) ⟨rfl, _, rfl⟩))
  k_with "my cend" =>
    (walk_at "turn out")
  k_steps
  rename News _ _ _ _ => lN
  rename Fr _ _ _ _ => lF
  refine map_list (fun i v => ∃ u, v = .int ((List.take 40 script).getD i 0) u) lF lN rfl (by k_mem) (by assumption) (by rw [List.length_take]; walk_at "a om") ?_ ?_
  case refine_1 =>
    walk_at "turn in"
    k_steps
  intro g1 ys1 hys1
  replace hys1 := hys1.ints
  rw [range_getD _ _ fun c => c, List.map_id'] at hys1
  clear lN lF
  have h40 : (List.take 40 script).length ≤ 40 := by rw [List.length_take]; exact Nat.min_le_left _ _
  k_steps
  rename IsRange _ _ _ _ _ _ _ _ => lR
  rename News _ _ _ _ => lN
  rename Fr _ _ _ _ => lF
  refine draw_range (n := (_ : Int).toNat) (fun c => (_, penO _ c.1 c.2.1 c.2.2.1 c.2.2.2 0) :: _) (_, _, _, _) menuL lF lN rfl lR (Int.toNat_of_nonneg (by assumption)).symm (by walk_at "a om") (by assumption) (by walk_at "a om") (by assumption) ?_ ?_
  case refine_1 =>
    clear lR lN lF
    k_with_none
    k_with "x1" => ((refine wpAny_call ?_; first   | (refine' code_defG (news := []) ?k1x1 ?k2x1 ?k3x1 News.nil ?k5x1 ?kAx1 ?kFx1 ?kKx1 ?k6x1 ?k7x1 ?k8x1 ?k9x1 ?kBx1 ?_ ?c2x1 ?c3x1 ?c4x1 ?c5x1; (case kAx1 => exact rfl); (case kFx1 => exact rfl); (case kKx1 => assumption); (case k1x1 => k_asm); (case k2x1 => k_asm); (case k3x1 => k_asm); (case k5x1 => k_asm); (case k6x1 => k_is); (case k7x1 => k_is); (case k8x1 => ktr_room); (case k9x1 => exact BindsTo.of_eq rfl); (case c5x1 => decide); (case kBx1 => exact locs rfl); (case c2x1 => exact rfl); (case c3x1 => exact rfl); (case c4x1 => exact rfl); k_whole; intro gpq7 Lpq7 hpq7 FGpq7 Fpq7 Npq7 Bpq7 Xpq7 Tpq7 kGpq7; (try dsimp only); (try k_fold))   | (refine' code_defGC (news := []) ?k1x1 ?k2x1 ?k3x1 News.nil ?k5x1 ?kAx1 ?kFx1 ?kKx1 ?k6x1 ?k7x1 ?k8x1 ?k9x1 ?kBx1 ?kDx1 ?_ ?c2x1 ?c3x1 ?c4x1; (case kAx1 => exact rfl); (case kFx1 => exact rfl); (case kKx1 => assumption); (case k1x1 => k_asm); (case k2x1 => k_asm); (case k3x1 => k_asm); (case k5x1 => k_asm); (case k6x1 => k_is); (case k7x1 => k_is); (case k8x1 => ktr_room); (case k9x1 => exact BindsTo.of_eq rfl); (case kBx1 => exact rfl); (case kDx1 => decide +kernel); (case c2x1 => exact rfl); (case c3x1 => exact rfl); (case c4x1 => exact rfl); k_whole; intro gpq7 Lpq7 hpq7 tkpq7 cellspq7 FGpq7 Fpq7 Npq7 Ypq7 Bpq7 Xpq7 Tpq7 l1q7 kGpq7; clear l1q7; k_cells Ypq7; (try simp only [List.cons_append, List.nil_append] at Npq7); (try dsimp only); (try k_fold))))
    k_with "calls" => (cell_ask (c_need_charset _ _ _ (by assumption)))
    k_with "calls" => (cell_ask (c_has_sign _ _ _ _ _ (by assumption)))
    k_with "calls" => (cell_ask (c_utf8_octets _ _ _ (by assumption)))
    k_with "calls" => (cell_ask (c_utf8_sign _ _ _ _ _ (by first | assumption | omega) (by first | assumption | omega) (by first | assumption | omega)))
    k_with "calls" => (cell_ask (c_sign_at' _ _ _ _ _ _ _ (by assumption) (by first | assumption | omega) (by first | assumption | omega) (by first | assumption | omega)))
    k_with "x15" => ((intro zq7 h2q7 h3q7; (simp only [List.forall_mem_cons, List.not_mem_nil, false_implies, implies_true, and_true, ne_eq] at h2q7); (simp only [List.contains_cons, List.contains_nil, Bool.or_false, Bool.or_eq_false_iff, beq_eq_false_iff_ne, ne_eq] at h3q7); simp [kstB, h2q7, h3q7]))
    k_with "calls" => (cell_ask (c_text_in _ _ _ _ _ (by assumption) (by assumption)))
    k_with "calls" => (cell_ask (c_strict_text _ _ _ _ _ (by assumption) (by assumption) (by assumption)))
    k_with "x18" => ((k_here; k_dflt (refine item_text (by first | assumption | omega) (by first | assumption | omega) (by first | assumption | omega) ?_)))
    k_with "x19" => ((k_here; k_dflt (refine len_text (by first | assumption | omega) ?_)))
    k_with "x20" => ((k_here; k_dflt (refine ord_one (by first | assumption | omega) ?_)))
    k_with "calls" => (cell_ask (c_has_sign_true _ _ _ _ _ (by assumption) (by assumption)))
    k_with "x22" => ((intro zq7 h1q7 h2q7 h3q7; (simp only [List.forall_mem_cons, List.not_mem_nil, false_implies, implies_true, and_true, ne_eq] at h2q7); (simp only [List.contains_cons, List.contains_nil, Bool.or_false, Bool.or_eq_false_iff, beq_eq_false_iff_ne, ne_eq] at h3q7); simp [kstB, h1q7, h2q7, h3q7]))
    k_with "calls" => (cell_ask (c_octets_in0 _ _ _ _ _ (by assumption) (by first | assumption | omega) (by assumption)))
    k_with "calls" => (cell_ask (c_best_charset _ _ _ (by first | assumption | omega) (by assumption)))
    k_with "x50" => ((k_dflt ((show ¬ @Eq Nat _ _); intro e9q7; (repeat (rename And _ _ => c9q7; obtain ⟨_, _⟩ := c9q7)); first | exact absurd e9q7 (by assumption) | exact absurd e9q7.symm (by assumption) | exact absurd e9q7 (Nat.ne_of_lt (by assumption)) | exact absurd e9q7.symm (Nat.ne_of_lt (by assumption)) | omega)))
    k_with "x51" => ((refine neN ?_; (try dsimp only); intro e9q7; (rename And _ _ => c9q7); first | exact absurd e9q7 c9q7.1 | exact absurd e9q7 c9q7.2.1 | exact absurd e9q7 c9q7.2.2.1 | exact absurd e9q7 c9q7.2.2.2.1 | exact absurd e9q7 c9q7.2.2.2.2.1 | exact absurd e9q7 c9q7.2.2.2.2.2.1 | exact absurd e9q7 c9q7.2.2.2.2.2.2.1 | exact absurd e9q7 c9q7.2.2.2.2.2.2.2.1 | exact absurd e9q7 c9q7.2.2.2.2.2.2.2.2.1 | exact absurd e9q7 c9q7.2 | exact absurd e9q7 c9q7.2.2 | exact absurd e9q7 c9q7.2.2.2 | exact absurd e9q7 c9q7.2.2.2.2 | exact absurd e9q7 c9q7.2.2.2.2.2 | exact absurd e9q7 c9q7.2.2.2.2.2.2 | exact absurd e9q7 c9q7.2.2.2.2.2.2.2 | exact absurd e9q7 c9q7.2.2.2.2.2.2.2.2 | exact absurd e9q7 c9q7.2.2.2.2.2.2.2.2.2 | exact absurd e9q7.symm c9q7.1 | exact absurd e9q7.symm c9q7.2.1 | exact absurd e9q7.symm c9q7.2.2.1 | exact absurd e9q7.symm c9q7.2.2.2.1 | exact absurd e9q7.symm c9q7.2.2.2.2.1 | exact absurd e9q7.symm c9q7.2.2.2.2.2.1 | exact absurd e9q7.symm c9q7.2.2.2.2.2.2.1 | exact absurd e9q7.symm c9q7.2.2.2.2.2.2.2.1 | exact absurd e9q7.symm c9q7.2.2.2.2.2.2.2.2.1 | exact absurd e9q7.symm c9q7.2 | exact absurd e9q7.symm c9q7.2.2 | exact absurd e9q7.symm c9q7.2.2.2 | exact absurd e9q7.symm c9q7.2.2.2.2 | exact absurd e9q7.symm c9q7.2.2.2.2.2 | exact absurd e9q7.symm c9q7.2.2.2.2.2.2 | exact absurd e9q7.symm c9q7.2.2.2.2.2.2.2 | exact absurd e9q7.symm c9q7.2.2.2.2.2.2.2.2 | exact absurd e9q7.symm c9q7.2.2.2.2.2.2.2.2.2 | exact absurd e9q7 (Nat.ne_of_lt c9q7.1) | exact absurd e9q7 (Nat.ne_of_lt c9q7.2.1) | exact absurd e9q7 (Nat.ne_of_lt c9q7.2.2.1) | exact absurd e9q7 (Nat.ne_of_lt c9q7.2.2.2.1) | exact absurd e9q7 (Nat.ne_of_lt c9q7.2.2.2.2.1) | exact absurd e9q7 (Nat.ne_of_lt c9q7.2.2.2.2.2.1) | exact absurd e9q7 (Nat.ne_of_lt c9q7.2.2.2.2.2.2.1) | exact absurd e9q7 (Nat.ne_of_lt c9q7.2.2.2.2.2.2.2.1) | exact absurd e9q7 (Nat.ne_of_lt c9q7.2.2.2.2.2.2.2.2.1) | exact absurd e9q7 (Nat.ne_of_lt c9q7.2) | exact absurd e9q7 (Nat.ne_of_lt c9q7.2.2) | exact absurd e9q7 (Nat.ne_of_lt c9q7.2.2.2) | exact absurd e9q7 (Nat.ne_of_lt c9q7.2.2.2.2) | exact absurd e9q7 (Nat.ne_of_lt c9q7.2.2.2.2.2) | exact absurd e9q7 (Nat.ne_of_lt c9q7.2.2.2.2.2.2) | exact absurd e9q7 (Nat.ne_of_lt c9q7.2.2.2.2.2.2.2) | exact absurd e9q7 (Nat.ne_of_lt c9q7.2.2.2.2.2.2.2.2) | exact absurd e9q7 (Nat.ne_of_lt c9q7.2.2.2.2.2.2.2.2.2) | exact absurd e9q7.symm (Nat.ne_of_lt c9q7.1) | exact absurd e9q7.symm (Nat.ne_of_lt c9q7.2.1) | exact absurd e9q7.symm (Nat.ne_of_lt c9q7.2.2.1) | exact absurd e9q7.symm (Nat.ne_of_lt c9q7.2.2.2.1) | exact absurd e9q7.symm (Nat.ne_of_lt c9q7.2.2.2.2.1) | exact absurd e9q7.symm (Nat.ne_of_lt c9q7.2.2.2.2.2.1) | exact absurd e9q7.symm (Nat.ne_of_lt c9q7.2.2.2.2.2.2.1) | exact absurd e9q7.symm (Nat.ne_of_lt c9q7.2.2.2.2.2.2.2.1) | exact absurd e9q7.symm (Nat.ne_of_lt c9q7.2.2.2.2.2.2.2.2.1) | exact absurd e9q7.symm (Nat.ne_of_lt c9q7.2) | exact absurd e9q7.symm (Nat.ne_of_lt c9q7.2.2) | exact absurd e9q7.symm (Nat.ne_of_lt c9q7.2.2.2) | exact absurd e9q7.symm (Nat.ne_of_lt c9q7.2.2.2.2) | exact absurd e9q7.symm (Nat.ne_of_lt c9q7.2.2.2.2.2) | exact absurd e9q7.symm (Nat.ne_of_lt c9q7.2.2.2.2.2.2) | exact absurd e9q7.symm (Nat.ne_of_lt c9q7.2.2.2.2.2.2.2) | exact absurd e9q7.symm (Nat.ne_of_lt c9q7.2.2.2.2.2.2.2.2) | exact absurd e9q7.symm (Nat.ne_of_lt c9q7.2.2.2.2.2.2.2.2.2) | (clear c9q7; (rename And _ _ => c8q7); first | exact absurd e9q7 c8q7.1 | exact absurd e9q7 c8q7.2.1 | exact absurd e9q7 c8q7.2.2.1 | exact absurd e9q7 c8q7.2.2.2.1 | exact absurd e9q7 c8q7.2.2.2.2.1 | exact absurd e9q7 c8q7.2.2.2.2.2.1 | exact absurd e9q7 c8q7.2.2.2.2.2.2.1 | exact absurd e9q7 c8q7.2.2.2.2.2.2.2.1 | exact absurd e9q7 c8q7.2.2.2.2.2.2.2.2.1 | exact absurd e9q7 c8q7.2 | exact absurd e9q7 c8q7.2.2 | exact absurd e9q7 c8q7.2.2.2 | exact absurd e9q7 c8q7.2.2.2.2 | exact absurd e9q7 c8q7.2.2.2.2.2 | exact absurd e9q7 c8q7.2.2.2.2.2.2 | exact absurd e9q7 c8q7.2.2.2.2.2.2.2 | exact absurd e9q7 c8q7.2.2.2.2.2.2.2.2 | exact absurd e9q7 c8q7.2.2.2.2.2.2.2.2.2 | exact absurd e9q7.symm c8q7.1 | exact absurd e9q7.symm c8q7.2.1 | exact absurd e9q7.symm c8q7.2.2.1 | exact absurd e9q7.symm c8q7.2.2.2.1 | exact absurd e9q7.symm c8q7.2.2.2.2.1 | exact absurd e9q7.symm c8q7.2.2.2.2.2.1 | exact absurd e9q7.symm c8q7.2.2.2.2.2.2.1 | exact absurd e9q7.symm c8q7.2.2.2.2.2.2.2.1 | exact absurd e9q7.symm c8q7.2.2.2.2.2.2.2.2.1 | exact absurd e9q7.symm c8q7.2 | exact absurd e9q7.symm c8q7.2.2 | exact absurd e9q7.symm c8q7.2.2.2 | exact absurd e9q7.symm c8q7.2.2.2.2 | exact absurd e9q7.symm c8q7.2.2.2.2.2 | exact absurd e9q7.symm c8q7.2.2.2.2.2.2 | exact absurd e9q7.symm c8q7.2.2.2.2.2.2.2 | exact absurd e9q7.symm c8q7.2.2.2.2.2.2.2.2 | exact absurd e9q7.symm c8q7.2.2.2.2.2.2.2.2.2 | exact absurd e9q7 (Nat.ne_of_lt c8q7.1) | exact absurd e9q7 (Nat.ne_of_lt c8q7.2.1) | exact absurd e9q7 (Nat.ne_of_lt c8q7.2.2.1) | exact absurd e9q7 (Nat.ne_of_lt c8q7.2.2.2.1) | exact absurd e9q7 (Nat.ne_of_lt c8q7.2.2.2.2.1) | exact absurd e9q7 (Nat.ne_of_lt c8q7.2.2.2.2.2.1) | exact absurd e9q7 (Nat.ne_of_lt c8q7.2.2.2.2.2.2.1) | exact absurd e9q7 (Nat.ne_of_lt c8q7.2.2.2.2.2.2.2.1) | exact absurd e9q7 (Nat.ne_of_lt c8q7.2.2.2.2.2.2.2.2.1) | exact absurd e9q7 (Nat.ne_of_lt c8q7.2) | exact absurd e9q7 (Nat.ne_of_lt c8q7.2.2) | exact absurd e9q7 (Nat.ne_of_lt c8q7.2.2.2) | exact absurd e9q7 (Nat.ne_of_lt c8q7.2.2.2.2) | exact absurd e9q7 (Nat.ne_of_lt c8q7.2.2.2.2.2) | exact absurd e9q7 (Nat.ne_of_lt c8q7.2.2.2.2.2.2) | exact absurd e9q7 (Nat.ne_of_lt c8q7.2.2.2.2.2.2.2) | exact absurd e9q7 (Nat.ne_of_lt c8q7.2.2.2.2.2.2.2.2) | exact absurd e9q7 (Nat.ne_of_lt c8q7.2.2.2.2.2.2.2.2.2) | exact absurd e9q7.symm (Nat.ne_of_lt c8q7.1) | exact absurd e9q7.symm (Nat.ne_of_lt c8q7.2.1) | exact absurd e9q7.symm (Nat.ne_of_lt c8q7.2.2.1) | exact absurd e9q7.symm (Nat.ne_of_lt c8q7.2.2.2.1) | exact absurd e9q7.symm (Nat.ne_of_lt c8q7.2.2.2.2.1) | exact absurd e9q7.symm (Nat.ne_of_lt c8q7.2.2.2.2.2.1) | exact absurd e9q7.symm (Nat.ne_of_lt c8q7.2.2.2.2.2.2.1) | exact absurd e9q7.symm (Nat.ne_of_lt c8q7.2.2.2.2.2.2.2.1) | exact absurd e9q7.symm (Nat.ne_of_lt c8q7.2.2.2.2.2.2.2.2.1) | exact absurd e9q7.symm (Nat.ne_of_lt c8q7.2) | exact absurd e9q7.symm (Nat.ne_of_lt c8q7.2.2) | exact absurd e9q7.symm (Nat.ne_of_lt c8q7.2.2.2) | exact absurd e9q7.symm (Nat.ne_of_lt c8q7.2.2.2.2) | exact absurd e9q7.symm (Nat.ne_of_lt c8q7.2.2.2.2.2) | exact absurd e9q7.symm (Nat.ne_of_lt c8q7.2.2.2.2.2.2) | exact absurd e9q7.symm (Nat.ne_of_lt c8q7.2.2.2.2.2.2.2) | exact absurd e9q7.symm (Nat.ne_of_lt c8q7.2.2.2.2.2.2.2.2) | exact absurd e9q7.symm (Nat.ne_of_lt c8q7.2.2.2.2.2.2.2.2.2))))
    k_with "x52" => (((repeat (rename And _ _ => c9q7; clear c9q7)); omega))
    k_with "x53" => ((k_here; (with_reducible show wpAny _ _ (eval (Expr.ListComp _ [PySem.Comprehension.mk _ _ [] _] _ _) _) _ _ _); k_dflt (refine lcU (by k_asm) (by with_unfolding_all rfl) (by decide) (by rfl) (by decide) (by rfl) ?_)))
    k_with "x54" => ((k_here; (with_reducible show wpAny _ _ (eval (Expr.ListComp _ [PySem.Comprehension.mk _ _ [_] _] _ _) _) _ _ _); k_dflt (refine lcT (by k_asm) (by with_unfolding_all rfl) (by decide) (by rfl) (by decide) (by rfl) ?_)))
    k_with "x55" => ((k_here; k_dflt (refine lcAU (by k_asm) (by rfl) (by with_unfolding_all rfl) (by with_unfolding_all rfl) (by decide) (by rfl) (by decide) (by rfl) (by rfl) (by rfl) ?_)))
    k_with "x56" => ((k_here; (with_reducible show wpAny _ _ (call (Value.ref 147) _) _ _ _); k_dflt (refine' pd_use (c_draw _ _ _ ?h1x56 ?h2x56) ?k1x56 ?k2x56 ?k3x56 ?k4x56 ?kKx56 ?k5x56 ?kdx56 ?kux56 ?m1x56 ?m2x56 ?pqx56 ?hIx56 ?hlx56 ?hxx56 ?hx2x56 ?hyx56 ?_; (case k1x56 => k_asm); (case k2x56 => k_asm); (case k3x56 => k_asm); (case k4x56 => k_asm); (case kKx56 => first | exact rfl | assumption); (case k5x56 => k_asm); (case kdx56 => ktr_room); (case kux56 => ktr_units); (case m1x56 => k_mem); (case m2x56 => k_mem); (case pqx56 => first | assumption | walk_at "a ne"); (case hIx56 => assumption); (case hlx56 => first | assumption | walk_at "a om"); (case hxx56 => first | assumption | walk_at "a om"); (case hx2x56 => first | assumption | walk_at "a om"); (case hyx56 => first | assumption | walk_at "a om"); (case h1x56 => walk_at "a om"); (case h2x56 => walk_at "a om")); (rintro r9q7 v9q7 x9q7 tx9q7 y9q7 ty9q7 h9q7 tk9q7 F9q7 N9q7 r1q7 r2q7 x1q7 x2q7 y1q7 ⟨t9q7, e9q7⟩); (subst e9q7); (simp only [List.map_cons, List.map_nil] at N9q7); (repeat (first | rw [if_pos trivial] at N9q7 | rw [if_pos rfl] at N9q7 | rw [if_neg (by walk_at "a ne")] at N9q7)); (try dsimp only)))
    k_with "x57" => ((k_here; (with_reducible show wpAny _ _ (call (Value.ref 154) _) _ _ _); k_dflt (k_extra "my pick")))
    k_with "x58" => ((k_here; (with_reducible refine gm_bjoin ?_)))
    k_with "x59" => ((k_here; k_dflt (refine ne_same (by with_unfolding_all rfl) ?_)))
    k_with "x60" => ((k_here; k_dflt (refine ne_same_b (by with_unfolding_all rfl) ?_)))
    k_with "x61" => (((show GoodW _ _ _ _ _ (.ok (.ret (.bool true))) _); (refine goodW_bool (by assumption) (by assumption) (raisesW_false ?nnx61) ?ppx61); (case nnx61 => wrow_none_raised); (case ppx61 => with_unfolding_all rfl)))
    k_with "x62" => ((intro i9q7 u9q7 I9q7 oI9q7 C9q7 oC9q7 D9q7 m9q7 ys9q7 h9q7 tk9q7 E9q7 hi9q7 hC9q7 hx9q7 F9q7 N9q7 off9q7 ne9q7; (have off9pq7 := off9q7); (simp only [LCg.Off3, and_true] at off9pq7); (try k_fold)))
    k_with "x63" => ((rename News _ _ _ _ => nEq7; exact LCg.CompEnd.intro (by assumption) nEq7 _ (by lcg_sub) (by assumption) (by first | trivial | k_mem) ⟨rfl, _, rfl⟩))
    k_with "my pick" =>
      (k_dflt (refine' pp_use (c_pick _ menuL (by decide) (by decide)) (by k_asm) (by k_asm) (by k_asm) (by k_asm) (by first | exact rfl | assumption) (by k_asm) (by ktr_room) (by ktr_units) (by k_mem) (by k_mem) (by k_mem) (by walk_at "a ne") (by walk_at "a ne") (by walk_at "a ne") (by assumption) (by unfold menuL; repeat (first | exact .nil | refine .cons _ _ ?_)) (by first | assumption | walk_at "a om") (by assumption) (by assumption) (by assumption) ?_))
      (intro r9 tr9 x9 tx9 y9 ty9 h9 tk9 F9 N9 r1 x1 x2 y1)
      (simp only [List.map_cons, List.map_nil] at N9)
      (repeat (first | rw [if_pos trivial] at N9 | rw [if_pos rfl] at N9 | rw [if_neg (by walk_at "a ne")] at N9))
      (try dsimp only)
    k_with "my cend" =>
      (rename News _ _ _ _ => nE)
      (exact LCg.CompEnd.intro (by assumption) nE _ (by lcg_sub) (by assumption) trivial ⟨x9, tx9, y9, ty9, rfl, x1, x2, y1, _, _, r1, rfl⟩)
    intro i9 u9 I9 oI9 C9 oC9 D9 m9 ys9 p1 p2 p3 p4 h9 tk9 E9 hi9 hp1 hp2 hp3 hC9 hx9 F9 N9 off9 ne9
    dsimp only at N9 off9
    have off9' := off9
    simp only [LCg.Off3, and_true] at off9'
    try k_fold
    k_steps
  intro g2 ys2 cs x2' t2' y2' u2' hI2 hl2 hm2
  dsimp only
  clear lR lN lF
  k_with_none
  k_with "x1" => ((refine wpAny_call ?_; first   | (refine' code_defG (news := []) ?k1x1 ?k2x1 ?k3x1 News.nil ?k5x1 ?kAx1 ?kFx1 ?kKx1 ?k6x1 ?k7x1 ?k8x1 ?k9x1 ?kBx1 ?_ ?c2x1 ?c3x1 ?c4x1 ?c5x1; (case kAx1 => exact rfl); (case kFx1 => exact rfl); (case kKx1 => assumption); (case k1x1 => k_asm); (case k2x1 => k_asm); (case k3x1 => k_asm); (case k5x1 => k_asm); (case k6x1 => k_is); (case k7x1 => k_is); (case k8x1 => ktr_room); (case k9x1 => exact BindsTo.of_eq rfl); (case c5x1 => decide); (case kBx1 => exact locs rfl); (case c2x1 => exact rfl); (case c3x1 => exact rfl); (case c4x1 => exact rfl); k_whole; intro gpq7 Lpq7 hpq7 FGpq7 Fpq7 Npq7 Bpq7 Xpq7 Tpq7 kGpq7; (try dsimp only); (try k_fold))   | (refine' code_defGC (news := []) ?k1x1 ?k2x1 ?k3x1 News.nil ?k5x1 ?kAx1 ?kFx1 ?kKx1 ?k6x1 ?k7x1 ?k8x1 ?k9x1 ?kBx1 ?kDx1 ?_ ?c2x1 ?c3x1 ?c4x1; (case kAx1 => exact rfl); (case kFx1 => exact rfl); (case kKx1 => assumption); (case k1x1 => k_asm); (case k2x1 => k_asm); (case k3x1 => k_asm); (case k5x1 => k_asm); (case k6x1 => k_is); (case k7x1 => k_is); (case k8x1 => ktr_room); (case k9x1 => exact BindsTo.of_eq rfl); (case kBx1 => exact rfl); (case kDx1 => decide +kernel); (case c2x1 => exact rfl); (case c3x1 => exact rfl); (case c4x1 => exact rfl); k_whole; intro gpq7 Lpq7 hpq7 tkpq7 cellspq7 FGpq7 Fpq7 Npq7 Ypq7 Bpq7 Xpq7 Tpq7 l1q7 kGpq7; clear l1q7; k_cells Ypq7; (try simp only [List.cons_append, List.nil_append] at Npq7); (try dsimp only); (try k_fold))))
  k_with "calls" => (cell_ask (c_need_charset _ _ _ (by assumption)))
  k_with "calls" => (cell_ask (c_has_sign _ _ _ _ _ (by assumption)))
  k_with "calls" => (cell_ask (c_utf8_octets _ _ _ (by assumption)))
  k_with "calls" => (cell_ask (c_utf8_sign _ _ _ _ _ (by first | assumption | omega) (by first | assumption | omega) (by first | assumption | omega)))
  k_with "calls" => (cell_ask (c_sign_at' _ _ _ _ _ _ _ (by assumption) (by first | assumption | omega) (by first | assumption | omega) (by first | assumption | omega)))
  k_with "x15" => ((intro zq7 h2q7 h3q7; (simp only [List.forall_mem_cons, List.not_mem_nil, false_implies, implies_true, and_true, ne_eq] at h2q7); (simp only [List.contains_cons, List.contains_nil, Bool.or_false, Bool.or_eq_false_iff, beq_eq_false_iff_ne, ne_eq] at h3q7); simp [kstB, h2q7, h3q7]))
  k_with "calls" => (cell_ask (c_text_in _ _ _ _ _ (by assumption) (by assumption)))
  k_with "calls" => (cell_ask (c_strict_text _ _ _ _ _ (by assumption) (by assumption) (by assumption)))
  k_with "x18" => ((k_here; k_dflt (refine item_text (by first | assumption | omega) (by first | assumption | omega) (by first | assumption | omega) ?_)))
  k_with "x19" => ((k_here; k_dflt (refine len_text (by first | assumption | omega) ?_)))
  k_with "x20" => ((k_here; k_dflt (refine ord_one (by first | assumption | omega) ?_)))
  k_with "calls" => (cell_ask (c_has_sign_true _ _ _ _ _ (by assumption) (by assumption)))
  k_with "x22" => ((intro zq7 h1q7 h2q7 h3q7; (simp only [List.forall_mem_cons, List.not_mem_nil, false_implies, implies_true, and_true, ne_eq] at h2q7); (simp only [List.contains_cons, List.contains_nil, Bool.or_false, Bool.or_eq_false_iff, beq_eq_false_iff_ne, ne_eq] at h3q7); simp [kstB, h1q7, h2q7, h3q7]))
  k_with "calls" => (cell_ask (c_octets_in0 _ _ _ _ _ (by assumption) (by first | assumption | omega) (by assumption)))
  k_with "calls" => (cell_ask (c_best_charset _ _ _ (by first | assumption | omega) (by assumption)))
  k_with "x50" => ((k_dflt ((show ¬ @Eq Nat _ _); intro e9q7; (repeat (rename And _ _ => c9q7; obtain ⟨_, _⟩ := c9q7)); first | exact absurd e9q7 (by assumption) | exact absurd e9q7.symm (by assumption) | exact absurd e9q7 (Nat.ne_of_lt (by assumption)) | exact absurd e9q7.symm (Nat.ne_of_lt (by assumption)) | omega)))
  k_with "x51" => ((refine neN ?_; (try dsimp only); intro e9q7; (rename And _ _ => c9q7); first | exact absurd e9q7 c9q7.1 | exact absurd e9q7 c9q7.2.1 | exact absurd e9q7 c9q7.2.2.1 | exact absurd e9q7 c9q7.2.2.2.1 | exact absurd e9q7 c9q7.2.2.2.2.1 | exact absurd e9q7 c9q7.2.2.2.2.2.1 | exact absurd e9q7 c9q7.2.2.2.2.2.2.1 | exact absurd e9q7 c9q7.2.2.2.2.2.2.2.1 | exact absurd e9q7 c9q7.2.2.2.2.2.2.2.2.1 | exact absurd e9q7 c9q7.2 | exact absurd e9q7 c9q7.2.2 | exact absurd e9q7 c9q7.2.2.2 | exact absurd e9q7 c9q7.2.2.2.2 | exact absurd e9q7 c9q7.2.2.2.2.2 | exact absurd e9q7 c9q7.2.2.2.2.2.2 | exact absurd e9q7 c9q7.2.2.2.2.2.2.2 | exact absurd e9q7 c9q7.2.2.2.2.2.2.2.2 | exact absurd e9q7 c9q7.2.2.2.2.2.2.2.2.2 | exact absurd e9q7.symm c9q7.1 | exact absurd e9q7.symm c9q7.2.1 | exact absurd e9q7.symm c9q7.2.2.1 | exact absurd e9q7.symm c9q7.2.2.2.1 | exact absurd e9q7.symm c9q7.2.2.2.2.1 | exact absurd e9q7.symm c9q7.2.2.2.2.2.1 | exact absurd e9q7.symm c9q7.2.2.2.2.2.2.1 | exact absurd e9q7.symm c9q7.2.2.2.2.2.2.2.1 | exact absurd e9q7.symm c9q7.2.2.2.2.2.2.2.2.1 | exact absurd e9q7.symm c9q7.2 | exact absurd e9q7.symm c9q7.2.2 | exact absurd e9q7.symm c9q7.2.2.2 | exact absurd e9q7.symm c9q7.2.2.2.2 | exact absurd e9q7.symm c9q7.2.2.2.2.2 | exact absurd e9q7.symm c9q7.2.2.2.2.2.2 | exact absurd e9q7.symm c9q7.2.2.2.2.2.2.2 | exact absurd e9q7.symm c9q7.2.2.2.2.2.2.2.2 | exact absurd e9q7.symm c9q7.2.2.2.2.2.2.2.2.2 | exact absurd e9q7 (Nat.ne_of_lt c9q7.1) | exact absurd e9q7 (Nat.ne_of_lt c9q7.2.1) | exact absurd e9q7 (Nat.ne_of_lt c9q7.2.2.1) | exact absurd e9q7 (Nat.ne_of_lt c9q7.2.2.2.1) | exact absurd e9q7 (Nat.ne_of_lt c9q7.2.2.2.2.1) | exact absurd e9q7 (Nat.ne_of_lt c9q7.2.2.2.2.2.1) | exact absurd e9q7 (Nat.ne_of_lt c9q7.2.2.2.2.2.2.1) | exact absurd e9q7 (Nat.ne_of_lt c9q7.2.2.2.2.2.2.2.1) | exact absurd e9q7 (Nat.ne_of_lt c9q7.2.2.2.2.2.2.2.2.1) | exact absurd e9q7 (Nat.ne_of_lt c9q7.2) | exact absurd e9q7 (Nat.ne_of_lt c9q7.2.2) | exact absurd e9q7 (Nat.ne_of_lt c9q7.2.2.2) | exact absurd e9q7 (Nat.ne_of_lt c9q7.2.2.2.2) | exact absurd e9q7 (Nat.ne_of_lt c9q7.2.2.2.2.2) | exact absurd e9q7 (Nat.ne_of_lt c9q7.2.2.2.2.2.2) | exact absurd e9q7 (Nat.ne_of_lt c9q7.2.2.2.2.2.2.2) | exact absurd e9q7 (Nat.ne_of_lt c9q7.2.2.2.2.2.2.2.2) | exact absurd e9q7 (Nat.ne_of_lt c9q7.2.2.2.2.2.2.2.2.2) | exact absurd e9q7.symm (Nat.ne_of_lt c9q7.1) | exact absurd e9q7.symm (Nat.ne_of_lt c9q7.2.1) | exact absurd e9q7.symm (Nat.ne_of_lt c9q7.2.2.1) | exact absurd e9q7.symm (Nat.ne_of_lt c9q7.2.2.2.1) | exact absurd e9q7.symm (Nat.ne_of_lt c9q7.2.2.2.2.1) | exact absurd e9q7.symm (Nat.ne_of_lt c9q7.2.2.2.2.2.1) | exact absurd e9q7.symm (Nat.ne_of_lt c9q7.2.2.2.2.2.2.1) | exact absurd e9q7.symm (Nat.ne_of_lt c9q7.2.2.2.2.2.2.2.1) | exact absurd e9q7.symm (Nat.ne_of_lt c9q7.2.2.2.2.2.2.2.2.1) | exact absurd e9q7.symm (Nat.ne_of_lt c9q7.2) | exact absurd e9q7.symm (Nat.ne_of_lt c9q7.2.2) | exact absurd e9q7.symm (Nat.ne_of_lt c9q7.2.2.2) | exact absurd e9q7.symm (Nat.ne_of_lt c9q7.2.2.2.2) | exact absurd e9q7.symm (Nat.ne_of_lt c9q7.2.2.2.2.2) | exact absurd e9q7.symm (Nat.ne_of_lt c9q7.2.2.2.2.2.2) | exact absurd e9q7.symm (Nat.ne_of_lt c9q7.2.2.2.2.2.2.2) | exact absurd e9q7.symm (Nat.ne_of_lt c9q7.2.2.2.2.2.2.2.2) | exact absurd e9q7.symm (Nat.ne_of_lt c9q7.2.2.2.2.2.2.2.2.2) | (clear c9q7; (rename And _ _ => c8q7); first | exact absurd e9q7 c8q7.1 | exact absurd e9q7 c8q7.2.1 | exact absurd e9q7 c8q7.2.2.1 | exact absurd e9q7 c8q7.2.2.2.1 | exact absurd e9q7 c8q7.2.2.2.2.1 | exact absurd e9q7 c8q7.2.2.2.2.2.1 | exact absurd e9q7 c8q7.2.2.2.2.2.2.1 | exact absurd e9q7 c8q7.2.2.2.2.2.2.2.1 | exact absurd e9q7 c8q7.2.2.2.2.2.2.2.2.1 | exact absurd e9q7 c8q7.2 | exact absurd e9q7 c8q7.2.2 | exact absurd e9q7 c8q7.2.2.2 | exact absurd e9q7 c8q7.2.2.2.2 | exact absurd e9q7 c8q7.2.2.2.2.2 | exact absurd e9q7 c8q7.2.2.2.2.2.2 | exact absurd e9q7 c8q7.2.2.2.2.2.2.2 | exact absurd e9q7 c8q7.2.2.2.2.2.2.2.2 | exact absurd e9q7 c8q7.2.2.2.2.2.2.2.2.2 | exact absurd e9q7.symm c8q7.1 | exact absurd e9q7.symm c8q7.2.1 | exact absurd e9q7.symm c8q7.2.2.1 | exact absurd e9q7.symm c8q7.2.2.2.1 | exact absurd e9q7.symm c8q7.2.2.2.2.1 | exact absurd e9q7.symm c8q7.2.2.2.2.2.1 | exact absurd e9q7.symm c8q7.2.2.2.2.2.2.1 | exact absurd e9q7.symm c8q7.2.2.2.2.2.2.2.1 | exact absurd e9q7.symm c8q7.2.2.2.2.2.2.2.2.1 | exact absurd e9q7.symm c8q7.2 | exact absurd e9q7.symm c8q7.2.2 | exact absurd e9q7.symm c8q7.2.2.2 | exact absurd e9q7.symm c8q7.2.2.2.2 | exact absurd e9q7.symm c8q7.2.2.2.2.2 | exact absurd e9q7.symm c8q7.2.2.2.2.2.2 | exact absurd e9q7.symm c8q7.2.2.2.2.2.2.2 | exact absurd e9q7.symm c8q7.2.2.2.2.2.2.2.2 | exact absurd e9q7.symm c8q7.2.2.2.2.2.2.2.2.2 | exact absurd e9q7 (Nat.ne_of_lt c8q7.1) | exact absurd e9q7 (Nat.ne_of_lt c8q7.2.1) | exact absurd e9q7 (Nat.ne_of_lt c8q7.2.2.1) | exact absurd e9q7 (Nat.ne_of_lt c8q7.2.2.2.1) | exact absurd e9q7 (Nat.ne_of_lt c8q7.2.2.2.2.1) | exact absurd e9q7 (Nat.ne_of_lt c8q7.2.2.2.2.2.1) | exact absurd e9q7 (Nat.ne_of_lt c8q7.2.2.2.2.2.2.1) | exact absurd e9q7 (Nat.ne_of_lt c8q7.2.2.2.2.2.2.2.1) | exact absurd e9q7 (Nat.ne_of_lt c8q7.2.2.2.2.2.2.2.2.1) | exact absurd e9q7 (Nat.ne_of_lt c8q7.2) | exact absurd e9q7 (Nat.ne_of_lt c8q7.2.2) | exact absurd e9q7 (Nat.ne_of_lt c8q7.2.2.2) | exact absurd e9q7 (Nat.ne_of_lt c8q7.2.2.2.2) | exact absurd e9q7 (Nat.ne_of_lt c8q7.2.2.2.2.2) | exact absurd e9q7 (Nat.ne_of_lt c8q7.2.2.2.2.2.2) | exact absurd e9q7 (Nat.ne_of_lt c8q7.2.2.2.2.2.2.2) | exact absurd e9q7 (Nat.ne_of_lt c8q7.2.2.2.2.2.2.2.2) | exact absurd e9q7 (Nat.ne_of_lt c8q7.2.2.2.2.2.2.2.2.2) | exact absurd e9q7.symm (Nat.ne_of_lt c8q7.1) | exact absurd e9q7.symm (Nat.ne_of_lt c8q7.2.1) | exact absurd e9q7.symm (Nat.ne_of_lt c8q7.2.2.1) | exact absurd e9q7.symm (Nat.ne_of_lt c8q7.2.2.2.1) | exact absurd e9q7.symm (Nat.ne_of_lt c8q7.2.2.2.2.1) | exact absurd e9q7.symm (Nat.ne_of_lt c8q7.2.2.2.2.2.1) | exact absurd e9q7.symm (Nat.ne_of_lt c8q7.2.2.2.2.2.2.1) | exact absurd e9q7.symm (Nat.ne_of_lt c8q7.2.2.2.2.2.2.2.1) | exact absurd e9q7.symm (Nat.ne_of_lt c8q7.2.2.2.2.2.2.2.2.1) | exact absurd e9q7.symm (Nat.ne_of_lt c8q7.2) | exact absurd e9q7.symm (Nat.ne_of_lt c8q7.2.2) | exact absurd e9q7.symm (Nat.ne_of_lt c8q7.2.2.2) | exact absurd e9q7.symm (Nat.ne_of_lt c8q7.2.2.2.2) | exact absurd e9q7.symm (Nat.ne_of_lt c8q7.2.2.2.2.2) | exact absurd e9q7.symm (Nat.ne_of_lt c8q7.2.2.2.2.2.2) | exact absurd e9q7.symm (Nat.ne_of_lt c8q7.2.2.2.2.2.2.2) | exact absurd e9q7.symm (Nat.ne_of_lt c8q7.2.2.2.2.2.2.2.2) | exact absurd e9q7.symm (Nat.ne_of_lt c8q7.2.2.2.2.2.2.2.2.2))))
  k_with "x52" => (((repeat (rename And _ _ => c9q7; clear c9q7)); omega))
  k_with "x53" => ((k_here; (with_reducible show wpAny _ _ (eval (Expr.ListComp _ [PySem.Comprehension.mk _ _ [] _] _ _) _) _ _ _); k_dflt (refine lcU (by k_asm) (by with_unfolding_all rfl) (by decide) (by rfl) (by decide) (by rfl) ?_)))
  k_with "x54" => ((k_here; (with_reducible show wpAny _ _ (eval (Expr.ListComp _ [PySem.Comprehension.mk _ _ [_] _] _ _) _) _ _ _); k_dflt (refine lcT (by k_asm) (by with_unfolding_all rfl) (by decide) (by rfl) (by decide) (by rfl) ?_)))
  k_with "x55" => ((k_here; k_dflt (refine lcAU (by k_asm) (by rfl) (by with_unfolding_all rfl) (by with_unfolding_all rfl) (by decide) (by rfl) (by decide) (by rfl) (by rfl) (by rfl) ?_)))
  k_with "x56" => ((k_here; (with_reducible show wpAny _ _ (call (Value.ref 147) _) _ _ _); k_dflt (refine' pd_use (c_draw _ _ _ ?h1x56 ?h2x56) ?k1x56 ?k2x56 ?k3x56 ?k4x56 ?kKx56 ?k5x56 ?kdx56 ?kux56 ?m1x56 ?m2x56 ?pqx56 ?hIx56 ?hlx56 ?hxx56 ?hx2x56 ?hyx56 ?_; (case k1x56 => k_asm); (case k2x56 => k_asm); (case k3x56 => k_asm); (case k4x56 => k_asm); (case kKx56 => first | exact rfl | assumption); (case k5x56 => k_asm); (case kdx56 => ktr_room); (case kux56 => ktr_units); (case m1x56 => k_mem); (case m2x56 => k_mem); (case pqx56 => first | assumption | walk_at "a ne"); (case hIx56 => assumption); (case hlx56 => first | assumption | walk_at "a om"); (case hxx56 => first | assumption | walk_at "a om"); (case hx2x56 => first | assumption | walk_at "a om"); (case hyx56 => first | assumption | walk_at "a om"); (case h1x56 => walk_at "a om"); (case h2x56 => walk_at "a om")); (rintro r9q7 v9q7 x9q7 tx9q7 y9q7 ty9q7 h9q7 tk9q7 F9q7 N9q7 r1q7 r2q7 x1q7 x2q7 y1q7 ⟨t9q7, e9q7⟩); (subst e9q7); (simp only [List.map_cons, List.map_nil] at N9q7); (repeat (first | rw [if_pos trivial] at N9q7 | rw [if_pos rfl] at N9q7 | rw [if_neg (by walk_at "a ne")] at N9q7)); (try dsimp only)))
  k_with "x57" => ((k_here; (with_reducible show wpAny _ _ (call (Value.ref 154) _) _ _ _); k_dflt (k_extra "my pick")))
  k_with "x58" => ((k_here; (with_reducible refine gm_bjoin ?_)))
  k_with "x59" => ((k_here; k_dflt (refine ne_same (by with_unfolding_all rfl) ?_)))
  k_with "x60" => ((k_here; k_dflt (refine ne_same_b (by with_unfolding_all rfl) ?_)))
  k_with "x61" => (((show GoodW _ _ _ _ _ (.ok (.ret (.bool true))) _); (refine goodW_bool (by assumption) (by assumption) (raisesW_false ?nnx61) ?ppx61); (case nnx61 => wrow_none_raised); (case ppx61 => with_unfolding_all rfl)))
  k_with "x62" => ((intro i9q7 u9q7 I9q7 oI9q7 C9q7 oC9q7 D9q7 m9q7 ys9q7 h9q7 tk9q7 E9q7 hi9q7 hC9q7 hx9q7 F9q7 N9q7 off9q7 ne9q7; (have off9pq7 := off9q7); (simp only [LCg.Off3, and_true] at off9pq7); (try k_fold)))
  k_with "x63" => ((rename News _ _ _ _ => nEq7; exact LCg.CompEnd.intro (by assumption) nEq7 _ (by lcg_sub) (by assumption) (by first | trivial | k_mem) ⟨rfl, _, rfl⟩))
  k_with "my cend" =>
    (walk_at "turn out")
  k_steps
  have hc8 : cs.length < 8 := by walk_at "a om"
  have hcA : ∀ k ∈ cs, 0 ≤ k ∧ k ≤ 1114111 := fun k hk => (menu_facts k (hm2 k hk)).1
  have hcB : ∀ k ∈ cs, 0 ≤ k ∧ hasSign sU k = true := fun k hk => (menu_facts k (hm2 k hk)).2.1
  have hcC : ∀ k ∈ cs, 0 ≤ k ∧ 0 < u8len k := fun k hk => (menu_facts k (hm2 k hk)).2.2.1
  have hcD : ∀ k ∈ cs, u8len k = lawSize k := fun k hk => (menu_facts k (hm2 k hk)).2.2.2
  have isU : IsCs (Str.ofString "utf-8") := isCs_U
  rename News _ _ _ _ => lN
  rename Fr _ _ _ _ => lF
  replace lN := news_erase 1 lN
  simp only [List.eraseIdx_cons_succ, List.eraseIdx_cons_zero] at lN
  replace lN := news_erase 1 lN
  simp only [List.eraseIdx_cons_succ, List.eraseIdx_cons_zero] at lN
  replace lN := news_erase 1 lN
  simp only [List.eraseIdx_cons_succ, List.eraseIdx_cons_zero] at lN
  repeat (rename And _ _ => cc9; clear cc9)
  refine map_list (fun i v => ∃ u, v = .str (one (cs.getD i 0)) u) lF lN rfl (by k_mem) hI2 (by walk_at "a om") ?_ ?_
  case refine_1 =>
    clear lN lF
    intro i9 u9 I9 oI9 C9 oC9 D9 m9 ys9 h9 tk9 E9 hi9 hC9 hx9 F9 N9 off9 ne9
    have off9' := off9
    simp only [LCg.Off3, and_true] at off9'
    obtain ⟨hc0, hc1⟩ := hcA _ (getD_mem hi9)
    try k_fold
    k_steps
  intro g3 ys3 hys3
  replace hys3 := hys3.strs
  rw [range_getD _ _ one] at hys3
  clear lN lF
  k_with_none
  k_with "x1" => ((refine wpAny_call ?_; first   | (refine' code_defG (news := []) ?k1x1 ?k2x1 ?k3x1 News.nil ?k5x1 ?kAx1 ?kFx1 ?kKx1 ?k6x1 ?k7x1 ?k8x1 ?k9x1 ?kBx1 ?_ ?c2x1 ?c3x1 ?c4x1 ?c5x1; (case kAx1 => exact rfl); (case kFx1 => exact rfl); (case kKx1 => assumption); (case k1x1 => k_asm); (case k2x1 => k_asm); (case k3x1 => k_asm); (case k5x1 => k_asm); (case k6x1 => k_is); (case k7x1 => k_is); (case k8x1 => ktr_room); (case k9x1 => exact BindsTo.of_eq rfl); (case c5x1 => decide); (case kBx1 => exact locs rfl); (case c2x1 => exact rfl); (case c3x1 => exact rfl); (case c4x1 => exact rfl); k_whole; intro gpq7 Lpq7 hpq7 FGpq7 Fpq7 Npq7 Bpq7 Xpq7 Tpq7 kGpq7; (try dsimp only); (try k_fold))   | (refine' code_defGC (news := []) ?k1x1 ?k2x1 ?k3x1 News.nil ?k5x1 ?kAx1 ?kFx1 ?kKx1 ?k6x1 ?k7x1 ?k8x1 ?k9x1 ?kBx1 ?kDx1 ?_ ?c2x1 ?c3x1 ?c4x1; (case kAx1 => exact rfl); (case kFx1 => exact rfl); (case kKx1 => assumption); (case k1x1 => k_asm); (case k2x1 => k_asm); (case k3x1 => k_asm); (case k5x1 => k_asm); (case k6x1 => k_is); (case k7x1 => k_is); (case k8x1 => ktr_room); (case k9x1 => exact BindsTo.of_eq rfl); (case kBx1 => exact rfl); (case kDx1 => decide +kernel); (case c2x1 => exact rfl); (case c3x1 => exact rfl); (case c4x1 => exact rfl); k_whole; intro gpq7 Lpq7 hpq7 tkpq7 cellspq7 FGpq7 Fpq7 Npq7 Ypq7 Bpq7 Xpq7 Tpq7 l1q7 kGpq7; clear l1q7; k_cells Ypq7; (try simp only [List.cons_append, List.nil_append] at Npq7); (try dsimp only); (try k_fold))))
  k_with "calls" => (cell_ask (c_need_charset _ _ _ (by assumption)))
  k_with "calls" => (cell_ask (c_has_sign _ _ _ _ _ (by assumption)))
  k_with "calls" => (cell_ask (c_utf8_octets _ _ _ (by assumption)))
  k_with "calls" => (cell_ask (c_utf8_sign _ _ _ _ _ (by first | assumption | omega) (by first | assumption | omega) (by first | assumption | omega)))
  k_with "calls" => (cell_ask (c_sign_at' _ _ _ _ _ _ _ (by assumption) (by first | assumption | omega) (by first | assumption | omega) (by first | assumption | omega)))
  k_with "x15" => ((intro zq7 h2q7 h3q7; (simp only [List.forall_mem_cons, List.not_mem_nil, false_implies, implies_true, and_true, ne_eq] at h2q7); (simp only [List.contains_cons, List.contains_nil, Bool.or_false, Bool.or_eq_false_iff, beq_eq_false_iff_ne, ne_eq] at h3q7); simp [kstB, h2q7, h3q7]))
  k_with "calls" => (cell_ask (c_text_in _ _ _ _ _ (by assumption) (by assumption)))
  k_with "calls" => (cell_ask (c_strict_text _ _ _ _ _ (by assumption) (by assumption) (by assumption)))
  k_with "x18" => ((k_here; k_dflt (refine item_text (by first | assumption | omega) (by first | assumption | omega) (by first | assumption | omega) ?_)))
  k_with "x19" => ((k_here; k_dflt (refine len_text (by first | assumption | omega) ?_)))
  k_with "x20" => ((k_here; k_dflt (refine ord_one (by first | assumption | omega) ?_)))
  k_with "calls" => (cell_ask (c_has_sign_true _ _ _ _ _ (by assumption) (by assumption)))
  k_with "x22" => ((intro zq7 h1q7 h2q7 h3q7; (simp only [List.forall_mem_cons, List.not_mem_nil, false_implies, implies_true, and_true, ne_eq] at h2q7); (simp only [List.contains_cons, List.contains_nil, Bool.or_false, Bool.or_eq_false_iff, beq_eq_false_iff_ne, ne_eq] at h3q7); simp [kstB, h1q7, h2q7, h3q7]))
  k_with "calls" => (cell_ask (c_octets_in0 _ _ _ _ _ (by assumption) (by first | assumption | omega) (by assumption)))
  k_with "calls" => (cell_ask (c_best_charset _ _ _ (by first | assumption | omega) (by assumption)))
  k_with "x50" => ((k_dflt ((show ¬ @Eq Nat _ _); intro e9q7; (repeat (rename And _ _ => c9q7; obtain ⟨_, _⟩ := c9q7)); first | exact absurd e9q7 (by assumption) | exact absurd e9q7.symm (by assumption) | exact absurd e9q7 (Nat.ne_of_lt (by assumption)) | exact absurd e9q7.symm (Nat.ne_of_lt (by assumption)) | omega)))
  k_with "x51" => ((refine neN ?_; (try dsimp only); intro e9q7; (rename And _ _ => c9q7); first | exact absurd e9q7 c9q7.1 | exact absurd e9q7 c9q7.2.1 | exact absurd e9q7 c9q7.2.2.1 | exact absurd e9q7 c9q7.2.2.2.1 | exact absurd e9q7 c9q7.2.2.2.2.1 | exact absurd e9q7 c9q7.2.2.2.2.2.1 | exact absurd e9q7 c9q7.2.2.2.2.2.2.1 | exact absurd e9q7 c9q7.2.2.2.2.2.2.2.1 | exact absurd e9q7 c9q7.2.2.2.2.2.2.2.2.1 | exact absurd e9q7 c9q7.2 | exact absurd e9q7 c9q7.2.2 | exact absurd e9q7 c9q7.2.2.2 | exact absurd e9q7 c9q7.2.2.2.2 | exact absurd e9q7 c9q7.2.2.2.2.2 | exact absurd e9q7 c9q7.2.2.2.2.2.2 | exact absurd e9q7 c9q7.2.2.2.2.2.2.2 | exact absurd e9q7 c9q7.2.2.2.2.2.2.2.2 | exact absurd e9q7 c9q7.2.2.2.2.2.2.2.2.2 | exact absurd e9q7.symm c9q7.1 | exact absurd e9q7.symm c9q7.2.1 | exact absurd e9q7.symm c9q7.2.2.1 | exact absurd e9q7.symm c9q7.2.2.2.1 | exact absurd e9q7.symm c9q7.2.2.2.2.1 | exact absurd e9q7.symm c9q7.2.2.2.2.2.1 | exact absurd e9q7.symm c9q7.2.2.2.2.2.2.1 | exact absurd e9q7.symm c9q7.2.2.2.2.2.2.2.1 | exact absurd e9q7.symm c9q7.2.2.2.2.2.2.2.2.1 | exact absurd e9q7.symm c9q7.2 | exact absurd e9q7.symm c9q7.2.2 | exact absurd e9q7.symm c9q7.2.2.2 | exact absurd e9q7.symm c9q7.2.2.2.2 | exact absurd e9q7.symm c9q7.2.2.2.2.2 | exact absurd e9q7.symm c9q7.2.2.2.2.2.2 | exact absurd e9q7.symm c9q7.2.2.2.2.2.2.2 | exact absurd e9q7.symm c9q7.2.2.2.2.2.2.2.2 | exact absurd e9q7.symm c9q7.2.2.2.2.2.2.2.2.2 | exact absurd e9q7 (Nat.ne_of_lt c9q7.1) | exact absurd e9q7 (Nat.ne_of_lt c9q7.2.1) | exact absurd e9q7 (Nat.ne_of_lt c9q7.2.2.1) | exact absurd e9q7 (Nat.ne_of_lt c9q7.2.2.2.1) | exact absurd e9q7 (Nat.ne_of_lt c9q7.2.2.2.2.1) | exact absurd e9q7 (Nat.ne_of_lt c9q7.2.2.2.2.2.1) | exact absurd e9q7 (Nat.ne_of_lt c9q7.2.2.2.2.2.2.1) | exact absurd e9q7 (Nat.ne_of_lt c9q7.2.2.2.2.2.2.2.1) | exact absurd e9q7 (Nat.ne_of_lt c9q7.2.2.2.2.2.2.2.2.1) | exact absurd e9q7 (Nat.ne_of_lt c9q7.2) | exact absurd e9q7 (Nat.ne_of_lt c9q7.2.2) | exact absurd e9q7 (Nat.ne_of_lt c9q7.2.2.2) | exact absurd e9q7 (Nat.ne_of_lt c9q7.2.2.2.2) | exact absurd e9q7 (Nat.ne_of_lt c9q7.2.2.2.2.2) | exact absurd e9q7 (Nat.ne_of_lt c9q7.2.2.2.2.2.2) | exact absurd e9q7 (Nat.ne_of_lt c9q7.2.2.2.2.2.2.2) | exact absurd e9q7 (Nat.ne_of_lt c9q7.2.2.2.2.2.2.2.2) | exact absurd e9q7 (Nat.ne_of_lt c9q7.2.2.2.2.2.2.2.2.2) | exact absurd e9q7.symm (Nat.ne_of_lt c9q7.1) | exact absurd e9q7.symm (Nat.ne_of_lt c9q7.2.1) | exact absurd e9q7.symm (Nat.ne_of_lt c9q7.2.2.1) | exact absurd e9q7.symm (Nat.ne_of_lt c9q7.2.2.2.1) | exact absurd e9q7.symm (Nat.ne_of_lt c9q7.2.2.2.2.1) | exact absurd e9q7.symm (Nat.ne_of_lt c9q7.2.2.2.2.2.1) | exact absurd e9q7.symm (Nat.ne_of_lt c9q7.2.2.2.2.2.2.1) | exact absurd e9q7.symm (Nat.ne_of_lt c9q7.2.2.2.2.2.2.2.1) | exact absurd e9q7.symm (Nat.ne_of_lt c9q7.2.2.2.2.2.2.2.2.1) | exact absurd e9q7.symm (Nat.ne_of_lt c9q7.2) | exact absurd e9q7.symm (Nat.ne_of_lt c9q7.2.2) | exact absurd e9q7.symm (Nat.ne_of_lt c9q7.2.2.2) | exact absurd e9q7.symm (Nat.ne_of_lt c9q7.2.2.2.2) | exact absurd e9q7.symm (Nat.ne_of_lt c9q7.2.2.2.2.2) | exact absurd e9q7.symm (Nat.ne_of_lt c9q7.2.2.2.2.2.2) | exact absurd e9q7.symm (Nat.ne_of_lt c9q7.2.2.2.2.2.2.2) | exact absurd e9q7.symm (Nat.ne_of_lt c9q7.2.2.2.2.2.2.2.2) | exact absurd e9q7.symm (Nat.ne_of_lt c9q7.2.2.2.2.2.2.2.2.2) | (clear c9q7; (rename And _ _ => c8q7); first | exact absurd e9q7 c8q7.1 | exact absurd e9q7 c8q7.2.1 | exact absurd e9q7 c8q7.2.2.1 | exact absurd e9q7 c8q7.2.2.2.1 | exact absurd e9q7 c8q7.2.2.2.2.1 | exact absurd e9q7 c8q7.2.2.2.2.2.1 | exact absurd e9q7 c8q7.2.2.2.2.2.2.1 | exact absurd e9q7 c8q7.2.2.2.2.2.2.2.1 | exact absurd e9q7 c8q7.2.2.2.2.2.2.2.2.1 | exact absurd e9q7 c8q7.2 | exact absurd e9q7 c8q7.2.2 | exact absurd e9q7 c8q7.2.2.2 | exact absurd e9q7 c8q7.2.2.2.2 | exact absurd e9q7 c8q7.2.2.2.2.2 | exact absurd e9q7 c8q7.2.2.2.2.2.2 | exact absurd e9q7 c8q7.2.2.2.2.2.2.2 | exact absurd e9q7 c8q7.2.2.2.2.2.2.2.2 | exact absurd e9q7 c8q7.2.2.2.2.2.2.2.2.2 | exact absurd e9q7.symm c8q7.1 | exact absurd e9q7.symm c8q7.2.1 | exact absurd e9q7.symm c8q7.2.2.1 | exact absurd e9q7.symm c8q7.2.2.2.1 | exact absurd e9q7.symm c8q7.2.2.2.2.1 | exact absurd e9q7.symm c8q7.2.2.2.2.2.1 | exact absurd e9q7.symm c8q7.2.2.2.2.2.2.1 | exact absurd e9q7.symm c8q7.2.2.2.2.2.2.2.1 | exact absurd e9q7.symm c8q7.2.2.2.2.2.2.2.2.1 | exact absurd e9q7.symm c8q7.2 | exact absurd e9q7.symm c8q7.2.2 | exact absurd e9q7.symm c8q7.2.2.2 | exact absurd e9q7.symm c8q7.2.2.2.2 | exact absurd e9q7.symm c8q7.2.2.2.2.2 | exact absurd e9q7.symm c8q7.2.2.2.2.2.2 | exact absurd e9q7.symm c8q7.2.2.2.2.2.2.2 | exact absurd e9q7.symm c8q7.2.2.2.2.2.2.2.2 | exact absurd e9q7.symm c8q7.2.2.2.2.2.2.2.2.2 | exact absurd e9q7 (Nat.ne_of_lt c8q7.1) | exact absurd e9q7 (Nat.ne_of_lt c8q7.2.1) | exact absurd e9q7 (Nat.ne_of_lt c8q7.2.2.1) | exact absurd e9q7 (Nat.ne_of_lt c8q7.2.2.2.1) | exact absurd e9q7 (Nat.ne_of_lt c8q7.2.2.2.2.1) | exact absurd e9q7 (Nat.ne_of_lt c8q7.2.2.2.2.2.1) | exact absurd e9q7 (Nat.ne_of_lt c8q7.2.2.2.2.2.2.1) | exact absurd e9q7 (Nat.ne_of_lt c8q7.2.2.2.2.2.2.2.1) | exact absurd e9q7 (Nat.ne_of_lt c8q7.2.2.2.2.2.2.2.2.1) | exact absurd e9q7 (Nat.ne_of_lt c8q7.2) | exact absurd e9q7 (Nat.ne_of_lt c8q7.2.2) | exact absurd e9q7 (Nat.ne_of_lt c8q7.2.2.2) | exact absurd e9q7 (Nat.ne_of_lt c8q7.2.2.2.2) | exact absurd e9q7 (Nat.ne_of_lt c8q7.2.2.2.2.2) | exact absurd e9q7 (Nat.ne_of_lt c8q7.2.2.2.2.2.2) | exact absurd e9q7 (Nat.ne_of_lt c8q7.2.2.2.2.2.2.2) | exact absurd e9q7 (Nat.ne_of_lt c8q7.2.2.2.2.2.2.2.2) | exact absurd e9q7 (Nat.ne_of_lt c8q7.2.2.2.2.2.2.2.2.2) | exact absurd e9q7.symm (Nat.ne_of_lt c8q7.1) | exact absurd e9q7.symm (Nat.ne_of_lt c8q7.2.1) | exact absurd e9q7.symm (Nat.ne_of_lt c8q7.2.2.1) | exact absurd e9q7.symm (Nat.ne_of_lt c8q7.2.2.2.1) | exact absurd e9q7.symm (Nat.ne_of_lt c8q7.2.2.2.2.1) | exact absurd e9q7.symm (Nat.ne_of_lt c8q7.2.2.2.2.2.1) | exact absurd e9q7.symm (Nat.ne_of_lt c8q7.2.2.2.2.2.2.1) | exact absurd e9q7.symm (Nat.ne_of_lt c8q7.2.2.2.2.2.2.2.1) | exact absurd e9q7.symm (Nat.ne_of_lt c8q7.2.2.2.2.2.2.2.2.1) | exact absurd e9q7.symm (Nat.ne_of_lt c8q7.2) | exact absurd e9q7.symm (Nat.ne_of_lt c8q7.2.2) | exact absurd e9q7.symm (Nat.ne_of_lt c8q7.2.2.2) | exact absurd e9q7.symm (Nat.ne_of_lt c8q7.2.2.2.2) | exact absurd e9q7.symm (Nat.ne_of_lt c8q7.2.2.2.2.2) | exact absurd e9q7.symm (Nat.ne_of_lt c8q7.2.2.2.2.2.2) | exact absurd e9q7.symm (Nat.ne_of_lt c8q7.2.2.2.2.2.2.2) | exact absurd e9q7.symm (Nat.ne_of_lt c8q7.2.2.2.2.2.2.2.2) | exact absurd e9q7.symm (Nat.ne_of_lt c8q7.2.2.2.2.2.2.2.2.2))))
  k_with "x52" => (((repeat (rename And _ _ => c9q7; clear c9q7)); omega))
  k_with "x53" => ((k_here; (with_reducible show wpAny _ _ (eval (Expr.ListComp _ [PySem.Comprehension.mk _ _ [] _] _ _) _) _ _ _); k_dflt (refine lcU (by k_asm) (by with_unfolding_all rfl) (by decide) (by rfl) (by decide) (by rfl) ?_)))
  k_with "x54" => ((k_here; (with_reducible show wpAny _ _ (eval (Expr.ListComp _ [PySem.Comprehension.mk _ _ [_] _] _ _) _) _ _ _); k_dflt (refine lcT (by k_asm) (by with_unfolding_all rfl) (by decide) (by rfl) (by decide) (by rfl) ?_)))
  k_with "x55" => ((k_here; k_dflt (refine lcAU (by k_asm) (by rfl) (by with_unfolding_all rfl) (by with_unfolding_all rfl) (by decide) (by rfl) (by decide) (by rfl) (by rfl) (by rfl) ?_)))
  k_with "x56" => ((k_here; (with_reducible show wpAny _ _ (call (Value.ref 147) _) _ _ _); k_dflt (refine' pd_use (c_draw _ _ _ ?h1x56 ?h2x56) ?k1x56 ?k2x56 ?k3x56 ?k4x56 ?kKx56 ?k5x56 ?kdx56 ?kux56 ?m1x56 ?m2x56 ?pqx56 ?hIx56 ?hlx56 ?hxx56 ?hx2x56 ?hyx56 ?_; (case k1x56 => k_asm); (case k2x56 => k_asm); (case k3x56 => k_asm); (case k4x56 => k_asm); (case kKx56 => first | exact rfl | assumption); (case k5x56 => k_asm); (case kdx56 => ktr_room); (case kux56 => ktr_units); (case m1x56 => k_mem); (case m2x56 => k_mem); (case pqx56 => first | assumption | walk_at "a ne"); (case hIx56 => assumption); (case hlx56 => first | assumption | walk_at "a om"); (case hxx56 => first | assumption | walk_at "a om"); (case hx2x56 => first | assumption | walk_at "a om"); (case hyx56 => first | assumption | walk_at "a om"); (case h1x56 => walk_at "a om"); (case h2x56 => walk_at "a om")); (rintro r9q7 v9q7 x9q7 tx9q7 y9q7 ty9q7 h9q7 tk9q7 F9q7 N9q7 r1q7 r2q7 x1q7 x2q7 y1q7 ⟨t9q7, e9q7⟩); (subst e9q7); (simp only [List.map_cons, List.map_nil] at N9q7); (repeat (first | rw [if_pos trivial] at N9q7 | rw [if_pos rfl] at N9q7 | rw [if_neg (by walk_at "a ne")] at N9q7)); (try dsimp only)))
  k_with "x57" => ((k_here; (with_reducible show wpAny _ _ (call (Value.ref 154) _) _ _ _); k_dflt (k_extra "my pick")))
  k_with "x58" => ((k_here; (with_reducible refine gm_bjoin ?_)))
  k_with "x59" => ((k_here; k_dflt (refine ne_same (by with_unfolding_all rfl) ?_)))
  k_with "x60" => ((k_here; k_dflt (refine ne_same_b (by with_unfolding_all rfl) ?_)))
  k_with "x61" => (((show GoodW _ _ _ _ _ (.ok (.ret (.bool true))) _); (refine goodW_bool (by assumption) (by assumption) (raisesW_false ?nnx61) ?ppx61); (case nnx61 => wrow_none_raised); (case ppx61 => with_unfolding_all rfl)))
  k_with "x62" => ((intro i9q7 u9q7 I9q7 oI9q7 C9q7 oC9q7 D9q7 m9q7 ys9q7 h9q7 tk9q7 E9q7 hi9q7 hC9q7 hx9q7 F9q7 N9q7 off9q7 ne9q7; (have off9pq7 := off9q7); (simp only [LCg.Off3, and_true] at off9pq7); (try k_fold)))
  k_with "x63" => ((rename News _ _ _ _ => nEq7; exact LCg.CompEnd.intro (by assumption) nEq7 _ (by lcg_sub) (by assumption) (by first | trivial | k_mem) ⟨rfl, _, rfl⟩))
  k_with "my cend" =>
    (walk_at "turn out")
  k_with "my join" =>
    (refine join_ones (News.isList (by k_asm) (by k_mem)) (by assumption) (by walk_at "a om") ?_)
    (intro t9 k9)
    (try dsimp only)
  k_steps
  rename News _ _ _ _ => lN
  rename Fr _ _ _ _ => lF
  replace lN := news_erase 0 lN
  simp only [List.eraseIdx_cons_succ, List.eraseIdx_cons_zero] at lN
  repeat (rename And _ _ => cc9; clear cc9)
  refine map_text (fun i v => ∃ u, v = .bytes (toB (encAll (decide (Str.ofString "utf-8" = sU)) [cs.getD i 0])).toArray u) lF lN rfl (by walk_at "a om") ?_ ?_
  case refine_1 =>
    clear lN lF
    intro i9 u9 I9 oI9 C9 oC9 D9 m9 ys9 h9 tk9 E9 hi9 hC9 hx9 F9 N9 off9 ne9
    have off9' := off9
    simp only [LCg.Off3, and_true] at off9'
    replace hx9 : m9 (Str.ofString "sign") = some (Value.str (textOf [cs.getD i9 0]) u9) := hx9
    have h1 : ∀ c ∈ [cs.getD i9 0], 0 ≤ c ∧ hasSign (Str.ofString "utf-8") c = true := fun c hc => by rw [List.mem_singleton.mp hc]; exact hcB _ (getD_mem hi9)
    k_with "my call" =>
      (cell_ask (c_octets_in0 _ (Str.ofString "utf-8") [cs.getD i9 0] _ _ isU (show (1 : Nat) < 100 by decide) h1))
    try k_fold
    k_steps
  intro g4 ys4 hys4
  replace hys4 := hys4.bytes
  rw [range_getD _ _ fun c => toB (encAll (decide (Str.ofString "utf-8" = sU)) [c])] at hys4
  clear lN lF
  have hfl : (cs.map fun c => toB (encAll (decide (Str.ofString "utf-8" = sU)) [c])).flatten = toB (encAll (decide (Str.ofString "utf-8" = sU)) cs) := by
    clear hys4
    simp only [toB, encAll, List.map_flatMap, List.flatMap_singleton, List.flatten_eq_flatMap, List.flatMap_map]
    rfl
  k_with_none
  k_with "x1" => ((refine wpAny_call ?_; first   | (refine' code_defG (news := []) ?k1x1 ?k2x1 ?k3x1 News.nil ?k5x1 ?kAx1 ?kFx1 ?kKx1 ?k6x1 ?k7x1 ?k8x1 ?k9x1 ?kBx1 ?_ ?c2x1 ?c3x1 ?c4x1 ?c5x1; (case kAx1 => exact rfl); (case kFx1 => exact rfl); (case kKx1 => assumption); (case k1x1 => k_asm); (case k2x1 => k_asm); (case k3x1 => k_asm); (case k5x1 => k_asm); (case k6x1 => k_is); (case k7x1 => k_is); (case k8x1 => ktr_room); (case k9x1 => exact BindsTo.of_eq rfl); (case c5x1 => decide); (case kBx1 => exact locs rfl); (case c2x1 => exact rfl); (case c3x1 => exact rfl); (case c4x1 => exact rfl); k_whole; intro gpq7 Lpq7 hpq7 FGpq7 Fpq7 Npq7 Bpq7 Xpq7 Tpq7 kGpq7; (try dsimp only); (try k_fold))   | (refine' code_defGC (news := []) ?k1x1 ?k2x1 ?k3x1 News.nil ?k5x1 ?kAx1 ?kFx1 ?kKx1 ?k6x1 ?k7x1 ?k8x1 ?k9x1 ?kBx1 ?kDx1 ?_ ?c2x1 ?c3x1 ?c4x1; (case kAx1 => exact rfl); (case kFx1 => exact rfl); (case kKx1 => assumption); (case k1x1 => k_asm); (case k2x1 => k_asm); (case k3x1 => k_asm); (case k5x1 => k_asm); (case k6x1 => k_is); (case k7x1 => k_is); (case k8x1 => ktr_room); (case k9x1 => exact BindsTo.of_eq rfl); (case kBx1 => exact rfl); (case kDx1 => decide +kernel); (case c2x1 => exact rfl); (case c3x1 => exact rfl); (case c4x1 => exact rfl); k_whole; intro gpq7 Lpq7 hpq7 tkpq7 cellspq7 FGpq7 Fpq7 Npq7 Ypq7 Bpq7 Xpq7 Tpq7 l1q7 kGpq7; clear l1q7; k_cells Ypq7; (try simp only [List.cons_append, List.nil_append] at Npq7); (try dsimp only); (try k_fold))))
  k_with "calls" => (cell_ask (c_need_charset _ _ _ (by assumption)))
  k_with "calls" => (cell_ask (c_has_sign _ _ _ _ _ (by assumption)))
  k_with "calls" => (cell_ask (c_utf8_octets _ _ _ (by assumption)))
  k_with "calls" => (cell_ask (c_utf8_sign _ _ _ _ _ (by first | assumption | omega) (by first | assumption | omega) (by first | assumption | omega)))
  k_with "calls" => (cell_ask (c_sign_at' _ _ _ _ _ _ _ (by assumption) (by first | assumption | omega) (by first | assumption | omega) (by first | assumption | omega)))
  k_with "x15" => ((intro zq7 h2q7 h3q7; (simp only [List.forall_mem_cons, List.not_mem_nil, false_implies, implies_true, and_true, ne_eq] at h2q7); (simp only [List.contains_cons, List.contains_nil, Bool.or_false, Bool.or_eq_false_iff, beq_eq_false_iff_ne, ne_eq] at h3q7); simp [kstB, h2q7, h3q7]))
  k_with "calls" => (cell_ask (c_text_in _ _ _ _ _ (by assumption) (by assumption)))
  k_with "calls" => (cell_ask (c_strict_text _ _ _ _ _ (by assumption) (by assumption) (by assumption)))
  k_with "x18" => ((k_here; k_dflt (refine item_text (by first | assumption | omega) (by first | assumption | omega) (by first | assumption | omega) ?_)))
  k_with "x19" => ((k_here; k_dflt (refine len_text (by first | assumption | omega) ?_)))
  k_with "x20" => ((k_here; k_dflt (refine ord_one (by first | assumption | omega) ?_)))
  k_with "calls" => (cell_ask (c_has_sign_true _ _ _ _ _ (by assumption) (by assumption)))
  k_with "x22" => ((intro zq7 h1q7 h2q7 h3q7; (simp only [List.forall_mem_cons, List.not_mem_nil, false_implies, implies_true, and_true, ne_eq] at h2q7); (simp only [List.contains_cons, List.contains_nil, Bool.or_false, Bool.or_eq_false_iff, beq_eq_false_iff_ne, ne_eq] at h3q7); simp [kstB, h1q7, h2q7, h3q7]))
  k_with "calls" => (cell_ask (c_octets_in0 _ _ _ _ _ (by assumption) (by first | assumption | omega) (by assumption)))
  k_with "calls" => (cell_ask (c_best_charset _ _ _ (by first | assumption | omega) (by assumption)))
  k_with "x50" => ((k_dflt ((show ¬ @Eq Nat _ _); intro e9q7; (repeat (rename And _ _ => c9q7; obtain ⟨_, _⟩ := c9q7)); first | exact absurd e9q7 (by assumption) | exact absurd e9q7.symm (by assumption) | exact absurd e9q7 (Nat.ne_of_lt (by assumption)) | exact absurd e9q7.symm (Nat.ne_of_lt (by assumption)) | omega)))
  k_with "x51" => ((refine neN ?_; (try dsimp only); intro e9q7; (rename And _ _ => c9q7); first | exact absurd e9q7 c9q7.1 | exact absurd e9q7 c9q7.2.1 | exact absurd e9q7 c9q7.2.2.1 | exact absurd e9q7 c9q7.2.2.2.1 | exact absurd e9q7 c9q7.2.2.2.2.1 | exact absurd e9q7 c9q7.2.2.2.2.2.1 | exact absurd e9q7 c9q7.2.2.2.2.2.2.1 | exact absurd e9q7 c9q7.2.2.2.2.2.2.2.1 | exact absurd e9q7 c9q7.2.2.2.2.2.2.2.2.1 | exact absurd e9q7 c9q7.2 | exact absurd e9q7 c9q7.2.2 | exact absurd e9q7 c9q7.2.2.2 | exact absurd e9q7 c9q7.2.2.2.2 | exact absurd e9q7 c9q7.2.2.2.2.2 | exact absurd e9q7 c9q7.2.2.2.2.2.2 | exact absurd e9q7 c9q7.2.2.2.2.2.2.2 | exact absurd e9q7 c9q7.2.2.2.2.2.2.2.2 | exact absurd e9q7 c9q7.2.2.2.2.2.2.2.2.2 | exact absurd e9q7.symm c9q7.1 | exact absurd e9q7.symm c9q7.2.1 | exact absurd e9q7.symm c9q7.2.2.1 | exact absurd e9q7.symm c9q7.2.2.2.1 | exact absurd e9q7.symm c9q7.2.2.2.2.1 | exact absurd e9q7.symm c9q7.2.2.2.2.2.1 | exact absurd e9q7.symm c9q7.2.2.2.2.2.2.1 | exact absurd e9q7.symm c9q7.2.2.2.2.2.2.2.1 | exact absurd e9q7.symm c9q7.2.2.2.2.2.2.2.2.1 | exact absurd e9q7.symm c9q7.2 | exact absurd e9q7.symm c9q7.2.2 | exact absurd e9q7.symm c9q7.2.2.2 | exact absurd e9q7.symm c9q7.2.2.2.2 | exact absurd e9q7.symm c9q7.2.2.2.2.2 | exact absurd e9q7.symm c9q7.2.2.2.2.2.2 | exact absurd e9q7.symm c9q7.2.2.2.2.2.2.2 | exact absurd e9q7.symm c9q7.2.2.2.2.2.2.2.2 | exact absurd e9q7.symm c9q7.2.2.2.2.2.2.2.2.2 | exact absurd e9q7 (Nat.ne_of_lt c9q7.1) | exact absurd e9q7 (Nat.ne_of_lt c9q7.2.1) | exact absurd e9q7 (Nat.ne_of_lt c9q7.2.2.1) | exact absurd e9q7 (Nat.ne_of_lt c9q7.2.2.2.1) | exact absurd e9q7 (Nat.ne_of_lt c9q7.2.2.2.2.1) | exact absurd e9q7 (Nat.ne_of_lt c9q7.2.2.2.2.2.1) | exact absurd e9q7 (Nat.ne_of_lt c9q7.2.2.2.2.2.2.1) | exact absurd e9q7 (Nat.ne_of_lt c9q7.2.2.2.2.2.2.2.1) | exact absurd e9q7 (Nat.ne_of_lt c9q7.2.2.2.2.2.2.2.2.1) | exact absurd e9q7 (Nat.ne_of_lt c9q7.2) | exact absurd e9q7 (Nat.ne_of_lt c9q7.2.2) | exact absurd e9q7 (Nat.ne_of_lt c9q7.2.2.2) | exact absurd e9q7 (Nat.ne_of_lt c9q7.2.2.2.2) | exact absurd e9q7 (Nat.ne_of_lt c9q7.2.2.2.2.2) | exact absurd e9q7 (Nat.ne_of_lt c9q7.2.2.2.2.2.2) | exact absurd e9q7 (Nat.ne_of_lt c9q7.2.2.2.2.2.2.2) | exact absurd e9q7 (Nat.ne_of_lt c9q7.2.2.2.2.2.2.2.2) | exact absurd e9q7 (Nat.ne_of_lt c9q7.2.2.2.2.2.2.2.2.2) | exact absurd e9q7.symm (Nat.ne_of_lt c9q7.1) | exact absurd e9q7.symm (Nat.ne_of_lt c9q7.2.1) | exact absurd e9q7.symm (Nat.ne_of_lt c9q7.2.2.1) | exact absurd e9q7.symm (Nat.ne_of_lt c9q7.2.2.2.1) | exact absurd e9q7.symm (Nat.ne_of_lt c9q7.2.2.2.2.1) | exact absurd e9q7.symm (Nat.ne_of_lt c9q7.2.2.2.2.2.1) | exact absurd e9q7.symm (Nat.ne_of_lt c9q7.2.2.2.2.2.2.1) | exact absurd e9q7.symm (Nat.ne_of_lt c9q7.2.2.2.2.2.2.2.1) | exact absurd e9q7.symm (Nat.ne_of_lt c9q7.2.2.2.2.2.2.2.2.1) | exact absurd e9q7.symm (Nat.ne_of_lt c9q7.2) | exact absurd e9q7.symm (Nat.ne_of_lt c9q7.2.2) | exact absurd e9q7.symm (Nat.ne_of_lt c9q7.2.2.2) | exact absurd e9q7.symm (Nat.ne_of_lt c9q7.2.2.2.2) | exact absurd e9q7.symm (Nat.ne_of_lt c9q7.2.2.2.2.2) | exact absurd e9q7.symm (Nat.ne_of_lt c9q7.2.2.2.2.2.2) | exact absurd e9q7.symm (Nat.ne_of_lt c9q7.2.2.2.2.2.2.2) | exact absurd e9q7.symm (Nat.ne_of_lt c9q7.2.2.2.2.2.2.2.2) | exact absurd e9q7.symm (Nat.ne_of_lt c9q7.2.2.2.2.2.2.2.2.2) | (clear c9q7; (rename And _ _ => c8q7); first | exact absurd e9q7 c8q7.1 | exact absurd e9q7 c8q7.2.1 | exact absurd e9q7 c8q7.2.2.1 | exact absurd e9q7 c8q7.2.2.2.1 | exact absurd e9q7 c8q7.2.2.2.2.1 | exact absurd e9q7 c8q7.2.2.2.2.2.1 | exact absurd e9q7 c8q7.2.2.2.2.2.2.1 | exact absurd e9q7 c8q7.2.2.2.2.2.2.2.1 | exact absurd e9q7 c8q7.2.2.2.2.2.2.2.2.1 | exact absurd e9q7 c8q7.2 | exact absurd e9q7 c8q7.2.2 | exact absurd e9q7 c8q7.2.2.2 | exact absurd e9q7 c8q7.2.2.2.2 | exact absurd e9q7 c8q7.2.2.2.2.2 | exact absurd e9q7 c8q7.2.2.2.2.2.2 | exact absurd e9q7 c8q7.2.2.2.2.2.2.2 | exact absurd e9q7 c8q7.2.2.2.2.2.2.2.2 | exact absurd e9q7 c8q7.2.2.2.2.2.2.2.2.2 | exact absurd e9q7.symm c8q7.1 | exact absurd e9q7.symm c8q7.2.1 | exact absurd e9q7.symm c8q7.2.2.1 | exact absurd e9q7.symm c8q7.2.2.2.1 | exact absurd e9q7.symm c8q7.2.2.2.2.1 | exact absurd e9q7.symm c8q7.2.2.2.2.2.1 | exact absurd e9q7.symm c8q7.2.2.2.2.2.2.1 | exact absurd e9q7.symm c8q7.2.2.2.2.2.2.2.1 | exact absurd e9q7.symm c8q7.2.2.2.2.2.2.2.2.1 | exact absurd e9q7.symm c8q7.2 | exact absurd e9q7.symm c8q7.2.2 | exact absurd e9q7.symm c8q7.2.2.2 | exact absurd e9q7.symm c8q7.2.2.2.2 | exact absurd e9q7.symm c8q7.2.2.2.2.2 | exact absurd e9q7.symm c8q7.2.2.2.2.2.2 | exact absurd e9q7.symm c8q7.2.2.2.2.2.2.2 | exact absurd e9q7.symm c8q7.2.2.2.2.2.2.2.2 | exact absurd e9q7.symm c8q7.2.2.2.2.2.2.2.2.2 | exact absurd e9q7 (Nat.ne_of_lt c8q7.1) | exact absurd e9q7 (Nat.ne_of_lt c8q7.2.1) | exact absurd e9q7 (Nat.ne_of_lt c8q7.2.2.1) | exact absurd e9q7 (Nat.ne_of_lt c8q7.2.2.2.1) | exact absurd e9q7 (Nat.ne_of_lt c8q7.2.2.2.2.1) | exact absurd e9q7 (Nat.ne_of_lt c8q7.2.2.2.2.2.1) | exact absurd e9q7 (Nat.ne_of_lt c8q7.2.2.2.2.2.2.1) | exact absurd e9q7 (Nat.ne_of_lt c8q7.2.2.2.2.2.2.2.1) | exact absurd e9q7 (Nat.ne_of_lt c8q7.2.2.2.2.2.2.2.2.1) | exact absurd e9q7 (Nat.ne_of_lt c8q7.2) | exact absurd e9q7 (Nat.ne_of_lt c8q7.2.2) | exact absurd e9q7 (Nat.ne_of_lt c8q7.2.2.2) | exact absurd e9q7 (Nat.ne_of_lt c8q7.2.2.2.2) | exact absurd e9q7 (Nat.ne_of_lt c8q7.2.2.2.2.2) | exact absurd e9q7 (Nat.ne_of_lt c8q7.2.2.2.2.2.2) | exact absurd e9q7 (Nat.ne_of_lt c8q7.2.2.2.2.2.2.2) | exact absurd e9q7 (Nat.ne_of_lt c8q7.2.2.2.2.2.2.2.2) | exact absurd e9q7 (Nat.ne_of_lt c8q7.2.2.2.2.2.2.2.2.2) | exact absurd e9q7.symm (Nat.ne_of_lt c8q7.1) | exact absurd e9q7.symm (Nat.ne_of_lt c8q7.2.1) | exact absurd e9q7.symm (Nat.ne_of_lt c8q7.2.2.1) | exact absurd e9q7.symm (Nat.ne_of_lt c8q7.2.2.2.1) | exact absurd e9q7.symm (Nat.ne_of_lt c8q7.2.2.2.2.1) | exact absurd e9q7.symm (Nat.ne_of_lt c8q7.2.2.2.2.2.1) | exact absurd e9q7.symm (Nat.ne_of_lt c8q7.2.2.2.2.2.2.1) | exact absurd e9q7.symm (Nat.ne_of_lt c8q7.2.2.2.2.2.2.2.1) | exact absurd e9q7.symm (Nat.ne_of_lt c8q7.2.2.2.2.2.2.2.2.1) | exact absurd e9q7.symm (Nat.ne_of_lt c8q7.2) | exact absurd e9q7.symm (Nat.ne_of_lt c8q7.2.2) | exact absurd e9q7.symm (Nat.ne_of_lt c8q7.2.2.2) | exact absurd e9q7.symm (Nat.ne_of_lt c8q7.2.2.2.2) | exact absurd e9q7.symm (Nat.ne_of_lt c8q7.2.2.2.2.2) | exact absurd e9q7.symm (Nat.ne_of_lt c8q7.2.2.2.2.2.2) | exact absurd e9q7.symm (Nat.ne_of_lt c8q7.2.2.2.2.2.2.2) | exact absurd e9q7.symm (Nat.ne_of_lt c8q7.2.2.2.2.2.2.2.2) | exact absurd e9q7.symm (Nat.ne_of_lt c8q7.2.2.2.2.2.2.2.2.2))))
  k_with "x52" => (((repeat (rename And _ _ => c9q7; clear c9q7)); omega))
  k_with "x53" => ((k_here; (with_reducible show wpAny _ _ (eval (Expr.ListComp _ [PySem.Comprehension.mk _ _ [] _] _ _) _) _ _ _); k_dflt (refine lcU (by k_asm) (by with_unfolding_all rfl) (by decide) (by rfl) (by decide) (by rfl) ?_)))
  k_with "x54" => ((k_here; (with_reducible show wpAny _ _ (eval (Expr.ListComp _ [PySem.Comprehension.mk _ _ [_] _] _ _) _) _ _ _); k_dflt (refine lcT (by k_asm) (by with_unfolding_all rfl) (by decide) (by rfl) (by decide) (by rfl) ?_)))
  k_with "x55" => ((k_here; k_dflt (refine lcAU (by k_asm) (by rfl) (by with_unfolding_all rfl) (by with_unfolding_all rfl) (by decide) (by rfl) (by decide) (by rfl) (by rfl) (by rfl) ?_)))
  k_with "x56" => ((k_here; (with_reducible show wpAny _ _ (call (Value.ref 147) _) _ _ _); k_dflt (refine' pd_use (c_draw _ _ _ ?h1x56 ?h2x56) ?k1x56 ?k2x56 ?k3x56 ?k4x56 ?kKx56 ?k5x56 ?kdx56 ?kux56 ?m1x56 ?m2x56 ?pqx56 ?hIx56 ?hlx56 ?hxx56 ?hx2x56 ?hyx56 ?_; (case k1x56 => k_asm); (case k2x56 => k_asm); (case k3x56 => k_asm); (case k4x56 => k_asm); (case kKx56 => first | exact rfl | assumption); (case k5x56 => k_asm); (case kdx56 => ktr_room); (case kux56 => ktr_units); (case m1x56 => k_mem); (case m2x56 => k_mem); (case pqx56 => first | assumption | walk_at "a ne"); (case hIx56 => assumption); (case hlx56 => first | assumption | walk_at "a om"); (case hxx56 => first | assumption | walk_at "a om"); (case hx2x56 => first | assumption | walk_at "a om"); (case hyx56 => first | assumption | walk_at "a om"); (case h1x56 => walk_at "a om"); (case h2x56 => walk_at "a om")); (rintro r9q7 v9q7 x9q7 tx9q7 y9q7 ty9q7 h9q7 tk9q7 F9q7 N9q7 r1q7 r2q7 x1q7 x2q7 y1q7 ⟨t9q7, e9q7⟩); (subst e9q7); (simp only [List.map_cons, List.map_nil] at N9q7); (repeat (first | rw [if_pos trivial] at N9q7 | rw [if_pos rfl] at N9q7 | rw [if_neg (by walk_at "a ne")] at N9q7)); (try dsimp only)))
  k_with "x57" => ((k_here; (with_reducible show wpAny _ _ (call (Value.ref 154) _) _ _ _); k_dflt (k_extra "my pick")))
  k_with "x58" => ((k_here; (with_reducible refine gm_bjoin ?_)))
  k_with "x59" => ((k_here; k_dflt (refine ne_same (by with_unfolding_all rfl) ?_)))
  k_with "x60" => ((k_here; k_dflt (refine ne_same_b (by with_unfolding_all rfl) ?_)))
  k_with "x61" => (((show GoodW _ _ _ _ _ (.ok (.ret (.bool true))) _); (refine goodW_bool (by assumption) (by assumption) (raisesW_false ?nnx61) ?ppx61); (case nnx61 => wrow_none_raised); (case ppx61 => with_unfolding_all rfl)))
  k_with "x62" => ((intro i9q7 u9q7 I9q7 oI9q7 C9q7 oC9q7 D9q7 m9q7 ys9q7 h9q7 tk9q7 E9q7 hi9q7 hC9q7 hx9q7 F9q7 N9q7 off9q7 ne9q7; (have off9pq7 := off9q7); (simp only [LCg.Off3, and_true] at off9pq7); (try k_fold)))
  k_with "x63" => ((rename News _ _ _ _ => nEq7; exact LCg.CompEnd.intro (by assumption) nEq7 _ (by lcg_sub) (by assumption) (by first | trivial | k_mem) ⟨rfl, _, rfl⟩))
  k_with "my cend" =>
    (walk_at "turn out")
  k_with "my bjoin" =>
    (refine call_bjoin (News.isList (by k_asm) (by k_mem)) (by assumption) (by rw [hfl]; unfold toB; rw [List.length_map]; have := encAll_len (decide (Str.ofString "utf-8" = sU)) cs; walk_at "a om") ?_)
    (rw [hfl])
    (intro t9 k9)
    (try dsimp only)
  k_steps
  have hE : cs.map u8len = cs.map lawSize := List.map_congr_left hcD
  rename News _ _ _ _ => lN
  rename Fr _ _ _ _ => lF
  replace lN := news_erase 0 lN
  simp only [List.eraseIdx_cons_succ, List.eraseIdx_cons_zero] at lN
  repeat (rename And _ _ => cc9; clear cc9)
  refine map_list (fun i v => ∃ u, v = .int (u8len (cs.getD i 0)) u) lF lN rfl (by k_mem) hI2 (by walk_at "a om") ?_ ?_
  case refine_1 =>
    clear lN lF
    walk_at "turn in"
    k_steps
  intro g5 ys5 hys5
  replace hys5 := hys5.ints
  rw [range_getD _ _ u8len] at hys5
  clear lN lF
  k_with_none
  k_with "x1" => ((refine wpAny_call ?_; first   | (refine' code_defG (news := []) ?k1x1 ?k2x1 ?k3x1 News.nil ?k5x1 ?kAx1 ?kFx1 ?kKx1 ?k6x1 ?k7x1 ?k8x1 ?k9x1 ?kBx1 ?_ ?c2x1 ?c3x1 ?c4x1 ?c5x1; (case kAx1 => exact rfl); (case kFx1 => exact rfl); (case kKx1 => assumption); (case k1x1 => k_asm); (case k2x1 => k_asm); (case k3x1 => k_asm); (case k5x1 => k_asm); (case k6x1 => k_is); (case k7x1 => k_is); (case k8x1 => ktr_room); (case k9x1 => exact BindsTo.of_eq rfl); (case c5x1 => decide); (case kBx1 => exact locs rfl); (case c2x1 => exact rfl); (case c3x1 => exact rfl); (case c4x1 => exact rfl); k_whole; intro gpq7 Lpq7 hpq7 FGpq7 Fpq7 Npq7 Bpq7 Xpq7 Tpq7 kGpq7; (try dsimp only); (try k_fold))   | (refine' code_defGC (news := []) ?k1x1 ?k2x1 ?k3x1 News.nil ?k5x1 ?kAx1 ?kFx1 ?kKx1 ?k6x1 ?k7x1 ?k8x1 ?k9x1 ?kBx1 ?kDx1 ?_ ?c2x1 ?c3x1 ?c4x1; (case kAx1 => exact rfl); (case kFx1 => exact rfl); (case kKx1 => assumption); (case k1x1 => k_asm); (case k2x1 => k_asm); (case k3x1 => k_asm); (case k5x1 => k_asm); (case k6x1 => k_is); (case k7x1 => k_is); (case k8x1 => ktr_room); (case k9x1 => exact BindsTo.of_eq rfl); (case kBx1 => exact rfl); (case kDx1 => decide +kernel); (case c2x1 => exact rfl); (case c3x1 => exact rfl); (case c4x1 => exact rfl); k_whole; intro gpq7 Lpq7 hpq7 tkpq7 cellspq7 FGpq7 Fpq7 Npq7 Ypq7 Bpq7 Xpq7 Tpq7 l1q7 kGpq7; clear l1q7; k_cells Ypq7; (try simp only [List.cons_append, List.nil_append] at Npq7); (try dsimp only); (try k_fold))))
  k_with "calls" => (cell_ask (c_need_charset _ _ _ (by assumption)))
  k_with "calls" => (cell_ask (c_has_sign _ _ _ _ _ (by assumption)))
  k_with "calls" => (cell_ask (c_utf8_octets _ _ _ (by assumption)))
  k_with "calls" => (cell_ask (c_utf8_sign _ _ _ _ _ (by first | assumption | omega) (by first | assumption | omega) (by first | assumption | omega)))
  k_with "calls" => (cell_ask (c_sign_at' _ _ _ _ _ _ _ (by assumption) (by first | assumption | omega) (by first | assumption | omega) (by first | assumption | omega)))
  k_with "x15" => ((intro zq7 h2q7 h3q7; (simp only [List.forall_mem_cons, List.not_mem_nil, false_implies, implies_true, and_true, ne_eq] at h2q7); (simp only [List.contains_cons, List.contains_nil, Bool.or_false, Bool.or_eq_false_iff, beq_eq_false_iff_ne, ne_eq] at h3q7); simp [kstB, h2q7, h3q7]))
  k_with "calls" => (cell_ask (c_text_in _ _ _ _ _ (by assumption) (by assumption)))
  k_with "calls" => (cell_ask (c_strict_text _ _ _ _ _ (by assumption) (by assumption) (by assumption)))
  k_with "x18" => ((k_here; k_dflt (refine item_text (by first | assumption | omega) (by first | assumption | omega) (by first | assumption | omega) ?_)))
  k_with "x19" => ((k_here; k_dflt (refine len_text (by first | assumption | omega) ?_)))
  k_with "x20" => ((k_here; k_dflt (refine ord_one (by first | assumption | omega) ?_)))
  k_with "calls" => (cell_ask (c_has_sign_true _ _ _ _ _ (by assumption) (by assumption)))
  k_with "x22" => ((intro zq7 h1q7 h2q7 h3q7; (simp only [List.forall_mem_cons, List.not_mem_nil, false_implies, implies_true, and_true, ne_eq] at h2q7); (simp only [List.contains_cons, List.contains_nil, Bool.or_false, Bool.or_eq_false_iff, beq_eq_false_iff_ne, ne_eq] at h3q7); simp [kstB, h1q7, h2q7, h3q7]))
  k_with "calls" => (cell_ask (c_octets_in0 _ _ _ _ _ (by assumption) (by first | assumption | omega) (by assumption)))
  k_with "calls" => (cell_ask (c_best_charset _ _ _ (by first | assumption | omega) (by assumption)))
  k_with "x50" => ((k_dflt ((show ¬ @Eq Nat _ _); intro e9q7; (repeat (rename And _ _ => c9q7; obtain ⟨_, _⟩ := c9q7)); first | exact absurd e9q7 (by assumption) | exact absurd e9q7.symm (by assumption) | exact absurd e9q7 (Nat.ne_of_lt (by assumption)) | exact absurd e9q7.symm (Nat.ne_of_lt (by assumption)) | omega)))
  k_with "x51" => ((refine neN ?_; (try dsimp only); intro e9q7; (rename And _ _ => c9q7); first | exact absurd e9q7 c9q7.1 | exact absurd e9q7 c9q7.2.1 | exact absurd e9q7 c9q7.2.2.1 | exact absurd e9q7 c9q7.2.2.2.1 | exact absurd e9q7 c9q7.2.2.2.2.1 | exact absurd e9q7 c9q7.2.2.2.2.2.1 | exact absurd e9q7 c9q7.2.2.2.2.2.2.1 | exact absurd e9q7 c9q7.2.2.2.2.2.2.2.1 | exact absurd e9q7 c9q7.2.2.2.2.2.2.2.2.1 | exact absurd e9q7 c9q7.2 | exact absurd e9q7 c9q7.2.2 | exact absurd e9q7 c9q7.2.2.2 | exact absurd e9q7 c9q7.2.2.2.2 | exact absurd e9q7 c9q7.2.2.2.2.2 | exact absurd e9q7 c9q7.2.2.2.2.2.2 | exact absurd e9q7 c9q7.2.2.2.2.2.2.2 | exact absurd e9q7 c9q7.2.2.2.2.2.2.2.2 | exact absurd e9q7 c9q7.2.2.2.2.2.2.2.2.2 | exact absurd e9q7.symm c9q7.1 | exact absurd e9q7.symm c9q7.2.1 | exact absurd e9q7.symm c9q7.2.2.1 | exact absurd e9q7.symm c9q7.2.2.2.1 | exact absurd e9q7.symm c9q7.2.2.2.2.1 | exact absurd e9q7.symm c9q7.2.2.2.2.2.1 | exact absurd e9q7.symm c9q7.2.2.2.2.2.2.1 | exact absurd e9q7.symm c9q7.2.2.2.2.2.2.2.1 | exact absurd e9q7.symm c9q7.2.2.2.2.2.2.2.2.1 | exact absurd e9q7.symm c9q7.2 | exact absurd e9q7.symm c9q7.2.2 | exact absurd e9q7.symm c9q7.2.2.2 | exact absurd e9q7.symm c9q7.2.2.2.2 | exact absurd e9q7.symm c9q7.2.2.2.2.2 | exact absurd e9q7.symm c9q7.2.2.2.2.2.2 | exact absurd e9q7.symm c9q7.2.2.2.2.2.2.2 | exact absurd e9q7.symm c9q7.2.2.2.2.2.2.2.2 | exact absurd e9q7.symm c9q7.2.2.2.2.2.2.2.2.2 | exact absurd e9q7 (Nat.ne_of_lt c9q7.1) | exact absurd e9q7 (Nat.ne_of_lt c9q7.2.1) | exact absurd e9q7 (Nat.ne_of_lt c9q7.2.2.1) | exact absurd e9q7 (Nat.ne_of_lt c9q7.2.2.2.1) | exact absurd e9q7 (Nat.ne_of_lt c9q7.2.2.2.2.1) | exact absurd e9q7 (Nat.ne_of_lt c9q7.2.2.2.2.2.1) | exact absurd e9q7 (Nat.ne_of_lt c9q7.2.2.2.2.2.2.1) | exact absurd e9q7 (Nat.ne_of_lt c9q7.2.2.2.2.2.2.2.1) | exact absurd e9q7 (Nat.ne_of_lt c9q7.2.2.2.2.2.2.2.2.1) | exact absurd e9q7 (Nat.ne_of_lt c9q7.2) | exact absurd e9q7 (Nat.ne_of_lt c9q7.2.2) | exact absurd e9q7 (Nat.ne_of_lt c9q7.2.2.2) | exact absurd e9q7 (Nat.ne_of_lt c9q7.2.2.2.2) | exact absurd e9q7 (Nat.ne_of_lt c9q7.2.2.2.2.2) | exact absurd e9q7 (Nat.ne_of_lt c9q7.2.2.2.2.2.2) | exact absurd e9q7 (Nat.ne_of_lt c9q7.2.2.2.2.2.2.2) | exact absurd e9q7 (Nat.ne_of_lt c9q7.2.2.2.2.2.2.2.2) | exact absurd e9q7 (Nat.ne_of_lt c9q7.2.2.2.2.2.2.2.2.2) | exact absurd e9q7.symm (Nat.ne_of_lt c9q7.1) | exact absurd e9q7.symm (Nat.ne_of_lt c9q7.2.1) | exact absurd e9q7.symm (Nat.ne_of_lt c9q7.2.2.1) | exact absurd e9q7.symm (Nat.ne_of_lt c9q7.2.2.2.1) | exact absurd e9q7.symm (Nat.ne_of_lt c9q7.2.2.2.2.1) | exact absurd e9q7.symm (Nat.ne_of_lt c9q7.2.2.2.2.2.1) | exact absurd e9q7.symm (Nat.ne_of_lt c9q7.2.2.2.2.2.2.1) | exact absurd e9q7.symm (Nat.ne_of_lt c9q7.2.2.2.2.2.2.2.1) | exact absurd e9q7.symm (Nat.ne_of_lt c9q7.2.2.2.2.2.2.2.2.1) | exact absurd e9q7.symm (Nat.ne_of_lt c9q7.2) | exact absurd e9q7.symm (Nat.ne_of_lt c9q7.2.2) | exact absurd e9q7.symm (Nat.ne_of_lt c9q7.2.2.2) | exact absurd e9q7.symm (Nat.ne_of_lt c9q7.2.2.2.2) | exact absurd e9q7.symm (Nat.ne_of_lt c9q7.2.2.2.2.2) | exact absurd e9q7.symm (Nat.ne_of_lt c9q7.2.2.2.2.2.2) | exact absurd e9q7.symm (Nat.ne_of_lt c9q7.2.2.2.2.2.2.2) | exact absurd e9q7.symm (Nat.ne_of_lt c9q7.2.2.2.2.2.2.2.2) | exact absurd e9q7.symm (Nat.ne_of_lt c9q7.2.2.2.2.2.2.2.2.2) | (clear c9q7; (rename And _ _ => c8q7); first | exact absurd e9q7 c8q7.1 | exact absurd e9q7 c8q7.2.1 | exact absurd e9q7 c8q7.2.2.1 | exact absurd e9q7 c8q7.2.2.2.1 | exact absurd e9q7 c8q7.2.2.2.2.1 | exact absurd e9q7 c8q7.2.2.2.2.2.1 | exact absurd e9q7 c8q7.2.2.2.2.2.2.1 | exact absurd e9q7 c8q7.2.2.2.2.2.2.2.1 | exact absurd e9q7 c8q7.2.2.2.2.2.2.2.2.1 | exact absurd e9q7 c8q7.2 | exact absurd e9q7 c8q7.2.2 | exact absurd e9q7 c8q7.2.2.2 | exact absurd e9q7 c8q7.2.2.2.2 | exact absurd e9q7 c8q7.2.2.2.2.2 | exact absurd e9q7 c8q7.2.2.2.2.2.2 | exact absurd e9q7 c8q7.2.2.2.2.2.2.2 | exact absurd e9q7 c8q7.2.2.2.2.2.2.2.2 | exact absurd e9q7 c8q7.2.2.2.2.2.2.2.2.2 | exact absurd e9q7.symm c8q7.1 | exact absurd e9q7.symm c8q7.2.1 | exact absurd e9q7.symm c8q7.2.2.1 | exact absurd e9q7.symm c8q7.2.2.2.1 | exact absurd e9q7.symm c8q7.2.2.2.2.1 | exact absurd e9q7.symm c8q7.2.2.2.2.2.1 | exact absurd e9q7.symm c8q7.2.2.2.2.2.2.1 | exact absurd e9q7.symm c8q7.2.2.2.2.2.2.2.1 | exact absurd e9q7.symm c8q7.2.2.2.2.2.2.2.2.1 | exact absurd e9q7.symm c8q7.2 | exact absurd e9q7.symm c8q7.2.2 | exact absurd e9q7.symm c8q7.2.2.2 | exact absurd e9q7.symm c8q7.2.2.2.2 | exact absurd e9q7.symm c8q7.2.2.2.2.2 | exact absurd e9q7.symm c8q7.2.2.2.2.2.2 | exact absurd e9q7.symm c8q7.2.2.2.2.2.2.2 | exact absurd e9q7.symm c8q7.2.2.2.2.2.2.2.2 | exact absurd e9q7.symm c8q7.2.2.2.2.2.2.2.2.2 | exact absurd e9q7 (Nat.ne_of_lt c8q7.1) | exact absurd e9q7 (Nat.ne_of_lt c8q7.2.1) | exact absurd e9q7 (Nat.ne_of_lt c8q7.2.2.1) | exact absurd e9q7 (Nat.ne_of_lt c8q7.2.2.2.1) | exact absurd e9q7 (Nat.ne_of_lt c8q7.2.2.2.2.1) | exact absurd e9q7 (Nat.ne_of_lt c8q7.2.2.2.2.2.1) | exact absurd e9q7 (Nat.ne_of_lt c8q7.2.2.2.2.2.2.1) | exact absurd e9q7 (Nat.ne_of_lt c8q7.2.2.2.2.2.2.2.1) | exact absurd e9q7 (Nat.ne_of_lt c8q7.2.2.2.2.2.2.2.2.1) | exact absurd e9q7 (Nat.ne_of_lt c8q7.2) | exact absurd e9q7 (Nat.ne_of_lt c8q7.2.2) | exact absurd e9q7 (Nat.ne_of_lt c8q7.2.2.2) | exact absurd e9q7 (Nat.ne_of_lt c8q7.2.2.2.2) | exact absurd e9q7 (Nat.ne_of_lt c8q7.2.2.2.2.2) | exact absurd e9q7 (Nat.ne_of_lt c8q7.2.2.2.2.2.2) | exact absurd e9q7 (Nat.ne_of_lt c8q7.2.2.2.2.2.2.2) | exact absurd e9q7 (Nat.ne_of_lt c8q7.2.2.2.2.2.2.2.2) | exact absurd e9q7 (Nat.ne_of_lt c8q7.2.2.2.2.2.2.2.2.2) | exact absurd e9q7.symm (Nat.ne_of_lt c8q7.1) | exact absurd e9q7.symm (Nat.ne_of_lt c8q7.2.1) | exact absurd e9q7.symm (Nat.ne_of_lt c8q7.2.2.1) | exact absurd e9q7.symm (Nat.ne_of_lt c8q7.2.2.2.1) | exact absurd e9q7.symm (Nat.ne_of_lt c8q7.2.2.2.2.1) | exact absurd e9q7.symm (Nat.ne_of_lt c8q7.2.2.2.2.2.1) | exact absurd e9q7.symm (Nat.ne_of_lt c8q7.2.2.2.2.2.2.1) | exact absurd e9q7.symm (Nat.ne_of_lt c8q7.2.2.2.2.2.2.2.1) | exact absurd e9q7.symm (Nat.ne_of_lt c8q7.2.2.2.2.2.2.2.2.1) | exact absurd e9q7.symm (Nat.ne_of_lt c8q7.2) | exact absurd e9q7.symm (Nat.ne_of_lt c8q7.2.2) | exact absurd e9q7.symm (Nat.ne_of_lt c8q7.2.2.2) | exact absurd e9q7.symm (Nat.ne_of_lt c8q7.2.2.2.2) | exact absurd e9q7.symm (Nat.ne_of_lt c8q7.2.2.2.2.2) | exact absurd e9q7.symm (Nat.ne_of_lt c8q7.2.2.2.2.2.2) | exact absurd e9q7.symm (Nat.ne_of_lt c8q7.2.2.2.2.2.2.2) | exact absurd e9q7.symm (Nat.ne_of_lt c8q7.2.2.2.2.2.2.2.2) | exact absurd e9q7.symm (Nat.ne_of_lt c8q7.2.2.2.2.2.2.2.2.2))))
  k_with "x52" => (((repeat (rename And _ _ => c9q7; clear c9q7)); omega))
  k_with "x53" => ((k_here; (with_reducible show wpAny _ _ (eval (Expr.ListComp _ [PySem.Comprehension.mk _ _ [] _] _ _) _) _ _ _); k_dflt (refine lcU (by k_asm) (by with_unfolding_all rfl) (by decide) (by rfl) (by decide) (by rfl) ?_)))
  k_with "x54" => ((k_here; (with_reducible show wpAny _ _ (eval (Expr.ListComp _ [PySem.Comprehension.mk _ _ [_] _] _ _) _) _ _ _); k_dflt (refine lcT (by k_asm) (by with_unfolding_all rfl) (by decide) (by rfl) (by decide) (by rfl) ?_)))
  k_with "x55" => ((k_here; k_dflt (refine lcAU (by k_asm) (by rfl) (by with_unfolding_all rfl) (by with_unfolding_all rfl) (by decide) (by rfl) (by decide) (by rfl) (by rfl) (by rfl) ?_)))
  k_with "x56" => ((k_here; (with_reducible show wpAny _ _ (call (Value.ref 147) _) _ _ _); k_dflt (refine' pd_use (c_draw _ _ _ ?h1x56 ?h2x56) ?k1x56 ?k2x56 ?k3x56 ?k4x56 ?kKx56 ?k5x56 ?kdx56 ?kux56 ?m1x56 ?m2x56 ?pqx56 ?hIx56 ?hlx56 ?hxx56 ?hx2x56 ?hyx56 ?_; (case k1x56 => k_asm); (case k2x56 => k_asm); (case k3x56 => k_asm); (case k4x56 => k_asm); (case kKx56 => first | exact rfl | assumption); (case k5x56 => k_asm); (case kdx56 => ktr_room); (case kux56 => ktr_units); (case m1x56 => k_mem); (case m2x56 => k_mem); (case pqx56 => first | assumption | walk_at "a ne"); (case hIx56 => assumption); (case hlx56 => first | assumption | walk_at "a om"); (case hxx56 => first | assumption | walk_at "a om"); (case hx2x56 => first | assumption | walk_at "a om"); (case hyx56 => first | assumption | walk_at "a om"); (case h1x56 => walk_at "a om"); (case h2x56 => walk_at "a om")); (rintro r9q7 v9q7 x9q7 tx9q7 y9q7 ty9q7 h9q7 tk9q7 F9q7 N9q7 r1q7 r2q7 x1q7 x2q7 y1q7 ⟨t9q7, e9q7⟩); (subst e9q7); (simp only [List.map_cons, List.map_nil] at N9q7); (repeat (first | rw [if_pos trivial] at N9q7 | rw [if_pos rfl] at N9q7 | rw [if_neg (by walk_at "a ne")] at N9q7)); (try dsimp only)))
  k_with "x57" => ((k_here; (with_reducible show wpAny _ _ (call (Value.ref 154) _) _ _ _); k_dflt (k_extra "my pick")))
  k_with "x58" => ((k_here; (with_reducible refine gm_bjoin ?_)))
  k_with "x59" => ((k_here; k_dflt (refine ne_same (by with_unfolding_all rfl) ?_)))
  k_with "x60" => ((k_here; k_dflt (refine ne_same_b (by with_unfolding_all rfl) ?_)))
  k_with "x61" => (((show GoodW _ _ _ _ _ (.ok (.ret (.bool true))) _); (refine goodW_bool (by assumption) (by assumption) (raisesW_false ?nnx61) ?ppx61); (case nnx61 => wrow_none_raised); (case ppx61 => with_unfolding_all rfl)))
  k_with "x62" => ((intro i9q7 u9q7 I9q7 oI9q7 C9q7 oC9q7 D9q7 m9q7 ys9q7 h9q7 tk9q7 E9q7 hi9q7 hC9q7 hx9q7 F9q7 N9q7 off9q7 ne9q7; (have off9pq7 := off9q7); (simp only [LCg.Off3, and_true] at off9pq7); (try k_fold)))
  k_with "x63" => ((rename News _ _ _ _ => nEq7; exact LCg.CompEnd.intro (by assumption) nEq7 _ (by lcg_sub) (by assumption) (by first | trivial | k_mem) ⟨rfl, _, rfl⟩))
  k_with "my cend" =>
    (walk_at "turn out")
  k_steps
  rename News _ _ _ _ => lN
  rename Fr _ _ _ _ => lF
  refine map_list (fun i v => ∃ u, v = .int (lawSize (cs.getD i 0)) u) lF lN rfl (by k_mem) hI2 (by walk_at "a om") ?_ ?_
  case refine_1 =>
    clear lN lF
    walk_at "turn in"
    k_steps
  intro g6 ys6 hys6
  replace hys6 := hys6.ints
  rw [range_getD _ _ lawSize, ← hE] at hys6
  clear lN lF
  have hdU : decide (Str.ofString "utf-8" = sU) = true := decide_eq_true rfl
  k_with_none
  k_with "x1" => ((refine wpAny_call ?_; first   | (refine' code_defG (news := []) ?k1x1 ?k2x1 ?k3x1 News.nil ?k5x1 ?kAx1 ?kFx1 ?kKx1 ?k6x1 ?k7x1 ?k8x1 ?k9x1 ?kBx1 ?_ ?c2x1 ?c3x1 ?c4x1 ?c5x1; (case kAx1 => exact rfl); (case kFx1 => exact rfl); (case kKx1 => assumption); (case k1x1 => k_asm); (case k2x1 => k_asm); (case k3x1 => k_asm); (case k5x1 => k_asm); (case k6x1 => k_is); (case k7x1 => k_is); (case k8x1 => ktr_room); (case k9x1 => exact BindsTo.of_eq rfl); (case c5x1 => decide); (case kBx1 => exact locs rfl); (case c2x1 => exact rfl); (case c3x1 => exact rfl); (case c4x1 => exact rfl); k_whole; intro gpq7 Lpq7 hpq7 FGpq7 Fpq7 Npq7 Bpq7 Xpq7 Tpq7 kGpq7; (try dsimp only); (try k_fold))   | (refine' code_defGC (news := []) ?k1x1 ?k2x1 ?k3x1 News.nil ?k5x1 ?kAx1 ?kFx1 ?kKx1 ?k6x1 ?k7x1 ?k8x1 ?k9x1 ?kBx1 ?kDx1 ?_ ?c2x1 ?c3x1 ?c4x1; (case kAx1 => exact rfl); (case kFx1 => exact rfl); (case kKx1 => assumption); (case k1x1 => k_asm); (case k2x1 => k_asm); (case k3x1 => k_asm); (case k5x1 => k_asm); (case k6x1 => k_is); (case k7x1 => k_is); (case k8x1 => ktr_room); (case k9x1 => exact BindsTo.of_eq rfl); (case kBx1 => exact rfl); (case kDx1 => decide +kernel); (case c2x1 => exact rfl); (case c3x1 => exact rfl); (case c4x1 => exact rfl); k_whole; intro gpq7 Lpq7 hpq7 tkpq7 cellspq7 FGpq7 Fpq7 Npq7 Ypq7 Bpq7 Xpq7 Tpq7 l1q7 kGpq7; clear l1q7; k_cells Ypq7; (try simp only [List.cons_append, List.nil_append] at Npq7); (try dsimp only); (try k_fold))))
  k_with "calls" => (cell_ask (c_need_charset _ _ _ (by assumption)))
  k_with "calls" => (cell_ask (c_has_sign _ _ _ _ _ (by assumption)))
  k_with "calls" => (cell_ask (c_utf8_octets _ _ _ (by assumption)))
  k_with "calls" => (cell_ask (c_utf8_sign _ _ _ _ _ (by first | assumption | omega) (by first | assumption | omega) (by first | assumption | omega)))
  k_with "calls" => (cell_ask (c_sign_at' _ _ _ _ _ _ _ (by assumption) (by first | assumption | omega) (by first | assumption | omega) (by first | assumption | omega)))
  k_with "x15" => ((intro zq7 h2q7 h3q7; (simp only [List.forall_mem_cons, List.not_mem_nil, false_implies, implies_true, and_true, ne_eq] at h2q7); (simp only [List.contains_cons, List.contains_nil, Bool.or_false, Bool.or_eq_false_iff, beq_eq_false_iff_ne, ne_eq] at h3q7); simp [kstB, h2q7, h3q7]))
  k_with "calls" => (cell_ask (c_text_in _ _ _ _ _ (by assumption) (by assumption)))
  k_with "calls" => (cell_ask (c_strict_text _ _ _ _ _ (by assumption) (by assumption) (by assumption)))
  k_with "x18" => ((k_here; k_dflt (refine item_text (by first | assumption | omega) (by first | assumption | omega) (by first | assumption | omega) ?_)))
  k_with "x19" => ((k_here; k_dflt (refine len_text (by first | assumption | omega) ?_)))
  k_with "x20" => ((k_here; k_dflt (refine ord_one (by first | assumption | omega) ?_)))
  k_with "calls" => (cell_ask (c_has_sign_true _ _ _ _ _ (by assumption) (by assumption)))
  k_with "x22" => ((intro zq7 h1q7 h2q7 h3q7; (simp only [List.forall_mem_cons, List.not_mem_nil, false_implies, implies_true, and_true, ne_eq] at h2q7); (simp only [List.contains_cons, List.contains_nil, Bool.or_false, Bool.or_eq_false_iff, beq_eq_false_iff_ne, ne_eq] at h3q7); simp [kstB, h1q7, h2q7, h3q7]))
  k_with "calls" => (cell_ask (c_octets_in0 _ _ _ _ _ (by assumption) (by first | assumption | omega) (by assumption)))
  k_with "calls" => (cell_ask (c_best_charset _ _ _ (by first | assumption | omega) (by assumption)))
  k_with "x50" => ((k_dflt ((show ¬ @Eq Nat _ _); intro e9q7; (repeat (rename And _ _ => c9q7; obtain ⟨_, _⟩ := c9q7)); first | exact absurd e9q7 (by assumption) | exact absurd e9q7.symm (by assumption) | exact absurd e9q7 (Nat.ne_of_lt (by assumption)) | exact absurd e9q7.symm (Nat.ne_of_lt (by assumption)) | omega)))
  k_with "x51" => ((refine neN ?_; (try dsimp only); intro e9q7; (rename And _ _ => c9q7); first | exact absurd e9q7 c9q7.1 | exact absurd e9q7 c9q7.2.1 | exact absurd e9q7 c9q7.2.2.1 | exact absurd e9q7 c9q7.2.2.2.1 | exact absurd e9q7 c9q7.2.2.2.2.1 | exact absurd e9q7 c9q7.2.2.2.2.2.1 | exact absurd e9q7 c9q7.2.2.2.2.2.2.1 | exact absurd e9q7 c9q7.2.2.2.2.2.2.2.1 | exact absurd e9q7 c9q7.2.2.2.2.2.2.2.2.1 | exact absurd e9q7 c9q7.2 | exact absurd e9q7 c9q7.2.2 | exact absurd e9q7 c9q7.2.2.2 | exact absurd e9q7 c9q7.2.2.2.2 | exact absurd e9q7 c9q7.2.2.2.2.2 | exact absurd e9q7 c9q7.2.2.2.2.2.2 | exact absurd e9q7 c9q7.2.2.2.2.2.2.2 | exact absurd e9q7 c9q7.2.2.2.2.2.2.2.2 | exact absurd e9q7 c9q7.2.2.2.2.2.2.2.2.2 | exact absurd e9q7.symm c9q7.1 | exact absurd e9q7.symm c9q7.2.1 | exact absurd e9q7.symm c9q7.2.2.1 | exact absurd e9q7.symm c9q7.2.2.2.1 | exact absurd e9q7.symm c9q7.2.2.2.2.1 | exact absurd e9q7.symm c9q7.2.2.2.2.2.1 | exact absurd e9q7.symm c9q7.2.2.2.2.2.2.1 | exact absurd e9q7.symm c9q7.2.2.2.2.2.2.2.1 | exact absurd e9q7.symm c9q7.2.2.2.2.2.2.2.2.1 | exact absurd e9q7.symm c9q7.2 | exact absurd e9q7.symm c9q7.2.2 | exact absurd e9q7.symm c9q7.2.2.2 | exact absurd e9q7.symm c9q7.2.2.2.2 | exact absurd e9q7.symm c9q7.2.2.2.2.2 | exact absurd e9q7.symm c9q7.2.2.2.2.2.2 | exact absurd e9q7.symm c9q7.2.2.2.2.2.2.2 | exact absurd e9q7.symm c9q7.2.2.2.2.2.2.2.2 | exact absurd e9q7.symm c9q7.2.2.2.2.2.2.2.2.2 | exact absurd e9q7 (Nat.ne_of_lt c9q7.1) | exact absurd e9q7 (Nat.ne_of_lt c9q7.2.1) | exact absurd e9q7 (Nat.ne_of_lt c9q7.2.2.1) | exact absurd e9q7 (Nat.ne_of_lt c9q7.2.2.2.1) | exact absurd e9q7 (Nat.ne_of_lt c9q7.2.2.2.2.1) | exact absurd e9q7 (Nat.ne_of_lt c9q7.2.2.2.2.2.1) | exact absurd e9q7 (Nat.ne_of_lt c9q7.2.2.2.2.2.2.1) | exact absurd e9q7 (Nat.ne_of_lt c9q7.2.2.2.2.2.2.2.1) | exact absurd e9q7 (Nat.ne_of_lt c9q7.2.2.2.2.2.2.2.2.1) | exact absurd e9q7 (Nat.ne_of_lt c9q7.2) | exact absurd e9q7 (Nat.ne_of_lt c9q7.2.2) | exact absurd e9q7 (Nat.ne_of_lt c9q7.2.2.2) | exact absurd e9q7 (Nat.ne_of_lt c9q7.2.2.2.2) | exact absurd e9q7 (Nat.ne_of_lt c9q7.2.2.2.2.2) | exact absurd e9q7 (Nat.ne_of_lt c9q7.2.2.2.2.2.2) | exact absurd e9q7 (Nat.ne_of_lt c9q7.2.2.2.2.2.2.2) | exact absurd e9q7 (Nat.ne_of_lt c9q7.2.2.2.2.2.2.2.2) | exact absurd e9q7 (Nat.ne_of_lt c9q7.2.2.2.2.2.2.2.2.2) | exact absurd e9q7.symm (Nat.ne_of_lt c9q7.1) | exact absurd e9q7.symm (Nat.ne_of_lt c9q7.2.1) | exact absurd e9q7.symm (Nat.ne_of_lt c9q7.2.2.1) | exact absurd e9q7.symm (Nat.ne_of_lt c9q7.2.2.2.1) | exact absurd e9q7.symm (Nat.ne_of_lt c9q7.2.2.2.2.1) | exact absurd e9q7.symm (Nat.ne_of_lt c9q7.2.2.2.2.2.1) | exact absurd e9q7.symm (Nat.ne_of_lt c9q7.2.2.2.2.2.2.1) | exact absurd e9q7.symm (Nat.ne_of_lt c9q7.2.2.2.2.2.2.2.1) | exact absurd e9q7.symm (Nat.ne_of_lt c9q7.2.2.2.2.2.2.2.2.1) | exact absurd e9q7.symm (Nat.ne_of_lt c9q7.2) | exact absurd e9q7.symm (Nat.ne_of_lt c9q7.2.2) | exact absurd e9q7.symm (Nat.ne_of_lt c9q7.2.2.2) | exact absurd e9q7.symm (Nat.ne_of_lt c9q7.2.2.2.2) | exact absurd e9q7.symm (Nat.ne_of_lt c9q7.2.2.2.2.2) | exact absurd e9q7.symm (Nat.ne_of_lt c9q7.2.2.2.2.2.2) | exact absurd e9q7.symm (Nat.ne_of_lt c9q7.2.2.2.2.2.2.2) | exact absurd e9q7.symm (Nat.ne_of_lt c9q7.2.2.2.2.2.2.2.2) | exact absurd e9q7.symm (Nat.ne_of_lt c9q7.2.2.2.2.2.2.2.2.2) | (clear c9q7; (rename And _ _ => c8q7); first | exact absurd e9q7 c8q7.1 | exact absurd e9q7 c8q7.2.1 | exact absurd e9q7 c8q7.2.2.1 | exact absurd e9q7 c8q7.2.2.2.1 | exact absurd e9q7 c8q7.2.2.2.2.1 | exact absurd e9q7 c8q7.2.2.2.2.2.1 | exact absurd e9q7 c8q7.2.2.2.2.2.2.1 | exact absurd e9q7 c8q7.2.2.2.2.2.2.2.1 | exact absurd e9q7 c8q7.2.2.2.2.2.2.2.2.1 | exact absurd e9q7 c8q7.2 | exact absurd e9q7 c8q7.2.2 | exact absurd e9q7 c8q7.2.2.2 | exact absurd e9q7 c8q7.2.2.2.2 | exact absurd e9q7 c8q7.2.2.2.2.2 | exact absurd e9q7 c8q7.2.2.2.2.2.2 | exact absurd e9q7 c8q7.2.2.2.2.2.2.2 | exact absurd e9q7 c8q7.2.2.2.2.2.2.2.2 | exact absurd e9q7 c8q7.2.2.2.2.2.2.2.2.2 | exact absurd e9q7.symm c8q7.1 | exact absurd e9q7.symm c8q7.2.1 | exact absurd e9q7.symm c8q7.2.2.1 | exact absurd e9q7.symm c8q7.2.2.2.1 | exact absurd e9q7.symm c8q7.2.2.2.2.1 | exact absurd e9q7.symm c8q7.2.2.2.2.2.1 | exact absurd e9q7.symm c8q7.2.2.2.2.2.2.1 | exact absurd e9q7.symm c8q7.2.2.2.2.2.2.2.1 | exact absurd e9q7.symm c8q7.2.2.2.2.2.2.2.2.1 | exact absurd e9q7.symm c8q7.2 | exact absurd e9q7.symm c8q7.2.2 | exact absurd e9q7.symm c8q7.2.2.2 | exact absurd e9q7.symm c8q7.2.2.2.2 | exact absurd e9q7.symm c8q7.2.2.2.2.2 | exact absurd e9q7.symm c8q7.2.2.2.2.2.2 | exact absurd e9q7.symm c8q7.2.2.2.2.2.2.2 | exact absurd e9q7.symm c8q7.2.2.2.2.2.2.2.2 | exact absurd e9q7.symm c8q7.2.2.2.2.2.2.2.2.2 | exact absurd e9q7 (Nat.ne_of_lt c8q7.1) | exact absurd e9q7 (Nat.ne_of_lt c8q7.2.1) | exact absurd e9q7 (Nat.ne_of_lt c8q7.2.2.1) | exact absurd e9q7 (Nat.ne_of_lt c8q7.2.2.2.1) | exact absurd e9q7 (Nat.ne_of_lt c8q7.2.2.2.2.1) | exact absurd e9q7 (Nat.ne_of_lt c8q7.2.2.2.2.2.1) | exact absurd e9q7 (Nat.ne_of_lt c8q7.2.2.2.2.2.2.1) | exact absurd e9q7 (Nat.ne_of_lt c8q7.2.2.2.2.2.2.2.1) | exact absurd e9q7 (Nat.ne_of_lt c8q7.2.2.2.2.2.2.2.2.1) | exact absurd e9q7 (Nat.ne_of_lt c8q7.2) | exact absurd e9q7 (Nat.ne_of_lt c8q7.2.2) | exact absurd e9q7 (Nat.ne_of_lt c8q7.2.2.2) | exact absurd e9q7 (Nat.ne_of_lt c8q7.2.2.2.2) | exact absurd e9q7 (Nat.ne_of_lt c8q7.2.2.2.2.2) | exact absurd e9q7 (Nat.ne_of_lt c8q7.2.2.2.2.2.2) | exact absurd e9q7 (Nat.ne_of_lt c8q7.2.2.2.2.2.2.2) | exact absurd e9q7 (Nat.ne_of_lt c8q7.2.2.2.2.2.2.2.2) | exact absurd e9q7 (Nat.ne_of_lt c8q7.2.2.2.2.2.2.2.2.2) | exact absurd e9q7.symm (Nat.ne_of_lt c8q7.1) | exact absurd e9q7.symm (Nat.ne_of_lt c8q7.2.1) | exact absurd e9q7.symm (Nat.ne_of_lt c8q7.2.2.1) | exact absurd e9q7.symm (Nat.ne_of_lt c8q7.2.2.2.1) | exact absurd e9q7.symm (Nat.ne_of_lt c8q7.2.2.2.2.1) | exact absurd e9q7.symm (Nat.ne_of_lt c8q7.2.2.2.2.2.1) | exact absurd e9q7.symm (Nat.ne_of_lt c8q7.2.2.2.2.2.2.1) | exact absurd e9q7.symm (Nat.ne_of_lt c8q7.2.2.2.2.2.2.2.1) | exact absurd e9q7.symm (Nat.ne_of_lt c8q7.2.2.2.2.2.2.2.2.1) | exact absurd e9q7.symm (Nat.ne_of_lt c8q7.2) | exact absurd e9q7.symm (Nat.ne_of_lt c8q7.2.2) | exact absurd e9q7.symm (Nat.ne_of_lt c8q7.2.2.2) | exact absurd e9q7.symm (Nat.ne_of_lt c8q7.2.2.2.2) | exact absurd e9q7.symm (Nat.ne_of_lt c8q7.2.2.2.2.2) | exact absurd e9q7.symm (Nat.ne_of_lt c8q7.2.2.2.2.2.2) | exact absurd e9q7.symm (Nat.ne_of_lt c8q7.2.2.2.2.2.2.2) | exact absurd e9q7.symm (Nat.ne_of_lt c8q7.2.2.2.2.2.2.2.2) | exact absurd e9q7.symm (Nat.ne_of_lt c8q7.2.2.2.2.2.2.2.2.2))))
  k_with "x52" => (((repeat (rename And _ _ => c9q7; clear c9q7)); omega))
  k_with "x53" => ((k_here; (with_reducible show wpAny _ _ (eval (Expr.ListComp _ [PySem.Comprehension.mk _ _ [] _] _ _) _) _ _ _); k_dflt (refine lcU (by k_asm) (by with_unfolding_all rfl) (by decide) (by rfl) (by decide) (by rfl) ?_)))
  k_with "x54" => ((k_here; (with_reducible show wpAny _ _ (eval (Expr.ListComp _ [PySem.Comprehension.mk _ _ [_] _] _ _) _) _ _ _); k_dflt (refine lcT (by k_asm) (by with_unfolding_all rfl) (by decide) (by rfl) (by decide) (by rfl) ?_)))
  k_with "x55" => ((k_here; k_dflt (refine lcAU (by k_asm) (by rfl) (by with_unfolding_all rfl) (by with_unfolding_all rfl) (by decide) (by rfl) (by decide) (by rfl) (by rfl) (by rfl) ?_)))
  k_with "x56" => ((k_here; (with_reducible show wpAny _ _ (call (Value.ref 147) _) _ _ _); k_dflt (refine' pd_use (c_draw _ _ _ ?h1x56 ?h2x56) ?k1x56 ?k2x56 ?k3x56 ?k4x56 ?kKx56 ?k5x56 ?kdx56 ?kux56 ?m1x56 ?m2x56 ?pqx56 ?hIx56 ?hlx56 ?hxx56 ?hx2x56 ?hyx56 ?_; (case k1x56 => k_asm); (case k2x56 => k_asm); (case k3x56 => k_asm); (case k4x56 => k_asm); (case kKx56 => first | exact rfl | assumption); (case k5x56 => k_asm); (case kdx56 => ktr_room); (case kux56 => ktr_units); (case m1x56 => k_mem); (case m2x56 => k_mem); (case pqx56 => first | assumption | walk_at "a ne"); (case hIx56 => assumption); (case hlx56 => first | assumption | walk_at "a om"); (case hxx56 => first | assumption | walk_at "a om"); (case hx2x56 => first | assumption | walk_at "a om"); (case hyx56 => first | assumption | walk_at "a om"); (case h1x56 => walk_at "a om"); (case h2x56 => walk_at "a om")); (rintro r9q7 v9q7 x9q7 tx9q7 y9q7 ty9q7 h9q7 tk9q7 F9q7 N9q7 r1q7 r2q7 x1q7 x2q7 y1q7 ⟨t9q7, e9q7⟩); (subst e9q7); (simp only [List.map_cons, List.map_nil] at N9q7); (repeat (first | rw [if_pos trivial] at N9q7 | rw [if_pos rfl] at N9q7 | rw [if_neg (by walk_at "a ne")] at N9q7)); (try dsimp only)))
  k_with "x57" => ((k_here; (with_reducible show wpAny _ _ (call (Value.ref 154) _) _ _ _); k_dflt (k_extra "my pick")))
  k_with "x58" => ((k_here; (with_reducible refine gm_bjoin ?_)))
  k_with "x59" => ((k_here; k_dflt (refine ne_same (by with_unfolding_all rfl) ?_)))
  k_with "x60" => ((k_here; k_dflt (refine ne_same_b (by with_unfolding_all rfl) ?_)))
  k_with "x61" => (((show GoodW _ _ _ _ _ (.ok (.ret (.bool true))) _); (refine goodW_bool (by assumption) (by assumption) (raisesW_false ?nnx61) ?ppx61); (case nnx61 => wrow_none_raised); (case ppx61 => with_unfolding_all rfl)))
  k_with "x62" => ((intro i9q7 u9q7 I9q7 oI9q7 C9q7 oC9q7 D9q7 m9q7 ys9q7 h9q7 tk9q7 E9q7 hi9q7 hC9q7 hx9q7 F9q7 N9q7 off9q7 ne9q7; (have off9pq7 := off9q7); (simp only [LCg.Off3, and_true] at off9pq7); (try k_fold)))
  k_with "x63" => ((rename News _ _ _ _ => nEq7; exact LCg.CompEnd.intro (by assumption) nEq7 _ (by lcg_sub) (by assumption) (by first | trivial | k_mem) ⟨rfl, _, rfl⟩))
  k_with "my ne" =>
    (refine ne_intsK (News.isList (by k_asm) (by k_mem)) hys5 (News.isList (by k_asm) (by k_mem)) hys6 (by ke_room) ?_)
    (rw [decide_eq_true rfl, Bool.not_true])
  k_with "my cend" =>
    (walk_at "turn out")
  k_with "my call" =>
    (k_dflt (refine' pcs_use0 (c_cuts _ cs (toB (encAll (decide (Str.ofString "utf-8" = sU)) cs)) _ _ (by walk_at "a om") (by unfold toB; rw [List.length_map]; have := encAll_len (decide (Str.ofString "utf-8" = sU)) cs; walk_at "a om") hcA (by rw [hdU]; exact pl_tot cs hm2) (by rw [hdU]; exact pl_cut cs hm2)) (by k_asm) (by k_asm) (by k_asm) (by k_asm) (by first | exact rfl | assumption) (by k_asm) (by ktr_room) (by ktr_units) ?_))
    (rintro v9 h9 tk9 F9 N9 e9)
    (subst e9)
    (replace N9 := news_drop 3 N9)
    (simp only [List.drop_succ_cons, List.drop_zero] at N9)
    (repeat (rename And _ _ => cc9; clear cc9))
    (try dsimp only)
  k_steps
  rename News _ _ _ _ => lN
  rename Fr _ _ _ _ => lF
  refine map_text (fun i v => ∃ u, v = .int (bestI [cs.getD i 0]) u) lF lN rfl (by walk_at "a om") ?_ ?_
  case refine_1 =>
    clear lN lF
    intro i9 u9 I9 oI9 C9 oC9 D9 m9 ys9 h9 tk9 E9 hi9 hC9 hx9 F9 N9 off9 ne9
    have off9' := off9
    simp only [LCg.Off3, and_true] at off9'
    replace hx9 : m9 (Str.ofString "sign") = some (Value.str (textOf [cs.getD i9 0]) u9) := hx9
    have h1 : ∀ c ∈ [cs.getD i9 0], 0 ≤ c ∧ 0 < u8len c := fun c hc => by rw [List.mem_singleton.mp hc]; exact hcC _ (getD_mem hi9)
    k_with_none
    k_with "x1" => ((refine wpAny_call ?_; first   | (refine' code_defG (news := []) ?k1x1 ?k2x1 ?k3x1 News.nil ?k5x1 ?kAx1 ?kFx1 ?kKx1 ?k6x1 ?k7x1 ?k8x1 ?k9x1 ?kBx1 ?_ ?c2x1 ?c3x1 ?c4x1 ?c5x1; (case kAx1 => exact rfl); (case kFx1 => exact rfl); (case kKx1 => assumption); (case k1x1 => k_asm); (case k2x1 => k_asm); (case k3x1 => k_asm); (case k5x1 => k_asm); (case k6x1 => k_is); (case k7x1 => k_is); (case k8x1 => ktr_room); (case k9x1 => exact BindsTo.of_eq rfl); (case c5x1 => decide); (case kBx1 => exact locs rfl); (case c2x1 => exact rfl); (case c3x1 => exact rfl); (case c4x1 => exact rfl); k_whole; intro gpq7 Lpq7 hpq7 FGpq7 Fpq7 Npq7 Bpq7 Xpq7 Tpq7 kGpq7; (try dsimp only); (try k_fold))   | (refine' code_defGC (news := []) ?k1x1 ?k2x1 ?k3x1 News.nil ?k5x1 ?kAx1 ?kFx1 ?kKx1 ?k6x1 ?k7x1 ?k8x1 ?k9x1 ?kBx1 ?kDx1 ?_ ?c2x1 ?c3x1 ?c4x1; (case kAx1 => exact rfl); (case kFx1 => exact rfl); (case kKx1 => assumption); (case k1x1 => k_asm); (case k2x1 => k_asm); (case k3x1 => k_asm); (case k5x1 => k_asm); (case k6x1 => k_is); (case k7x1 => k_is); (case k8x1 => ktr_room); (case k9x1 => exact BindsTo.of_eq rfl); (case kBx1 => exact rfl); (case kDx1 => decide +kernel); (case c2x1 => exact rfl); (case c3x1 => exact rfl); (case c4x1 => exact rfl); k_whole; intro gpq7 Lpq7 hpq7 tkpq7 cellspq7 FGpq7 Fpq7 Npq7 Ypq7 Bpq7 Xpq7 Tpq7 l1q7 kGpq7; clear l1q7; k_cells Ypq7; (try simp only [List.cons_append, List.nil_append] at Npq7); (try dsimp only); (try k_fold))))
    k_with "calls" => (cell_ask (c_need_charset _ _ _ (by assumption)))
    k_with "calls" => (cell_ask (c_has_sign _ _ _ _ _ (by assumption)))
    k_with "calls" => (cell_ask (c_utf8_octets _ _ _ (by assumption)))
    k_with "calls" => (cell_ask (c_utf8_sign _ _ _ _ _ (by first | assumption | omega) (by first | assumption | omega) (by first | assumption | omega)))
    k_with "calls" => (cell_ask (c_sign_at' _ _ _ _ _ _ _ (by assumption) (by first | assumption | omega) (by first | assumption | omega) (by first | assumption | omega)))
    k_with "x15" => ((intro zq7 h2q7 h3q7; (simp only [List.forall_mem_cons, List.not_mem_nil, false_implies, implies_true, and_true, ne_eq] at h2q7); (simp only [List.contains_cons, List.contains_nil, Bool.or_false, Bool.or_eq_false_iff, beq_eq_false_iff_ne, ne_eq] at h3q7); simp [kstB, h2q7, h3q7]))
    k_with "calls" => (cell_ask (c_text_in _ _ _ _ _ (by assumption) (by assumption)))
    k_with "calls" => (cell_ask (c_strict_text _ _ _ _ _ (by assumption) (by assumption) (by assumption)))
    k_with "x18" => ((k_here; k_dflt (refine item_text (by first | assumption | omega) (by first | assumption | omega) (by first | assumption | omega) ?_)))
    k_with "x19" => ((k_here; k_dflt (refine len_text (by first | assumption | omega) ?_)))
    k_with "x20" => ((k_here; k_dflt (refine ord_one (by first | assumption | omega) ?_)))
    k_with "calls" => (cell_ask (c_has_sign_true _ _ _ _ _ (by assumption) (by assumption)))
    k_with "x22" => ((intro zq7 h1q7 h2q7 h3q7; (simp only [List.forall_mem_cons, List.not_mem_nil, false_implies, implies_true, and_true, ne_eq] at h2q7); (simp only [List.contains_cons, List.contains_nil, Bool.or_false, Bool.or_eq_false_iff, beq_eq_false_iff_ne, ne_eq] at h3q7); simp [kstB, h1q7, h2q7, h3q7]))
    k_with "calls" => (cell_ask (c_octets_in0 _ _ _ _ _ (by assumption) (by first | assumption | omega) (by assumption)))
    k_with "calls" => (cell_ask (c_best_charset _ _ _ (by first | assumption | omega) (by assumption)))
    k_with "x50" => ((k_dflt ((show ¬ @Eq Nat _ _); intro e9q7; (repeat (rename And _ _ => c9q7; obtain ⟨_, _⟩ := c9q7)); first | exact absurd e9q7 (by assumption) | exact absurd e9q7.symm (by assumption) | exact absurd e9q7 (Nat.ne_of_lt (by assumption)) | exact absurd e9q7.symm (Nat.ne_of_lt (by assumption)) | omega)))
    k_with "x51" => ((refine neN ?_; (try dsimp only); intro e9q7; (rename And _ _ => c9q7); first | exact absurd e9q7 c9q7.1 | exact absurd e9q7 c9q7.2.1 | exact absurd e9q7 c9q7.2.2.1 | exact absurd e9q7 c9q7.2.2.2.1 | exact absurd e9q7 c9q7.2.2.2.2.1 | exact absurd e9q7 c9q7.2.2.2.2.2.1 | exact absurd e9q7 c9q7.2.2.2.2.2.2.1 | exact absurd e9q7 c9q7.2.2.2.2.2.2.2.1 | exact absurd e9q7 c9q7.2.2.2.2.2.2.2.2.1 | exact absurd e9q7 c9q7.2 | exact absurd e9q7 c9q7.2.2 | exact absurd e9q7 c9q7.2.2.2 | exact absurd e9q7 c9q7.2.2.2.2 | exact absurd e9q7 c9q7.2.2.2.2.2 | exact absurd e9q7 c9q7.2.2.2.2.2.2 | exact absurd e9q7 c9q7.2.2.2.2.2.2.2 | exact absurd e9q7 c9q7.2.2.2.2.2.2.2.2 | exact absurd e9q7 c9q7.2.2.2.2.2.2.2.2.2 | exact absurd e9q7.symm c9q7.1 | exact absurd e9q7.symm c9q7.2.1 | exact absurd e9q7.symm c9q7.2.2.1 | exact absurd e9q7.symm c9q7.2.2.2.1 | exact absurd e9q7.symm c9q7.2.2.2.2.1 | exact absurd e9q7.symm c9q7.2.2.2.2.2.1 | exact absurd e9q7.symm c9q7.2.2.2.2.2.2.1 | exact absurd e9q7.symm c9q7.2.2.2.2.2.2.2.1 | exact absurd e9q7.symm c9q7.2.2.2.2.2.2.2.2.1 | exact absurd e9q7.symm c9q7.2 | exact absurd e9q7.symm c9q7.2.2 | exact absurd e9q7.symm c9q7.2.2.2 | exact absurd e9q7.symm c9q7.2.2.2.2 | exact absurd e9q7.symm c9q7.2.2.2.2.2 | exact absurd e9q7.symm c9q7.2.2.2.2.2.2 | exact absurd e9q7.symm c9q7.2.2.2.2.2.2.2 | exact absurd e9q7.symm c9q7.2.2.2.2.2.2.2.2 | exact absurd e9q7.symm c9q7.2.2.2.2.2.2.2.2.2 | exact absurd e9q7 (Nat.ne_of_lt c9q7.1) | exact absurd e9q7 (Nat.ne_of_lt c9q7.2.1) | exact absurd e9q7 (Nat.ne_of_lt c9q7.2.2.1) | exact absurd e9q7 (Nat.ne_of_lt c9q7.2.2.2.1) | exact absurd e9q7 (Nat.ne_of_lt c9q7.2.2.2.2.1) | exact absurd e9q7 (Nat.ne_of_lt c9q7.2.2.2.2.2.1) | exact absurd e9q7 (Nat.ne_of_lt c9q7.2.2.2.2.2.2.1) | exact absurd e9q7 (Nat.ne_of_lt c9q7.2.2.2.2.2.2.2.1) | exact absurd e9q7 (Nat.ne_of_lt c9q7.2.2.2.2.2.2.2.2.1) | exact absurd e9q7 (Nat.ne_of_lt c9q7.2) | exact absurd e9q7 (Nat.ne_of_lt c9q7.2.2) | exact absurd e9q7 (Nat.ne_of_lt c9q7.2.2.2) | exact absurd e9q7 (Nat.ne_of_lt c9q7.2.2.2.2) | exact absurd e9q7 (Nat.ne_of_lt c9q7.2.2.2.2.2) | exact absurd e9q7 (Nat.ne_of_lt c9q7.2.2.2.2.2.2) | exact absurd e9q7 (Nat.ne_of_lt c9q7.2.2.2.2.2.2.2) | exact absurd e9q7 (Nat.ne_of_lt c9q7.2.2.2.2.2.2.2.2) | exact absurd e9q7 (Nat.ne_of_lt c9q7.2.2.2.2.2.2.2.2.2) | exact absurd e9q7.symm (Nat.ne_of_lt c9q7.1) | exact absurd e9q7.symm (Nat.ne_of_lt c9q7.2.1) | exact absurd e9q7.symm (Nat.ne_of_lt c9q7.2.2.1) | exact absurd e9q7.symm (Nat.ne_of_lt c9q7.2.2.2.1) | exact absurd e9q7.symm (Nat.ne_of_lt c9q7.2.2.2.2.1) | exact absurd e9q7.symm (Nat.ne_of_lt c9q7.2.2.2.2.2.1) | exact absurd e9q7.symm (Nat.ne_of_lt c9q7.2.2.2.2.2.2.1) | exact absurd e9q7.symm (Nat.ne_of_lt c9q7.2.2.2.2.2.2.2.1) | exact absurd e9q7.symm (Nat.ne_of_lt c9q7.2.2.2.2.2.2.2.2.1) | exact absurd e9q7.symm (Nat.ne_of_lt c9q7.2) | exact absurd e9q7.symm (Nat.ne_of_lt c9q7.2.2) | exact absurd e9q7.symm (Nat.ne_of_lt c9q7.2.2.2) | exact absurd e9q7.symm (Nat.ne_of_lt c9q7.2.2.2.2) | exact absurd e9q7.symm (Nat.ne_of_lt c9q7.2.2.2.2.2) | exact absurd e9q7.symm (Nat.ne_of_lt c9q7.2.2.2.2.2.2) | exact absurd e9q7.symm (Nat.ne_of_lt c9q7.2.2.2.2.2.2.2) | exact absurd e9q7.symm (Nat.ne_of_lt c9q7.2.2.2.2.2.2.2.2) | exact absurd e9q7.symm (Nat.ne_of_lt c9q7.2.2.2.2.2.2.2.2.2) | (clear c9q7; (rename And _ _ => c8q7); first | exact absurd e9q7 c8q7.1 | exact absurd e9q7 c8q7.2.1 | exact absurd e9q7 c8q7.2.2.1 | exact absurd e9q7 c8q7.2.2.2.1 | exact absurd e9q7 c8q7.2.2.2.2.1 | exact absurd e9q7 c8q7.2.2.2.2.2.1 | exact absurd e9q7 c8q7.2.2.2.2.2.2.1 | exact absurd e9q7 c8q7.2.2.2.2.2.2.2.1 | exact absurd e9q7 c8q7.2.2.2.2.2.2.2.2.1 | exact absurd e9q7 c8q7.2 | exact absurd e9q7 c8q7.2.2 | exact absurd e9q7 c8q7.2.2.2 | exact absurd e9q7 c8q7.2.2.2.2 | exact absurd e9q7 c8q7.2.2.2.2.2 | exact absurd e9q7 c8q7.2.2.2.2.2.2 | exact absurd e9q7 c8q7.2.2.2.2.2.2.2 | exact absurd e9q7 c8q7.2.2.2.2.2.2.2.2 | exact absurd e9q7 c8q7.2.2.2.2.2.2.2.2.2 | exact absurd e9q7.symm c8q7.1 | exact absurd e9q7.symm c8q7.2.1 | exact absurd e9q7.symm c8q7.2.2.1 | exact absurd e9q7.symm c8q7.2.2.2.1 | exact absurd e9q7.symm c8q7.2.2.2.2.1 | exact absurd e9q7.symm c8q7.2.2.2.2.2.1 | exact absurd e9q7.symm c8q7.2.2.2.2.2.2.1 | exact absurd e9q7.symm c8q7.2.2.2.2.2.2.2.1 | exact absurd e9q7.symm c8q7.2.2.2.2.2.2.2.2.1 | exact absurd e9q7.symm c8q7.2 | exact absurd e9q7.symm c8q7.2.2 | exact absurd e9q7.symm c8q7.2.2.2 | exact absurd e9q7.symm c8q7.2.2.2.2 | exact absurd e9q7.symm c8q7.2.2.2.2.2 | exact absurd e9q7.symm c8q7.2.2.2.2.2.2 | exact absurd e9q7.symm c8q7.2.2.2.2.2.2.2 | exact absurd e9q7.symm c8q7.2.2.2.2.2.2.2.2 | exact absurd e9q7.symm c8q7.2.2.2.2.2.2.2.2.2 | exact absurd e9q7 (Nat.ne_of_lt c8q7.1) | exact absurd e9q7 (Nat.ne_of_lt c8q7.2.1) | exact absurd e9q7 (Nat.ne_of_lt c8q7.2.2.1) | exact absurd e9q7 (Nat.ne_of_lt c8q7.2.2.2.1) | exact absurd e9q7 (Nat.ne_of_lt c8q7.2.2.2.2.1) | exact absurd e9q7 (Nat.ne_of_lt c8q7.2.2.2.2.2.1) | exact absurd e9q7 (Nat.ne_of_lt c8q7.2.2.2.2.2.2.1) | exact absurd e9q7 (Nat.ne_of_lt c8q7.2.2.2.2.2.2.2.1) | exact absurd e9q7 (Nat.ne_of_lt c8q7.2.2.2.2.2.2.2.2.1) | exact absurd e9q7 (Nat.ne_of_lt c8q7.2) | exact absurd e9q7 (Nat.ne_of_lt c8q7.2.2) | exact absurd e9q7 (Nat.ne_of_lt c8q7.2.2.2) | exact absurd e9q7 (Nat.ne_of_lt c8q7.2.2.2.2) | exact absurd e9q7 (Nat.ne_of_lt c8q7.2.2.2.2.2) | exact absurd e9q7 (Nat.ne_of_lt c8q7.2.2.2.2.2.2) | exact absurd e9q7 (Nat.ne_of_lt c8q7.2.2.2.2.2.2.2) | exact absurd e9q7 (Nat.ne_of_lt c8q7.2.2.2.2.2.2.2.2) | exact absurd e9q7 (Nat.ne_of_lt c8q7.2.2.2.2.2.2.2.2.2) | exact absurd e9q7.symm (Nat.ne_of_lt c8q7.1) | exact absurd e9q7.symm (Nat.ne_of_lt c8q7.2.1) | exact absurd e9q7.symm (Nat.ne_of_lt c8q7.2.2.1) | exact absurd e9q7.symm (Nat.ne_of_lt c8q7.2.2.2.1) | exact absurd e9q7.symm (Nat.ne_of_lt c8q7.2.2.2.2.1) | exact absurd e9q7.symm (Nat.ne_of_lt c8q7.2.2.2.2.2.1) | exact absurd e9q7.symm (Nat.ne_of_lt c8q7.2.2.2.2.2.2.1) | exact absurd e9q7.symm (Nat.ne_of_lt c8q7.2.2.2.2.2.2.2.1) | exact absurd e9q7.symm (Nat.ne_of_lt c8q7.2.2.2.2.2.2.2.2.1) | exact absurd e9q7.symm (Nat.ne_of_lt c8q7.2) | exact absurd e9q7.symm (Nat.ne_of_lt c8q7.2.2) | exact absurd e9q7.symm (Nat.ne_of_lt c8q7.2.2.2) | exact absurd e9q7.symm (Nat.ne_of_lt c8q7.2.2.2.2) | exact absurd e9q7.symm (Nat.ne_of_lt c8q7.2.2.2.2.2) | exact absurd e9q7.symm (Nat.ne_of_lt c8q7.2.2.2.2.2.2) | exact absurd e9q7.symm (Nat.ne_of_lt c8q7.2.2.2.2.2.2.2) | exact absurd e9q7.symm (Nat.ne_of_lt c8q7.2.2.2.2.2.2.2.2) | exact absurd e9q7.symm (Nat.ne_of_lt c8q7.2.2.2.2.2.2.2.2.2))))
    k_with "x52" => (((repeat (rename And _ _ => c9q7; clear c9q7)); omega))
    k_with "x53" => ((k_here; (with_reducible show wpAny _ _ (eval (Expr.ListComp _ [PySem.Comprehension.mk _ _ [] _] _ _) _) _ _ _); k_dflt (refine lcU (by k_asm) (by with_unfolding_all rfl) (by decide) (by rfl) (by decide) (by rfl) ?_)))
    k_with "x54" => ((k_here; (with_reducible show wpAny _ _ (eval (Expr.ListComp _ [PySem.Comprehension.mk _ _ [_] _] _ _) _) _ _ _); k_dflt (refine lcT (by k_asm) (by with_unfolding_all rfl) (by decide) (by rfl) (by decide) (by rfl) ?_)))
    k_with "x55" => ((k_here; k_dflt (refine lcAU (by k_asm) (by rfl) (by with_unfolding_all rfl) (by with_unfolding_all rfl) (by decide) (by rfl) (by decide) (by rfl) (by rfl) (by rfl) ?_)))
    k_with "x56" => ((k_here; (with_reducible show wpAny _ _ (call (Value.ref 147) _) _ _ _); k_dflt (refine' pd_use (c_draw _ _ _ ?h1x56 ?h2x56) ?k1x56 ?k2x56 ?k3x56 ?k4x56 ?kKx56 ?k5x56 ?kdx56 ?kux56 ?m1x56 ?m2x56 ?pqx56 ?hIx56 ?hlx56 ?hxx56 ?hx2x56 ?hyx56 ?_; (case k1x56 => k_asm); (case k2x56 => k_asm); (case k3x56 => k_asm); (case k4x56 => k_asm); (case kKx56 => first | exact rfl | assumption); (case k5x56 => k_asm); (case kdx56 => ktr_room); (case kux56 => ktr_units); (case m1x56 => k_mem); (case m2x56 => k_mem); (case pqx56 => first | assumption | walk_at "a ne"); (case hIx56 => assumption); (case hlx56 => first | assumption | walk_at "a om"); (case hxx56 => first | assumption | walk_at "a om"); (case hx2x56 => first | assumption | walk_at "a om"); (case hyx56 => first | assumption | walk_at "a om"); (case h1x56 => walk_at "a om"); (case h2x56 => walk_at "a om")); (rintro r9q7 v9q7 x9q7 tx9q7 y9q7 ty9q7 h9q7 tk9q7 F9q7 N9q7 r1q7 r2q7 x1q7 x2q7 y1q7 ⟨t9q7, e9q7⟩); (subst e9q7); (simp only [List.map_cons, List.map_nil] at N9q7); (repeat (first | rw [if_pos trivial] at N9q7 | rw [if_pos rfl] at N9q7 | rw [if_neg (by walk_at "a ne")] at N9q7)); (try dsimp only)))
    k_with "x57" => ((k_here; (with_reducible show wpAny _ _ (call (Value.ref 154) _) _ _ _); k_dflt (k_extra "my pick")))
    k_with "x58" => ((k_here; (with_reducible refine gm_bjoin ?_)))
    k_with "x59" => ((k_here; k_dflt (refine ne_same (by with_unfolding_all rfl) ?_)))
    k_with "x60" => ((k_here; k_dflt (refine ne_same_b (by with_unfolding_all rfl) ?_)))
    k_with "x61" => (((show GoodW _ _ _ _ _ (.ok (.ret (.bool true))) _); (refine goodW_bool (by assumption) (by assumption) (raisesW_false ?nnx61) ?ppx61); (case nnx61 => wrow_none_raised); (case ppx61 => with_unfolding_all rfl)))
    k_with "x62" => ((intro i9q7 u9q7 I9q7 oI9q7 C9q7 oC9q7 D9q7 m9q7 ys9q7 h9q7 tk9q7 E9q7 hi9q7 hC9q7 hx9q7 F9q7 N9q7 off9q7 ne9q7; (have off9pq7 := off9q7); (simp only [LCg.Off3, and_true] at off9pq7); (try k_fold)))
    k_with "x63" => ((rename News _ _ _ _ => nEq7; exact LCg.CompEnd.intro (by assumption) nEq7 _ (by lcg_sub) (by assumption) (by first | trivial | k_mem) ⟨rfl, _, rfl⟩))
    k_with "my call" =>
      (cell_ask (c_best_charset _ [cs.getD i9 0] _ (show (1 : Nat) < 100 by decide) h1))
    k_with "my index" =>
      (refine index_best (by k_asm) (by k_mem) ?_)
      (intro t9 k9)
      (try dsimp only)
    k_with "my cend" =>
      (walk_at "turn out")
    try k_fold
    k_steps
  intro g7 ys7 hys7
  replace hys7 := hys7.ints
  rw [range_getD _ _ fun c => bestI [c]] at hys7
  clear lN lF
  k_with_none
  k_with "x1" => ((refine wpAny_call ?_; first   | (refine' code_defG (news := []) ?k1x1 ?k2x1 ?k3x1 News.nil ?k5x1 ?kAx1 ?kFx1 ?kKx1 ?k6x1 ?k7x1 ?k8x1 ?k9x1 ?kBx1 ?_ ?c2x1 ?c3x1 ?c4x1 ?c5x1; (case kAx1 => exact rfl); (case kFx1 => exact rfl); (case kKx1 => assumption); (case k1x1 => k_asm); (case k2x1 => k_asm); (case k3x1 => k_asm); (case k5x1 => k_asm); (case k6x1 => k_is); (case k7x1 => k_is); (case k8x1 => ktr_room); (case k9x1 => exact BindsTo.of_eq rfl); (case c5x1 => decide); (case kBx1 => exact locs rfl); (case c2x1 => exact rfl); (case c3x1 => exact rfl); (case c4x1 => exact rfl); k_whole; intro gpq7 Lpq7 hpq7 FGpq7 Fpq7 Npq7 Bpq7 Xpq7 Tpq7 kGpq7; (try dsimp only); (try k_fold))   | (refine' code_defGC (news := []) ?k1x1 ?k2x1 ?k3x1 News.nil ?k5x1 ?kAx1 ?kFx1 ?kKx1 ?k6x1 ?k7x1 ?k8x1 ?k9x1 ?kBx1 ?kDx1 ?_ ?c2x1 ?c3x1 ?c4x1; (case kAx1 => exact rfl); (case kFx1 => exact rfl); (case kKx1 => assumption); (case k1x1 => k_asm); (case k2x1 => k_asm); (case k3x1 => k_asm); (case k5x1 => k_asm); (case k6x1 => k_is); (case k7x1 => k_is); (case k8x1 => ktr_room); (case k9x1 => exact BindsTo.of_eq rfl); (case kBx1 => exact rfl); (case kDx1 => decide +kernel); (case c2x1 => exact rfl); (case c3x1 => exact rfl); (case c4x1 => exact rfl); k_whole; intro gpq7 Lpq7 hpq7 tkpq7 cellspq7 FGpq7 Fpq7 Npq7 Ypq7 Bpq7 Xpq7 Tpq7 l1q7 kGpq7; clear l1q7; k_cells Ypq7; (try simp only [List.cons_append, List.nil_append] at Npq7); (try dsimp only); (try k_fold))))
  k_with "calls" => (cell_ask (c_need_charset _ _ _ (by assumption)))
  k_with "calls" => (cell_ask (c_has_sign _ _ _ _ _ (by assumption)))
  k_with "calls" => (cell_ask (c_utf8_octets _ _ _ (by assumption)))
  k_with "calls" => (cell_ask (c_utf8_sign _ _ _ _ _ (by first | assumption | omega) (by first | assumption | omega) (by first | assumption | omega)))
  k_with "calls" => (cell_ask (c_sign_at' _ _ _ _ _ _ _ (by assumption) (by first | assumption | omega) (by first | assumption | omega) (by first | assumption | omega)))
  k_with "x15" => ((intro zq7 h2q7 h3q7; (simp only [List.forall_mem_cons, List.not_mem_nil, false_implies, implies_true, and_true, ne_eq] at h2q7); (simp only [List.contains_cons, List.contains_nil, Bool.or_false, Bool.or_eq_false_iff, beq_eq_false_iff_ne, ne_eq] at h3q7); simp [kstB, h2q7, h3q7]))
  k_with "calls" => (cell_ask (c_text_in _ _ _ _ _ (by assumption) (by assumption)))
  k_with "calls" => (cell_ask (c_strict_text _ _ _ _ _ (by assumption) (by assumption) (by assumption)))
  k_with "x18" => ((k_here; k_dflt (refine item_text (by first | assumption | omega) (by first | assumption | omega) (by first | assumption | omega) ?_)))
  k_with "x19" => ((k_here; k_dflt (refine len_text (by first | assumption | omega) ?_)))
  k_with "x20" => ((k_here; k_dflt (refine ord_one (by first | assumption | omega) ?_)))
  k_with "calls" => (cell_ask (c_has_sign_true _ _ _ _ _ (by assumption) (by assumption)))
  k_with "x22" => ((intro zq7 h1q7 h2q7 h3q7; (simp only [List.forall_mem_cons, List.not_mem_nil, false_implies, implies_true, and_true, ne_eq] at h2q7); (simp only [List.contains_cons, List.contains_nil, Bool.or_false, Bool.or_eq_false_iff, beq_eq_false_iff_ne, ne_eq] at h3q7); simp [kstB, h1q7, h2q7, h3q7]))
  k_with "calls" => (cell_ask (c_octets_in0 _ _ _ _ _ (by assumption) (by first | assumption | omega) (by assumption)))
  k_with "calls" => (cell_ask (c_best_charset _ _ _ (by first | assumption | omega) (by assumption)))
  k_with "x50" => ((k_dflt ((show ¬ @Eq Nat _ _); intro e9q7; (repeat (rename And _ _ => c9q7; obtain ⟨_, _⟩ := c9q7)); first | exact absurd e9q7 (by assumption) | exact absurd e9q7.symm (by assumption) | exact absurd e9q7 (Nat.ne_of_lt (by assumption)) | exact absurd e9q7.symm (Nat.ne_of_lt (by assumption)) | omega)))
  k_with "x51" => ((refine neN ?_; (try dsimp only); intro e9q7; (rename And _ _ => c9q7); first | exact absurd e9q7 c9q7.1 | exact absurd e9q7 c9q7.2.1 | exact absurd e9q7 c9q7.2.2.1 | exact absurd e9q7 c9q7.2.2.2.1 | exact absurd e9q7 c9q7.2.2.2.2.1 | exact absurd e9q7 c9q7.2.2.2.2.2.1 | exact absurd e9q7 c9q7.2.2.2.2.2.2.1 | exact absurd e9q7 c9q7.2.2.2.2.2.2.2.1 | exact absurd e9q7 c9q7.2.2.2.2.2.2.2.2.1 | exact absurd e9q7 c9q7.2 | exact absurd e9q7 c9q7.2.2 | exact absurd e9q7 c9q7.2.2.2 | exact absurd e9q7 c9q7.2.2.2.2 | exact absurd e9q7 c9q7.2.2.2.2.2 | exact absurd e9q7 c9q7.2.2.2.2.2.2 | exact absurd e9q7 c9q7.2.2.2.2.2.2.2 | exact absurd e9q7 c9q7.2.2.2.2.2.2.2.2 | exact absurd e9q7 c9q7.2.2.2.2.2.2.2.2.2 | exact absurd e9q7.symm c9q7.1 | exact absurd e9q7.symm c9q7.2.1 | exact absurd e9q7.symm c9q7.2.2.1 | exact absurd e9q7.symm c9q7.2.2.2.1 | exact absurd e9q7.symm c9q7.2.2.2.2.1 | exact absurd e9q7.symm c9q7.2.2.2.2.2.1 | exact absurd e9q7.symm c9q7.2.2.2.2.2.2.1 | exact absurd e9q7.symm c9q7.2.2.2.2.2.2.2.1 | exact absurd e9q7.symm c9q7.2.2.2.2.2.2.2.2.1 | exact absurd e9q7.symm c9q7.2 | exact absurd e9q7.symm c9q7.2.2 | exact absurd e9q7.symm c9q7.2.2.2 | exact absurd e9q7.symm c9q7.2.2.2.2 | exact absurd e9q7.symm c9q7.2.2.2.2.2 | exact absurd e9q7.symm c9q7.2.2.2.2.2.2 | exact absurd e9q7.symm c9q7.2.2.2.2.2.2.2 | exact absurd e9q7.symm c9q7.2.2.2.2.2.2.2.2 | exact absurd e9q7.symm c9q7.2.2.2.2.2.2.2.2.2 | exact absurd e9q7 (Nat.ne_of_lt c9q7.1) | exact absurd e9q7 (Nat.ne_of_lt c9q7.2.1) | exact absurd e9q7 (Nat.ne_of_lt c9q7.2.2.1) | exact absurd e9q7 (Nat.ne_of_lt c9q7.2.2.2.1) | exact absurd e9q7 (Nat.ne_of_lt c9q7.2.2.2.2.1) | exact absurd e9q7 (Nat.ne_of_lt c9q7.2.2.2.2.2.1) | exact absurd e9q7 (Nat.ne_of_lt c9q7.2.2.2.2.2.2.1) | exact absurd e9q7 (Nat.ne_of_lt c9q7.2.2.2.2.2.2.2.1) | exact absurd e9q7 (Nat.ne_of_lt c9q7.2.2.2.2.2.2.2.2.1) | exact absurd e9q7 (Nat.ne_of_lt c9q7.2) | exact absurd e9q7 (Nat.ne_of_lt c9q7.2.2) | exact absurd e9q7 (Nat.ne_of_lt c9q7.2.2.2) | exact absurd e9q7 (Nat.ne_of_lt c9q7.2.2.2.2) | exact absurd e9q7 (Nat.ne_of_lt c9q7.2.2.2.2.2) | exact absurd e9q7 (Nat.ne_of_lt c9q7.2.2.2.2.2.2) | exact absurd e9q7 (Nat.ne_of_lt c9q7.2.2.2.2.2.2.2) | exact absurd e9q7 (Nat.ne_of_lt c9q7.2.2.2.2.2.2.2.2) | exact absurd e9q7 (Nat.ne_of_lt c9q7.2.2.2.2.2.2.2.2.2) | exact absurd e9q7.symm (Nat.ne_of_lt c9q7.1) | exact absurd e9q7.symm (Nat.ne_of_lt c9q7.2.1) | exact absurd e9q7.symm (Nat.ne_of_lt c9q7.2.2.1) | exact absurd e9q7.symm (Nat.ne_of_lt c9q7.2.2.2.1) | exact absurd e9q7.symm (Nat.ne_of_lt c9q7.2.2.2.2.1) | exact absurd e9q7.symm (Nat.ne_of_lt c9q7.2.2.2.2.2.1) | exact absurd e9q7.symm (Nat.ne_of_lt c9q7.2.2.2.2.2.2.1) | exact absurd e9q7.symm (Nat.ne_of_lt c9q7.2.2.2.2.2.2.2.1) | exact absurd e9q7.symm (Nat.ne_of_lt c9q7.2.2.2.2.2.2.2.2.1) | exact absurd e9q7.symm (Nat.ne_of_lt c9q7.2) | exact absurd e9q7.symm (Nat.ne_of_lt c9q7.2.2) | exact absurd e9q7.symm (Nat.ne_of_lt c9q7.2.2.2) | exact absurd e9q7.symm (Nat.ne_of_lt c9q7.2.2.2.2) | exact absurd e9q7.symm (Nat.ne_of_lt c9q7.2.2.2.2.2) | exact absurd e9q7.symm (Nat.ne_of_lt c9q7.2.2.2.2.2.2) | exact absurd e9q7.symm (Nat.ne_of_lt c9q7.2.2.2.2.2.2.2) | exact absurd e9q7.symm (Nat.ne_of_lt c9q7.2.2.2.2.2.2.2.2) | exact absurd e9q7.symm (Nat.ne_of_lt c9q7.2.2.2.2.2.2.2.2.2) | (clear c9q7; (rename And _ _ => c8q7); first | exact absurd e9q7 c8q7.1 | exact absurd e9q7 c8q7.2.1 | exact absurd e9q7 c8q7.2.2.1 | exact absurd e9q7 c8q7.2.2.2.1 | exact absurd e9q7 c8q7.2.2.2.2.1 | exact absurd e9q7 c8q7.2.2.2.2.2.1 | exact absurd e9q7 c8q7.2.2.2.2.2.2.1 | exact absurd e9q7 c8q7.2.2.2.2.2.2.2.1 | exact absurd e9q7 c8q7.2.2.2.2.2.2.2.2.1 | exact absurd e9q7 c8q7.2 | exact absurd e9q7 c8q7.2.2 | exact absurd e9q7 c8q7.2.2.2 | exact absurd e9q7 c8q7.2.2.2.2 | exact absurd e9q7 c8q7.2.2.2.2.2 | exact absurd e9q7 c8q7.2.2.2.2.2.2 | exact absurd e9q7 c8q7.2.2.2.2.2.2.2 | exact absurd e9q7 c8q7.2.2.2.2.2.2.2.2 | exact absurd e9q7 c8q7.2.2.2.2.2.2.2.2.2 | exact absurd e9q7.symm c8q7.1 | exact absurd e9q7.symm c8q7.2.1 | exact absurd e9q7.symm c8q7.2.2.1 | exact absurd e9q7.symm c8q7.2.2.2.1 | exact absurd e9q7.symm c8q7.2.2.2.2.1 | exact absurd e9q7.symm c8q7.2.2.2.2.2.1 | exact absurd e9q7.symm c8q7.2.2.2.2.2.2.1 | exact absurd e9q7.symm c8q7.2.2.2.2.2.2.2.1 | exact absurd e9q7.symm c8q7.2.2.2.2.2.2.2.2.1 | exact absurd e9q7.symm c8q7.2 | exact absurd e9q7.symm c8q7.2.2 | exact absurd e9q7.symm c8q7.2.2.2 | exact absurd e9q7.symm c8q7.2.2.2.2 | exact absurd e9q7.symm c8q7.2.2.2.2.2 | exact absurd e9q7.symm c8q7.2.2.2.2.2.2 | exact absurd e9q7.symm c8q7.2.2.2.2.2.2.2 | exact absurd e9q7.symm c8q7.2.2.2.2.2.2.2.2 | exact absurd e9q7.symm c8q7.2.2.2.2.2.2.2.2.2 | exact absurd e9q7 (Nat.ne_of_lt c8q7.1) | exact absurd e9q7 (Nat.ne_of_lt c8q7.2.1) | exact absurd e9q7 (Nat.ne_of_lt c8q7.2.2.1) | exact absurd e9q7 (Nat.ne_of_lt c8q7.2.2.2.1) | exact absurd e9q7 (Nat.ne_of_lt c8q7.2.2.2.2.1) | exact absurd e9q7 (Nat.ne_of_lt c8q7.2.2.2.2.2.1) | exact absurd e9q7 (Nat.ne_of_lt c8q7.2.2.2.2.2.2.1) | exact absurd e9q7 (Nat.ne_of_lt c8q7.2.2.2.2.2.2.2.1) | exact absurd e9q7 (Nat.ne_of_lt c8q7.2.2.2.2.2.2.2.2.1) | exact absurd e9q7 (Nat.ne_of_lt c8q7.2) | exact absurd e9q7 (Nat.ne_of_lt c8q7.2.2) | exact absurd e9q7 (Nat.ne_of_lt c8q7.2.2.2) | exact absurd e9q7 (Nat.ne_of_lt c8q7.2.2.2.2) | exact absurd e9q7 (Nat.ne_of_lt c8q7.2.2.2.2.2) | exact absurd e9q7 (Nat.ne_of_lt c8q7.2.2.2.2.2.2) | exact absurd e9q7 (Nat.ne_of_lt c8q7.2.2.2.2.2.2.2) | exact absurd e9q7 (Nat.ne_of_lt c8q7.2.2.2.2.2.2.2.2) | exact absurd e9q7 (Nat.ne_of_lt c8q7.2.2.2.2.2.2.2.2.2) | exact absurd e9q7.symm (Nat.ne_of_lt c8q7.1) | exact absurd e9q7.symm (Nat.ne_of_lt c8q7.2.1) | exact absurd e9q7.symm (Nat.ne_of_lt c8q7.2.2.1) | exact absurd e9q7.symm (Nat.ne_of_lt c8q7.2.2.2.1) | exact absurd e9q7.symm (Nat.ne_of_lt c8q7.2.2.2.2.1) | exact absurd e9q7.symm (Nat.ne_of_lt c8q7.2.2.2.2.2.1) | exact absurd e9q7.symm (Nat.ne_of_lt c8q7.2.2.2.2.2.2.1) | exact absurd e9q7.symm (Nat.ne_of_lt c8q7.2.2.2.2.2.2.2.1) | exact absurd e9q7.symm (Nat.ne_of_lt c8q7.2.2.2.2.2.2.2.2.1) | exact absurd e9q7.symm (Nat.ne_of_lt c8q7.2) | exact absurd e9q7.symm (Nat.ne_of_lt c8q7.2.2) | exact absurd e9q7.symm (Nat.ne_of_lt c8q7.2.2.2) | exact absurd e9q7.symm (Nat.ne_of_lt c8q7.2.2.2.2) | exact absurd e9q7.symm (Nat.ne_of_lt c8q7.2.2.2.2.2) | exact absurd e9q7.symm (Nat.ne_of_lt c8q7.2.2.2.2.2.2) | exact absurd e9q7.symm (Nat.ne_of_lt c8q7.2.2.2.2.2.2.2) | exact absurd e9q7.symm (Nat.ne_of_lt c8q7.2.2.2.2.2.2.2.2) | exact absurd e9q7.symm (Nat.ne_of_lt c8q7.2.2.2.2.2.2.2.2.2))))
  k_with "x52" => (((repeat (rename And _ _ => c9q7; clear c9q7)); omega))
  k_with "x53" => ((k_here; (with_reducible show wpAny _ _ (eval (Expr.ListComp _ [PySem.Comprehension.mk _ _ [] _] _ _) _) _ _ _); k_dflt (refine lcU (by k_asm) (by with_unfolding_all rfl) (by decide) (by rfl) (by decide) (by rfl) ?_)))
  k_with "x54" => ((k_here; (with_reducible show wpAny _ _ (eval (Expr.ListComp _ [PySem.Comprehension.mk _ _ [_] _] _ _) _) _ _ _); k_dflt (refine lcT (by k_asm) (by with_unfolding_all rfl) (by decide) (by rfl) (by decide) (by rfl) ?_)))
  k_with "x55" => ((k_here; k_dflt (refine lcAU (by k_asm) (by rfl) (by with_unfolding_all rfl) (by with_unfolding_all rfl) (by decide) (by rfl) (by decide) (by rfl) (by rfl) (by rfl) ?_)))
  k_with "x56" => ((k_here; (with_reducible show wpAny _ _ (call (Value.ref 147) _) _ _ _); k_dflt (refine' pd_use (c_draw _ _ _ ?h1x56 ?h2x56) ?k1x56 ?k2x56 ?k3x56 ?k4x56 ?kKx56 ?k5x56 ?kdx56 ?kux56 ?m1x56 ?m2x56 ?pqx56 ?hIx56 ?hlx56 ?hxx56 ?hx2x56 ?hyx56 ?_; (case k1x56 => k_asm); (case k2x56 => k_asm); (case k3x56 => k_asm); (case k4x56 => k_asm); (case kKx56 => first | exact rfl | assumption); (case k5x56 => k_asm); (case kdx56 => ktr_room); (case kux56 => ktr_units); (case m1x56 => k_mem); (case m2x56 => k_mem); (case pqx56 => first | assumption | walk_at "a ne"); (case hIx56 => assumption); (case hlx56 => first | assumption | walk_at "a om"); (case hxx56 => first | assumption | walk_at "a om"); (case hx2x56 => first | assumption | walk_at "a om"); (case hyx56 => first | assumption | walk_at "a om"); (case h1x56 => walk_at "a om"); (case h2x56 => walk_at "a om")); (rintro r9q7 v9q7 x9q7 tx9q7 y9q7 ty9q7 h9q7 tk9q7 F9q7 N9q7 r1q7 r2q7 x1q7 x2q7 y1q7 ⟨t9q7, e9q7⟩); (subst e9q7); (simp only [List.map_cons, List.map_nil] at N9q7); (repeat (first | rw [if_pos trivial] at N9q7 | rw [if_pos rfl] at N9q7 | rw [if_neg (by walk_at "a ne")] at N9q7)); (try dsimp only)))
  k_with "x57" => ((k_here; (with_reducible show wpAny _ _ (call (Value.ref 154) _) _ _ _); k_dflt (k_extra "my pick")))
  k_with "x58" => ((k_here; (with_reducible refine gm_bjoin ?_)))
  k_with "x59" => ((k_here; k_dflt (refine ne_same (by with_unfolding_all rfl) ?_)))
  k_with "x60" => ((k_here; k_dflt (refine ne_same_b (by with_unfolding_all rfl) ?_)))
  k_with "x61" => (((show GoodW _ _ _ _ _ (.ok (.ret (.bool true))) _); (refine goodW_bool (by assumption) (by assumption) (raisesW_false ?nnx61) ?ppx61); (case nnx61 => wrow_none_raised); (case ppx61 => with_unfolding_all rfl)))
  k_with "x62" => ((intro i9q7 u9q7 I9q7 oI9q7 C9q7 oC9q7 D9q7 m9q7 ys9q7 h9q7 tk9q7 E9q7 hi9q7 hC9q7 hx9q7 F9q7 N9q7 off9q7 ne9q7; (have off9pq7 := off9q7); (simp only [LCg.Off3, and_true] at off9pq7); (try k_fold)))
  k_with "x63" => ((rename News _ _ _ _ => nEq7; exact LCg.CompEnd.intro (by assumption) nEq7 _ (by lcg_sub) (by assumption) (by first | trivial | k_mem) ⟨rfl, _, rfl⟩))
  k_with "my best" =>
    (refine item_best (cs := cs) (by k_asm) (by k_mem) (best_max (by assumption) (by assumption)) ?_)
    (intro t9)
    (rename News _ _ _ _ => lN)
    (replace lN := news_drop 4 lN)
    (simp only [List.drop_succ_cons, List.drop_zero] at lN)
    (repeat (rename And _ _ => cc9; clear cc9))
    (try dsimp only)
  k_steps
  rename News _ _ _ _ => lN
  rename Fr _ _ _ _ => lF
  have isX0 : IsCs (Str.ofString "us-ascii") := isCs_A
  refine str_srcT (fun c => decide (c ≤ 127)) lF lN rfl (lt_100 hc8) ?_ ?_
  case refine_1 =>
    clear lN lF
    k_with_none
    k_with "x1" => ((refine wpAny_call ?_; first   | (refine' code_defG (news := []) ?k1x1 ?k2x1 ?k3x1 News.nil ?k5x1 ?kAx1 ?kFx1 ?kKx1 ?k6x1 ?k7x1 ?k8x1 ?k9x1 ?kBx1 ?_ ?c2x1 ?c3x1 ?c4x1 ?c5x1; (case kAx1 => exact rfl); (case kFx1 => exact rfl); (case kKx1 => assumption); (case k1x1 => k_asm); (case k2x1 => k_asm); (case k3x1 => k_asm); (case k5x1 => k_asm); (case k6x1 => k_is); (case k7x1 => k_is); (case k8x1 => ktr_room); (case k9x1 => exact BindsTo.of_eq rfl); (case c5x1 => decide); (case kBx1 => exact locs rfl); (case c2x1 => exact rfl); (case c3x1 => exact rfl); (case c4x1 => exact rfl); k_whole; intro gpq7 Lpq7 hpq7 FGpq7 Fpq7 Npq7 Bpq7 Xpq7 Tpq7 kGpq7; (try dsimp only); (try k_fold))   | (refine' code_defGC (news := []) ?k1x1 ?k2x1 ?k3x1 News.nil ?k5x1 ?kAx1 ?kFx1 ?kKx1 ?k6x1 ?k7x1 ?k8x1 ?k9x1 ?kBx1 ?kDx1 ?_ ?c2x1 ?c3x1 ?c4x1; (case kAx1 => exact rfl); (case kFx1 => exact rfl); (case kKx1 => assumption); (case k1x1 => k_asm); (case k2x1 => k_asm); (case k3x1 => k_asm); (case k5x1 => k_asm); (case k6x1 => k_is); (case k7x1 => k_is); (case k8x1 => ktr_room); (case k9x1 => exact BindsTo.of_eq rfl); (case kBx1 => exact rfl); (case kDx1 => decide +kernel); (case c2x1 => exact rfl); (case c3x1 => exact rfl); (case c4x1 => exact rfl); k_whole; intro gpq7 Lpq7 hpq7 tkpq7 cellspq7 FGpq7 Fpq7 Npq7 Ypq7 Bpq7 Xpq7 Tpq7 l1q7 kGpq7; clear l1q7; k_cells Ypq7; (try simp only [List.cons_append, List.nil_append] at Npq7); (try dsimp only); (try k_fold))))
    k_with "calls" => (cell_ask (c_need_charset _ _ _ (by assumption)))
    k_with "calls" => (cell_ask (c_has_sign _ _ _ _ _ (by assumption)))
    k_with "calls" => (cell_ask (c_utf8_octets _ _ _ (by assumption)))
    k_with "calls" => (cell_ask (c_utf8_sign _ _ _ _ _ (by first | assumption | omega) (by first | assumption | omega) (by first | assumption | omega)))
    k_with "calls" => (cell_ask (c_sign_at' _ _ _ _ _ _ _ (by assumption) (by first | assumption | omega) (by first | assumption | omega) (by first | assumption | omega)))
    k_with "x15" => ((intro zq7 h2q7 h3q7; (simp only [List.forall_mem_cons, List.not_mem_nil, false_implies, implies_true, and_true, ne_eq] at h2q7); (simp only [List.contains_cons, List.contains_nil, Bool.or_false, Bool.or_eq_false_iff, beq_eq_false_iff_ne, ne_eq] at h3q7); simp [kstB, h2q7, h3q7]))
    k_with "calls" => (cell_ask (c_text_in _ _ _ _ _ (by assumption) (by assumption)))
    k_with "calls" => (cell_ask (c_strict_text _ _ _ _ _ (by assumption) (by assumption) (by assumption)))
    k_with "x18" => ((k_here; k_dflt (refine item_text (by first | assumption | omega) (by first | assumption | omega) (by first | assumption | omega) ?_)))
    k_with "x19" => ((k_here; k_dflt (refine len_text (by first | assumption | omega) ?_)))
    k_with "x20" => ((k_here; k_dflt (refine ord_one (by first | assumption | omega) ?_)))
    k_with "calls" => (cell_ask (c_has_sign_true _ _ _ _ _ (by assumption) (by assumption)))
    k_with "x22" => ((intro zq7 h1q7 h2q7 h3q7; (simp only [List.forall_mem_cons, List.not_mem_nil, false_implies, implies_true, and_true, ne_eq] at h2q7); (simp only [List.contains_cons, List.contains_nil, Bool.or_false, Bool.or_eq_false_iff, beq_eq_false_iff_ne, ne_eq] at h3q7); simp [kstB, h1q7, h2q7, h3q7]))
    k_with "calls" => (cell_ask (c_octets_in0 _ _ _ _ _ (by assumption) (by first | assumption | omega) (by assumption)))
    k_with "calls" => (cell_ask (c_best_charset _ _ _ (by first | assumption | omega) (by assumption)))
    k_with "x50" => ((k_dflt ((show ¬ @Eq Nat _ _); intro e9q7; (repeat (rename And _ _ => c9q7; obtain ⟨_, _⟩ := c9q7)); first | exact absurd e9q7 (by assumption) | exact absurd e9q7.symm (by assumption) | exact absurd e9q7 (Nat.ne_of_lt (by assumption)) | exact absurd e9q7.symm (Nat.ne_of_lt (by assumption)) | omega)))
    k_with "x51" => ((refine neN ?_; (try dsimp only); intro e9q7; (rename And _ _ => c9q7); first | exact absurd e9q7 c9q7.1 | exact absurd e9q7 c9q7.2.1 | exact absurd e9q7 c9q7.2.2.1 | exact absurd e9q7 c9q7.2.2.2.1 | exact absurd e9q7 c9q7.2.2.2.2.1 | exact absurd e9q7 c9q7.2.2.2.2.2.1 | exact absurd e9q7 c9q7.2.2.2.2.2.2.1 | exact absurd e9q7 c9q7.2.2.2.2.2.2.2.1 | exact absurd e9q7 c9q7.2.2.2.2.2.2.2.2.1 | exact absurd e9q7 c9q7.2 | exact absurd e9q7 c9q7.2.2 | exact absurd e9q7 c9q7.2.2.2 | exact absurd e9q7 c9q7.2.2.2.2 | exact absurd e9q7 c9q7.2.2.2.2.2 | exact absurd e9q7 c9q7.2.2.2.2.2.2 | exact absurd e9q7 c9q7.2.2.2.2.2.2.2 | exact absurd e9q7 c9q7.2.2.2.2.2.2.2.2 | exact absurd e9q7 c9q7.2.2.2.2.2.2.2.2.2 | exact absurd e9q7.symm c9q7.1 | exact absurd e9q7.symm c9q7.2.1 | exact absurd e9q7.symm c9q7.2.2.1 | exact absurd e9q7.symm c9q7.2.2.2.1 | exact absurd e9q7.symm c9q7.2.2.2.2.1 | exact absurd e9q7.symm c9q7.2.2.2.2.2.1 | exact absurd e9q7.symm c9q7.2.2.2.2.2.2.1 | exact absurd e9q7.symm c9q7.2.2.2.2.2.2.2.1 | exact absurd e9q7.symm c9q7.2.2.2.2.2.2.2.2.1 | exact absurd e9q7.symm c9q7.2 | exact absurd e9q7.symm c9q7.2.2 | exact absurd e9q7.symm c9q7.2.2.2 | exact absurd e9q7.symm c9q7.2.2.2.2 | exact absurd e9q7.symm c9q7.2.2.2.2.2 | exact absurd e9q7.symm c9q7.2.2.2.2.2.2 | exact absurd e9q7.symm c9q7.2.2.2.2.2.2.2 | exact absurd e9q7.symm c9q7.2.2.2.2.2.2.2.2 | exact absurd e9q7.symm c9q7.2.2.2.2.2.2.2.2.2 | exact absurd e9q7 (Nat.ne_of_lt c9q7.1) | exact absurd e9q7 (Nat.ne_of_lt c9q7.2.1) | exact absurd e9q7 (Nat.ne_of_lt c9q7.2.2.1) | exact absurd e9q7 (Nat.ne_of_lt c9q7.2.2.2.1) | exact absurd e9q7 (Nat.ne_of_lt c9q7.2.2.2.2.1) | exact absurd e9q7 (Nat.ne_of_lt c9q7.2.2.2.2.2.1) | exact absurd e9q7 (Nat.ne_of_lt c9q7.2.2.2.2.2.2.1) | exact absurd e9q7 (Nat.ne_of_lt c9q7.2.2.2.2.2.2.2.1) | exact absurd e9q7 (Nat.ne_of_lt c9q7.2.2.2.2.2.2.2.2.1) | exact absurd e9q7 (Nat.ne_of_lt c9q7.2) | exact absurd e9q7 (Nat.ne_of_lt c9q7.2.2) | exact absurd e9q7 (Nat.ne_of_lt c9q7.2.2.2) | exact absurd e9q7 (Nat.ne_of_lt c9q7.2.2.2.2) | exact absurd e9q7 (Nat.ne_of_lt c9q7.2.2.2.2.2) | exact absurd e9q7 (Nat.ne_of_lt c9q7.2.2.2.2.2.2) | exact absurd e9q7 (Nat.ne_of_lt c9q7.2.2.2.2.2.2.2) | exact absurd e9q7 (Nat.ne_of_lt c9q7.2.2.2.2.2.2.2.2) | exact absurd e9q7 (Nat.ne_of_lt c9q7.2.2.2.2.2.2.2.2.2) | exact absurd e9q7.symm (Nat.ne_of_lt c9q7.1) | exact absurd e9q7.symm (Nat.ne_of_lt c9q7.2.1) | exact absurd e9q7.symm (Nat.ne_of_lt c9q7.2.2.1) | exact absurd e9q7.symm (Nat.ne_of_lt c9q7.2.2.2.1) | exact absurd e9q7.symm (Nat.ne_of_lt c9q7.2.2.2.2.1) | exact absurd e9q7.symm (Nat.ne_of_lt c9q7.2.2.2.2.2.1) | exact absurd e9q7.symm (Nat.ne_of_lt c9q7.2.2.2.2.2.2.1) | exact absurd e9q7.symm (Nat.ne_of_lt c9q7.2.2.2.2.2.2.2.1) | exact absurd e9q7.symm (Nat.ne_of_lt c9q7.2.2.2.2.2.2.2.2.1) | exact absurd e9q7.symm (Nat.ne_of_lt c9q7.2) | exact absurd e9q7.symm (Nat.ne_of_lt c9q7.2.2) | exact absurd e9q7.symm (Nat.ne_of_lt c9q7.2.2.2) | exact absurd e9q7.symm (Nat.ne_of_lt c9q7.2.2.2.2) | exact absurd e9q7.symm (Nat.ne_of_lt c9q7.2.2.2.2.2) | exact absurd e9q7.symm (Nat.ne_of_lt c9q7.2.2.2.2.2.2) | exact absurd e9q7.symm (Nat.ne_of_lt c9q7.2.2.2.2.2.2.2) | exact absurd e9q7.symm (Nat.ne_of_lt c9q7.2.2.2.2.2.2.2.2) | exact absurd e9q7.symm (Nat.ne_of_lt c9q7.2.2.2.2.2.2.2.2.2) | (clear c9q7; (rename And _ _ => c8q7); first | exact absurd e9q7 c8q7.1 | exact absurd e9q7 c8q7.2.1 | exact absurd e9q7 c8q7.2.2.1 | exact absurd e9q7 c8q7.2.2.2.1 | exact absurd e9q7 c8q7.2.2.2.2.1 | exact absurd e9q7 c8q7.2.2.2.2.2.1 | exact absurd e9q7 c8q7.2.2.2.2.2.2.1 | exact absurd e9q7 c8q7.2.2.2.2.2.2.2.1 | exact absurd e9q7 c8q7.2.2.2.2.2.2.2.2.1 | exact absurd e9q7 c8q7.2 | exact absurd e9q7 c8q7.2.2 | exact absurd e9q7 c8q7.2.2.2 | exact absurd e9q7 c8q7.2.2.2.2 | exact absurd e9q7 c8q7.2.2.2.2.2 | exact absurd e9q7 c8q7.2.2.2.2.2.2 | exact absurd e9q7 c8q7.2.2.2.2.2.2.2 | exact absurd e9q7 c8q7.2.2.2.2.2.2.2.2 | exact absurd e9q7 c8q7.2.2.2.2.2.2.2.2.2 | exact absurd e9q7.symm c8q7.1 | exact absurd e9q7.symm c8q7.2.1 | exact absurd e9q7.symm c8q7.2.2.1 | exact absurd e9q7.symm c8q7.2.2.2.1 | exact absurd e9q7.symm c8q7.2.2.2.2.1 | exact absurd e9q7.symm c8q7.2.2.2.2.2.1 | exact absurd e9q7.symm c8q7.2.2.2.2.2.2.1 | exact absurd e9q7.symm c8q7.2.2.2.2.2.2.2.1 | exact absurd e9q7.symm c8q7.2.2.2.2.2.2.2.2.1 | exact absurd e9q7.symm c8q7.2 | exact absurd e9q7.symm c8q7.2.2 | exact absurd e9q7.symm c8q7.2.2.2 | exact absurd e9q7.symm c8q7.2.2.2.2 | exact absurd e9q7.symm c8q7.2.2.2.2.2 | exact absurd e9q7.symm c8q7.2.2.2.2.2.2 | exact absurd e9q7.symm c8q7.2.2.2.2.2.2.2 | exact absurd e9q7.symm c8q7.2.2.2.2.2.2.2.2 | exact absurd e9q7.symm c8q7.2.2.2.2.2.2.2.2.2 | exact absurd e9q7 (Nat.ne_of_lt c8q7.1) | exact absurd e9q7 (Nat.ne_of_lt c8q7.2.1) | exact absurd e9q7 (Nat.ne_of_lt c8q7.2.2.1) | exact absurd e9q7 (Nat.ne_of_lt c8q7.2.2.2.1) | exact absurd e9q7 (Nat.ne_of_lt c8q7.2.2.2.2.1) | exact absurd e9q7 (Nat.ne_of_lt c8q7.2.2.2.2.2.1) | exact absurd e9q7 (Nat.ne_of_lt c8q7.2.2.2.2.2.2.1) | exact absurd e9q7 (Nat.ne_of_lt c8q7.2.2.2.2.2.2.2.1) | exact absurd e9q7 (Nat.ne_of_lt c8q7.2.2.2.2.2.2.2.2.1) | exact absurd e9q7 (Nat.ne_of_lt c8q7.2) | exact absurd e9q7 (Nat.ne_of_lt c8q7.2.2) | exact absurd e9q7 (Nat.ne_of_lt c8q7.2.2.2) | exact absurd e9q7 (Nat.ne_of_lt c8q7.2.2.2.2) | exact absurd e9q7 (Nat.ne_of_lt c8q7.2.2.2.2.2) | exact absurd e9q7 (Nat.ne_of_lt c8q7.2.2.2.2.2.2) | exact absurd e9q7 (Nat.ne_of_lt c8q7.2.2.2.2.2.2.2) | exact absurd e9q7 (Nat.ne_of_lt c8q7.2.2.2.2.2.2.2.2) | exact absurd e9q7 (Nat.ne_of_lt c8q7.2.2.2.2.2.2.2.2.2) | exact absurd e9q7.symm (Nat.ne_of_lt c8q7.1) | exact absurd e9q7.symm (Nat.ne_of_lt c8q7.2.1) | exact absurd e9q7.symm (Nat.ne_of_lt c8q7.2.2.1) | exact absurd e9q7.symm (Nat.ne_of_lt c8q7.2.2.2.1) | exact absurd e9q7.symm (Nat.ne_of_lt c8q7.2.2.2.2.1) | exact absurd e9q7.symm (Nat.ne_of_lt c8q7.2.2.2.2.2.1) | exact absurd e9q7.symm (Nat.ne_of_lt c8q7.2.2.2.2.2.2.1) | exact absurd e9q7.symm (Nat.ne_of_lt c8q7.2.2.2.2.2.2.2.1) | exact absurd e9q7.symm (Nat.ne_of_lt c8q7.2.2.2.2.2.2.2.2.1) | exact absurd e9q7.symm (Nat.ne_of_lt c8q7.2) | exact absurd e9q7.symm (Nat.ne_of_lt c8q7.2.2) | exact absurd e9q7.symm (Nat.ne_of_lt c8q7.2.2.2) | exact absurd e9q7.symm (Nat.ne_of_lt c8q7.2.2.2.2) | exact absurd e9q7.symm (Nat.ne_of_lt c8q7.2.2.2.2.2) | exact absurd e9q7.symm (Nat.ne_of_lt c8q7.2.2.2.2.2.2) | exact absurd e9q7.symm (Nat.ne_of_lt c8q7.2.2.2.2.2.2.2) | exact absurd e9q7.symm (Nat.ne_of_lt c8q7.2.2.2.2.2.2.2.2) | exact absurd e9q7.symm (Nat.ne_of_lt c8q7.2.2.2.2.2.2.2.2.2))))
    k_with "x52" => (((repeat (rename And _ _ => c9q7; clear c9q7)); omega))
    k_with "x53" => ((k_here; (with_reducible show wpAny _ _ (eval (Expr.ListComp _ [PySem.Comprehension.mk _ _ [] _] _ _) _) _ _ _); k_dflt (refine lcU (by k_asm) (by with_unfolding_all rfl) (by decide) (by rfl) (by decide) (by rfl) ?_)))
    k_with "x54" => ((k_here; (with_reducible show wpAny _ _ (eval (Expr.ListComp _ [PySem.Comprehension.mk _ _ [_] _] _ _) _) _ _ _); k_dflt (refine lcT (by k_asm) (by with_unfolding_all rfl) (by decide) (by rfl) (by decide) (by rfl) ?_)))
    k_with "x55" => ((k_here; k_dflt (refine lcAU (by k_asm) (by rfl) (by with_unfolding_all rfl) (by with_unfolding_all rfl) (by decide) (by rfl) (by decide) (by rfl) (by rfl) (by rfl) ?_)))
    k_with "x56" => ((k_here; (with_reducible show wpAny _ _ (call (Value.ref 147) _) _ _ _); k_dflt (refine' pd_use (c_draw _ _ _ ?h1x56 ?h2x56) ?k1x56 ?k2x56 ?k3x56 ?k4x56 ?kKx56 ?k5x56 ?kdx56 ?kux56 ?m1x56 ?m2x56 ?pqx56 ?hIx56 ?hlx56 ?hxx56 ?hx2x56 ?hyx56 ?_; (case k1x56 => k_asm); (case k2x56 => k_asm); (case k3x56 => k_asm); (case k4x56 => k_asm); (case kKx56 => first | exact rfl | assumption); (case k5x56 => k_asm); (case kdx56 => ktr_room); (case kux56 => ktr_units); (case m1x56 => k_mem); (case m2x56 => k_mem); (case pqx56 => first | assumption | walk_at "a ne"); (case hIx56 => assumption); (case hlx56 => first | assumption | walk_at "a om"); (case hxx56 => first | assumption | walk_at "a om"); (case hx2x56 => first | assumption | walk_at "a om"); (case hyx56 => first | assumption | walk_at "a om"); (case h1x56 => walk_at "a om"); (case h2x56 => walk_at "a om")); (rintro r9q7 v9q7 x9q7 tx9q7 y9q7 ty9q7 h9q7 tk9q7 F9q7 N9q7 r1q7 r2q7 x1q7 x2q7 y1q7 ⟨t9q7, e9q7⟩); (subst e9q7); (simp only [List.map_cons, List.map_nil] at N9q7); (repeat (first | rw [if_pos trivial] at N9q7 | rw [if_pos rfl] at N9q7 | rw [if_neg (by walk_at "a ne")] at N9q7)); (try dsimp only)))
    k_with "x57" => ((k_here; (with_reducible show wpAny _ _ (call (Value.ref 154) _) _ _ _); k_dflt (k_extra "my pick")))
    k_with "x58" => ((k_here; (with_reducible refine gm_bjoin ?_)))
    k_with "x59" => ((k_here; k_dflt (refine ne_same (by with_unfolding_all rfl) ?_)))
    k_with "x60" => ((k_here; k_dflt (refine ne_same_b (by with_unfolding_all rfl) ?_)))
    k_with "x61" => (((show GoodW _ _ _ _ _ (.ok (.ret (.bool true))) _); (refine goodW_bool (by assumption) (by assumption) (raisesW_false ?nnx61) ?ppx61); (case nnx61 => wrow_none_raised); (case ppx61 => with_unfolding_all rfl)))
    k_with "x62" => ((intro i9q7 u9q7 I9q7 oI9q7 C9q7 oC9q7 D9q7 m9q7 ys9q7 h9q7 tk9q7 E9q7 hi9q7 hC9q7 hx9q7 F9q7 N9q7 off9q7 ne9q7; (have off9pq7 := off9q7); (simp only [LCg.Off3, and_true] at off9pq7); (try k_fold)))
    k_with "x63" => ((rename News _ _ _ _ => nEq7; exact LCg.CompEnd.intro (by assumption) nEq7 _ (by lcg_sub) (by assumption) (by first | trivial | k_mem) ⟨rfl, _, rfl⟩))
    k_with "my cend" =>
      (rename News _ _ _ _ => nE)
      (first
        | exact LCg.CompEnd.intro (by assumption) nE _ (by lcg_sub) (by assumption) trivial ⟨rfl, decide_eq_true (by walk_at "a om"), _, rfl⟩
        | exact LCg.CompEnd.intro (by assumption) nE _ (by lcg_sub) (by assumption) trivial ⟨rfl, decide_eq_false (by walk_at "a om")⟩)
    intro i9 u9 I9 oI9 C9 oC9 D9 m9 ys9 h9 tk9 E9 hi9 hC9 hx9 F9 N9 off9 ne9
    have off9' := off9
    simp only [LCg.Off3, and_true] at off9'
    obtain ⟨hc0, hc1⟩ := hcA _ (getD_mem hi9)
    try k_fold
    k_steps
  intro gA0 ysA0 hysA0
  obtain ⟨ps0, hps0⟩ : ∃ ps, ps = cs.filter (fun c => decide (c ≤ 127)) := ⟨_, rfl⟩
  rw [← hps0] at hysA0
  have hpl0 : ps0.length < 8 := by rw [hps0]; exact Nat.lt_of_le_of_lt (List.length_filter_le _ _) hc8
  have hpm0 : ∀ c ∈ ps0, c ∈ cs ∧ c ≤ 127 := fun c hc => by rw [hps0] at hc; obtain ⟨a, b⟩ := List.mem_filter.mp hc; exact ⟨a, of_decide_eq_true b⟩
  have hpA0 : ∀ c ∈ ps0, 0 ≤ c ∧ c ≤ 1114111 := fun c hc => hcA c (hpm0 c hc).1
  have hpB0 : ∀ c ∈ ps0, 0 ≤ c ∧ hasSign (Str.ofString "us-ascii") c = true := fun c hc => ⟨(hpA0 c hc).1, by
    have := (hpm0 c hc).2
    unfold hasSign
    rw [if_neg (by decide)]
    exact decide_eq_true (by rw [if_pos rfl]; walk_at "a om")⟩
  have hbl0 := pl_len (x := Str.ofString "us-ascii") (.inl rfl) ps0
  clear lN lF
  k_with_none
  k_with "x1" => ((refine wpAny_call ?_; first   | (refine' code_defG (news := []) ?k1x1 ?k2x1 ?k3x1 News.nil ?k5x1 ?kAx1 ?kFx1 ?kKx1 ?k6x1 ?k7x1 ?k8x1 ?k9x1 ?kBx1 ?_ ?c2x1 ?c3x1 ?c4x1 ?c5x1; (case kAx1 => exact rfl); (case kFx1 => exact rfl); (case kKx1 => assumption); (case k1x1 => k_asm); (case k2x1 => k_asm); (case k3x1 => k_asm); (case k5x1 => k_asm); (case k6x1 => k_is); (case k7x1 => k_is); (case k8x1 => ktr_room); (case k9x1 => exact BindsTo.of_eq rfl); (case c5x1 => decide); (case kBx1 => exact locs rfl); (case c2x1 => exact rfl); (case c3x1 => exact rfl); (case c4x1 => exact rfl); k_whole; intro gpq7 Lpq7 hpq7 FGpq7 Fpq7 Npq7 Bpq7 Xpq7 Tpq7 kGpq7; (try dsimp only); (try k_fold))   | (refine' code_defGC (news := []) ?k1x1 ?k2x1 ?k3x1 News.nil ?k5x1 ?kAx1 ?kFx1 ?kKx1 ?k6x1 ?k7x1 ?k8x1 ?k9x1 ?kBx1 ?kDx1 ?_ ?c2x1 ?c3x1 ?c4x1; (case kAx1 => exact rfl); (case kFx1 => exact rfl); (case kKx1 => assumption); (case k1x1 => k_asm); (case k2x1 => k_asm); (case k3x1 => k_asm); (case k5x1 => k_asm); (case k6x1 => k_is); (case k7x1 => k_is); (case k8x1 => ktr_room); (case k9x1 => exact BindsTo.of_eq rfl); (case kBx1 => exact rfl); (case kDx1 => decide +kernel); (case c2x1 => exact rfl); (case c3x1 => exact rfl); (case c4x1 => exact rfl); k_whole; intro gpq7 Lpq7 hpq7 tkpq7 cellspq7 FGpq7 Fpq7 Npq7 Ypq7 Bpq7 Xpq7 Tpq7 l1q7 kGpq7; clear l1q7; k_cells Ypq7; (try simp only [List.cons_append, List.nil_append] at Npq7); (try dsimp only); (try k_fold))))
  k_with "calls" => (cell_ask (c_need_charset _ _ _ (by assumption)))
  k_with "calls" => (cell_ask (c_has_sign _ _ _ _ _ (by assumption)))
  k_with "calls" => (cell_ask (c_utf8_octets _ _ _ (by assumption)))
  k_with "calls" => (cell_ask (c_utf8_sign _ _ _ _ _ (by first | assumption | omega) (by first | assumption | omega) (by first | assumption | omega)))
  k_with "calls" => (cell_ask (c_sign_at' _ _ _ _ _ _ _ (by assumption) (by first | assumption | omega) (by first | assumption | omega) (by first | assumption | omega)))
  k_with "x15" => ((intro zq7 h2q7 h3q7; (simp only [List.forall_mem_cons, List.not_mem_nil, false_implies, implies_true, and_true, ne_eq] at h2q7); (simp only [List.contains_cons, List.contains_nil, Bool.or_false, Bool.or_eq_false_iff, beq_eq_false_iff_ne, ne_eq] at h3q7); simp [kstB, h2q7, h3q7]))
  k_with "calls" => (cell_ask (c_text_in _ _ _ _ _ (by assumption) (by assumption)))
  k_with "calls" => (cell_ask (c_strict_text _ _ _ _ _ (by assumption) (by assumption) (by assumption)))
  k_with "x18" => ((k_here; k_dflt (refine item_text (by first | assumption | omega) (by first | assumption | omega) (by first | assumption | omega) ?_)))
  k_with "x19" => ((k_here; k_dflt (refine len_text (by first | assumption | omega) ?_)))
  k_with "x20" => ((k_here; k_dflt (refine ord_one (by first | assumption | omega) ?_)))
  k_with "calls" => (cell_ask (c_has_sign_true _ _ _ _ _ (by assumption) (by assumption)))
  k_with "x22" => ((intro zq7 h1q7 h2q7 h3q7; (simp only [List.forall_mem_cons, List.not_mem_nil, false_implies, implies_true, and_true, ne_eq] at h2q7); (simp only [List.contains_cons, List.contains_nil, Bool.or_false, Bool.or_eq_false_iff, beq_eq_false_iff_ne, ne_eq] at h3q7); simp [kstB, h1q7, h2q7, h3q7]))
  k_with "calls" => (cell_ask (c_octets_in0 _ _ _ _ _ (by assumption) (by first | assumption | omega) (by assumption)))
  k_with "calls" => (cell_ask (c_best_charset _ _ _ (by first | assumption | omega) (by assumption)))
  k_with "x50" => ((k_dflt ((show ¬ @Eq Nat _ _); intro e9q7; (repeat (rename And _ _ => c9q7; obtain ⟨_, _⟩ := c9q7)); first | exact absurd e9q7 (by assumption) | exact absurd e9q7.symm (by assumption) | exact absurd e9q7 (Nat.ne_of_lt (by assumption)) | exact absurd e9q7.symm (Nat.ne_of_lt (by assumption)) | omega)))
  k_with "x51" => ((refine neN ?_; (try dsimp only); intro e9q7; (rename And _ _ => c9q7); first | exact absurd e9q7 c9q7.1 | exact absurd e9q7 c9q7.2.1 | exact absurd e9q7 c9q7.2.2.1 | exact absurd e9q7 c9q7.2.2.2.1 | exact absurd e9q7 c9q7.2.2.2.2.1 | exact absurd e9q7 c9q7.2.2.2.2.2.1 | exact absurd e9q7 c9q7.2.2.2.2.2.2.1 | exact absurd e9q7 c9q7.2.2.2.2.2.2.2.1 | exact absurd e9q7 c9q7.2.2.2.2.2.2.2.2.1 | exact absurd e9q7 c9q7.2 | exact absurd e9q7 c9q7.2.2 | exact absurd e9q7 c9q7.2.2.2 | exact absurd e9q7 c9q7.2.2.2.2 | exact absurd e9q7 c9q7.2.2.2.2.2 | exact absurd e9q7 c9q7.2.2.2.2.2.2 | exact absurd e9q7 c9q7.2.2.2.2.2.2.2 | exact absurd e9q7 c9q7.2.2.2.2.2.2.2.2 | exact absurd e9q7 c9q7.2.2.2.2.2.2.2.2.2 | exact absurd e9q7.symm c9q7.1 | exact absurd e9q7.symm c9q7.2.1 | exact absurd e9q7.symm c9q7.2.2.1 | exact absurd e9q7.symm c9q7.2.2.2.1 | exact absurd e9q7.symm c9q7.2.2.2.2.1 | exact absurd e9q7.symm c9q7.2.2.2.2.2.1 | exact absurd e9q7.symm c9q7.2.2.2.2.2.2.1 | exact absurd e9q7.symm c9q7.2.2.2.2.2.2.2.1 | exact absurd e9q7.symm c9q7.2.2.2.2.2.2.2.2.1 | exact absurd e9q7.symm c9q7.2 | exact absurd e9q7.symm c9q7.2.2 | exact absurd e9q7.symm c9q7.2.2.2 | exact absurd e9q7.symm c9q7.2.2.2.2 | exact absurd e9q7.symm c9q7.2.2.2.2.2 | exact absurd e9q7.symm c9q7.2.2.2.2.2.2 | exact absurd e9q7.symm c9q7.2.2.2.2.2.2.2 | exact absurd e9q7.symm c9q7.2.2.2.2.2.2.2.2 | exact absurd e9q7.symm c9q7.2.2.2.2.2.2.2.2.2 | exact absurd e9q7 (Nat.ne_of_lt c9q7.1) | exact absurd e9q7 (Nat.ne_of_lt c9q7.2.1) | exact absurd e9q7 (Nat.ne_of_lt c9q7.2.2.1) | exact absurd e9q7 (Nat.ne_of_lt c9q7.2.2.2.1) | exact absurd e9q7 (Nat.ne_of_lt c9q7.2.2.2.2.1) | exact absurd e9q7 (Nat.ne_of_lt c9q7.2.2.2.2.2.1) | exact absurd e9q7 (Nat.ne_of_lt c9q7.2.2.2.2.2.2.1) | exact absurd e9q7 (Nat.ne_of_lt c9q7.2.2.2.2.2.2.2.1) | exact absurd e9q7 (Nat.ne_of_lt c9q7.2.2.2.2.2.2.2.2.1) | exact absurd e9q7 (Nat.ne_of_lt c9q7.2) | exact absurd e9q7 (Nat.ne_of_lt c9q7.2.2) | exact absurd e9q7 (Nat.ne_of_lt c9q7.2.2.2) | exact absurd e9q7 (Nat.ne_of_lt c9q7.2.2.2.2) | exact absurd e9q7 (Nat.ne_of_lt c9q7.2.2.2.2.2) | exact absurd e9q7 (Nat.ne_of_lt c9q7.2.2.2.2.2.2) | exact absurd e9q7 (Nat.ne_of_lt c9q7.2.2.2.2.2.2.2) | exact absurd e9q7 (Nat.ne_of_lt c9q7.2.2.2.2.2.2.2.2) | exact absurd e9q7 (Nat.ne_of_lt c9q7.2.2.2.2.2.2.2.2.2) | exact absurd e9q7.symm (Nat.ne_of_lt c9q7.1) | exact absurd e9q7.symm (Nat.ne_of_lt c9q7.2.1) | exact absurd e9q7.symm (Nat.ne_of_lt c9q7.2.2.1) | exact absurd e9q7.symm (Nat.ne_of_lt c9q7.2.2.2.1) | exact absurd e9q7.symm (Nat.ne_of_lt c9q7.2.2.2.2.1) | exact absurd e9q7.symm (Nat.ne_of_lt c9q7.2.2.2.2.2.1) | exact absurd e9q7.symm (Nat.ne_of_lt c9q7.2.2.2.2.2.2.1) | exact absurd e9q7.symm (Nat.ne_of_lt c9q7.2.2.2.2.2.2.2.1) | exact absurd e9q7.symm (Nat.ne_of_lt c9q7.2.2.2.2.2.2.2.2.1) | exact absurd e9q7.symm (Nat.ne_of_lt c9q7.2) | exact absurd e9q7.symm (Nat.ne_of_lt c9q7.2.2) | exact absurd e9q7.symm (Nat.ne_of_lt c9q7.2.2.2) | exact absurd e9q7.symm (Nat.ne_of_lt c9q7.2.2.2.2) | exact absurd e9q7.symm (Nat.ne_of_lt c9q7.2.2.2.2.2) | exact absurd e9q7.symm (Nat.ne_of_lt c9q7.2.2.2.2.2.2) | exact absurd e9q7.symm (Nat.ne_of_lt c9q7.2.2.2.2.2.2.2) | exact absurd e9q7.symm (Nat.ne_of_lt c9q7.2.2.2.2.2.2.2.2) | exact absurd e9q7.symm (Nat.ne_of_lt c9q7.2.2.2.2.2.2.2.2.2) | (clear c9q7; (rename And _ _ => c8q7); first | exact absurd e9q7 c8q7.1 | exact absurd e9q7 c8q7.2.1 | exact absurd e9q7 c8q7.2.2.1 | exact absurd e9q7 c8q7.2.2.2.1 | exact absurd e9q7 c8q7.2.2.2.2.1 | exact absurd e9q7 c8q7.2.2.2.2.2.1 | exact absurd e9q7 c8q7.2.2.2.2.2.2.1 | exact absurd e9q7 c8q7.2.2.2.2.2.2.2.1 | exact absurd e9q7 c8q7.2.2.2.2.2.2.2.2.1 | exact absurd e9q7 c8q7.2 | exact absurd e9q7 c8q7.2.2 | exact absurd e9q7 c8q7.2.2.2 | exact absurd e9q7 c8q7.2.2.2.2 | exact absurd e9q7 c8q7.2.2.2.2.2 | exact absurd e9q7 c8q7.2.2.2.2.2.2 | exact absurd e9q7 c8q7.2.2.2.2.2.2.2 | exact absurd e9q7 c8q7.2.2.2.2.2.2.2.2 | exact absurd e9q7 c8q7.2.2.2.2.2.2.2.2.2 | exact absurd e9q7.symm c8q7.1 | exact absurd e9q7.symm c8q7.2.1 | exact absurd e9q7.symm c8q7.2.2.1 | exact absurd e9q7.symm c8q7.2.2.2.1 | exact absurd e9q7.symm c8q7.2.2.2.2.1 | exact absurd e9q7.symm c8q7.2.2.2.2.2.1 | exact absurd e9q7.symm c8q7.2.2.2.2.2.2.1 | exact absurd e9q7.symm c8q7.2.2.2.2.2.2.2.1 | exact absurd e9q7.symm c8q7.2.2.2.2.2.2.2.2.1 | exact absurd e9q7.symm c8q7.2 | exact absurd e9q7.symm c8q7.2.2 | exact absurd e9q7.symm c8q7.2.2.2 | exact absurd e9q7.symm c8q7.2.2.2.2 | exact absurd e9q7.symm c8q7.2.2.2.2.2 | exact absurd e9q7.symm c8q7.2.2.2.2.2.2 | exact absurd e9q7.symm c8q7.2.2.2.2.2.2.2 | exact absurd e9q7.symm c8q7.2.2.2.2.2.2.2.2 | exact absurd e9q7.symm c8q7.2.2.2.2.2.2.2.2.2 | exact absurd e9q7 (Nat.ne_of_lt c8q7.1) | exact absurd e9q7 (Nat.ne_of_lt c8q7.2.1) | exact absurd e9q7 (Nat.ne_of_lt c8q7.2.2.1) | exact absurd e9q7 (Nat.ne_of_lt c8q7.2.2.2.1) | exact absurd e9q7 (Nat.ne_of_lt c8q7.2.2.2.2.1) | exact absurd e9q7 (Nat.ne_of_lt c8q7.2.2.2.2.2.1) | exact absurd e9q7 (Nat.ne_of_lt c8q7.2.2.2.2.2.2.1) | exact absurd e9q7 (Nat.ne_of_lt c8q7.2.2.2.2.2.2.2.1) | exact absurd e9q7 (Nat.ne_of_lt c8q7.2.2.2.2.2.2.2.2.1) | exact absurd e9q7 (Nat.ne_of_lt c8q7.2) | exact absurd e9q7 (Nat.ne_of_lt c8q7.2.2) | exact absurd e9q7 (Nat.ne_of_lt c8q7.2.2.2) | exact absurd e9q7 (Nat.ne_of_lt c8q7.2.2.2.2) | exact absurd e9q7 (Nat.ne_of_lt c8q7.2.2.2.2.2) | exact absurd e9q7 (Nat.ne_of_lt c8q7.2.2.2.2.2.2) | exact absurd e9q7 (Nat.ne_of_lt c8q7.2.2.2.2.2.2.2) | exact absurd e9q7 (Nat.ne_of_lt c8q7.2.2.2.2.2.2.2.2) | exact absurd e9q7 (Nat.ne_of_lt c8q7.2.2.2.2.2.2.2.2.2) | exact absurd e9q7.symm (Nat.ne_of_lt c8q7.1) | exact absurd e9q7.symm (Nat.ne_of_lt c8q7.2.1) | exact absurd e9q7.symm (Nat.ne_of_lt c8q7.2.2.1) | exact absurd e9q7.symm (Nat.ne_of_lt c8q7.2.2.2.1) | exact absurd e9q7.symm (Nat.ne_of_lt c8q7.2.2.2.2.1) | exact absurd e9q7.symm (Nat.ne_of_lt c8q7.2.2.2.2.2.1) | exact absurd e9q7.symm (Nat.ne_of_lt c8q7.2.2.2.2.2.2.1) | exact absurd e9q7.symm (Nat.ne_of_lt c8q7.2.2.2.2.2.2.2.1) | exact absurd e9q7.symm (Nat.ne_of_lt c8q7.2.2.2.2.2.2.2.2.1) | exact absurd e9q7.symm (Nat.ne_of_lt c8q7.2) | exact absurd e9q7.symm (Nat.ne_of_lt c8q7.2.2) | exact absurd e9q7.symm (Nat.ne_of_lt c8q7.2.2.2) | exact absurd e9q7.symm (Nat.ne_of_lt c8q7.2.2.2.2) | exact absurd e9q7.symm (Nat.ne_of_lt c8q7.2.2.2.2.2) | exact absurd e9q7.symm (Nat.ne_of_lt c8q7.2.2.2.2.2.2) | exact absurd e9q7.symm (Nat.ne_of_lt c8q7.2.2.2.2.2.2.2) | exact absurd e9q7.symm (Nat.ne_of_lt c8q7.2.2.2.2.2.2.2.2) | exact absurd e9q7.symm (Nat.ne_of_lt c8q7.2.2.2.2.2.2.2.2.2))))
  k_with "x52" => (((repeat (rename And _ _ => c9q7; clear c9q7)); omega))
  k_with "x53" => ((k_here; (with_reducible show wpAny _ _ (eval (Expr.ListComp _ [PySem.Comprehension.mk _ _ [] _] _ _) _) _ _ _); k_dflt (refine lcU (by k_asm) (by with_unfolding_all rfl) (by decide) (by rfl) (by decide) (by rfl) ?_)))
  k_with "x54" => ((k_here; (with_reducible show wpAny _ _ (eval (Expr.ListComp _ [PySem.Comprehension.mk _ _ [_] _] _ _) _) _ _ _); k_dflt (refine lcT (by k_asm) (by with_unfolding_all rfl) (by decide) (by rfl) (by decide) (by rfl) ?_)))
  k_with "x55" => ((k_here; k_dflt (refine lcAU (by k_asm) (by rfl) (by with_unfolding_all rfl) (by with_unfolding_all rfl) (by decide) (by rfl) (by decide) (by rfl) (by rfl) (by rfl) ?_)))
  k_with "x56" => ((k_here; (with_reducible show wpAny _ _ (call (Value.ref 147) _) _ _ _); k_dflt (refine' pd_use (c_draw _ _ _ ?h1x56 ?h2x56) ?k1x56 ?k2x56 ?k3x56 ?k4x56 ?kKx56 ?k5x56 ?kdx56 ?kux56 ?m1x56 ?m2x56 ?pqx56 ?hIx56 ?hlx56 ?hxx56 ?hx2x56 ?hyx56 ?_; (case k1x56 => k_asm); (case k2x56 => k_asm); (case k3x56 => k_asm); (case k4x56 => k_asm); (case kKx56 => first | exact rfl | assumption); (case k5x56 => k_asm); (case kdx56 => ktr_room); (case kux56 => ktr_units); (case m1x56 => k_mem); (case m2x56 => k_mem); (case pqx56 => first | assumption | walk_at "a ne"); (case hIx56 => assumption); (case hlx56 => first | assumption | walk_at "a om"); (case hxx56 => first | assumption | walk_at "a om"); (case hx2x56 => first | assumption | walk_at "a om"); (case hyx56 => first | assumption | walk_at "a om"); (case h1x56 => walk_at "a om"); (case h2x56 => walk_at "a om")); (rintro r9q7 v9q7 x9q7 tx9q7 y9q7 ty9q7 h9q7 tk9q7 F9q7 N9q7 r1q7 r2q7 x1q7 x2q7 y1q7 ⟨t9q7, e9q7⟩); (subst e9q7); (simp only [List.map_cons, List.map_nil] at N9q7); (repeat (first | rw [if_pos trivial] at N9q7 | rw [if_pos rfl] at N9q7 | rw [if_neg (by walk_at "a ne")] at N9q7)); (try dsimp only)))
  k_with "x57" => ((k_here; (with_reducible show wpAny _ _ (call (Value.ref 154) _) _ _ _); k_dflt (k_extra "my pick")))
  k_with "x58" => ((k_here; (with_reducible refine gm_bjoin ?_)))
  k_with "x59" => ((k_here; k_dflt (refine ne_same (by with_unfolding_all rfl) ?_)))
  k_with "x60" => ((k_here; k_dflt (refine ne_same_b (by with_unfolding_all rfl) ?_)))
  k_with "x61" => (((show GoodW _ _ _ _ _ (.ok (.ret (.bool true))) _); (refine goodW_bool (by assumption) (by assumption) (raisesW_false ?nnx61) ?ppx61); (case nnx61 => wrow_none_raised); (case ppx61 => with_unfolding_all rfl)))
  k_with "x62" => ((intro i9q7 u9q7 I9q7 oI9q7 C9q7 oC9q7 D9q7 m9q7 ys9q7 h9q7 tk9q7 E9q7 hi9q7 hC9q7 hx9q7 F9q7 N9q7 off9q7 ne9q7; (have off9pq7 := off9q7); (simp only [LCg.Off3, and_true] at off9pq7); (try k_fold)))
  k_with "x63" => ((rename News _ _ _ _ => nEq7; exact LCg.CompEnd.intro (by assumption) nEq7 _ (by lcg_sub) (by assumption) (by first | trivial | k_mem) ⟨rfl, _, rfl⟩))
  k_with "my join" =>
    (refine join_ones (News.isList (by k_asm) (by k_mem)) hysA0 (le_2000 hpl0) ?_)
    (intro t9 k9)
    (try dsimp only)
  k_with "my call" =>
    (cell_ask (c_octets_in0 _ (Str.ofString "us-ascii") ps0 _ _ isX0 (lt_100 hpl0) hpB0))
  k_steps
  rename News _ _ _ _ => lN
  rename Fr _ _ _ _ => lF
  replace lN := news_erase 0 lN
  simp only [List.eraseIdx_cons_succ, List.eraseIdx_cons_zero] at lN
  refine map_text (fun i v => ∃ u, v = .int (ps0.getD i 0) u) lF lN rfl (lt_1000 hpl0) ?_ ?_
  case refine_1 =>
    clear lN lF
    k_with_none
    k_with "x1" => ((refine wpAny_call ?_; first   | (refine' code_defG (news := []) ?k1x1 ?k2x1 ?k3x1 News.nil ?k5x1 ?kAx1 ?kFx1 ?kKx1 ?k6x1 ?k7x1 ?k8x1 ?k9x1 ?kBx1 ?_ ?c2x1 ?c3x1 ?c4x1 ?c5x1; (case kAx1 => exact rfl); (case kFx1 => exact rfl); (case kKx1 => assumption); (case k1x1 => k_asm); (case k2x1 => k_asm); (case k3x1 => k_asm); (case k5x1 => k_asm); (case k6x1 => k_is); (case k7x1 => k_is); (case k8x1 => ktr_room); (case k9x1 => exact BindsTo.of_eq rfl); (case c5x1 => decide); (case kBx1 => exact locs rfl); (case c2x1 => exact rfl); (case c3x1 => exact rfl); (case c4x1 => exact rfl); k_whole; intro gpq7 Lpq7 hpq7 FGpq7 Fpq7 Npq7 Bpq7 Xpq7 Tpq7 kGpq7; (try dsimp only); (try k_fold))   | (refine' code_defGC (news := []) ?k1x1 ?k2x1 ?k3x1 News.nil ?k5x1 ?kAx1 ?kFx1 ?kKx1 ?k6x1 ?k7x1 ?k8x1 ?k9x1 ?kBx1 ?kDx1 ?_ ?c2x1 ?c3x1 ?c4x1; (case kAx1 => exact rfl); (case kFx1 => exact rfl); (case kKx1 => assumption); (case k1x1 => k_asm); (case k2x1 => k_asm); (case k3x1 => k_asm); (case k5x1 => k_asm); (case k6x1 => k_is); (case k7x1 => k_is); (case k8x1 => ktr_room); (case k9x1 => exact BindsTo.of_eq rfl); (case kBx1 => exact rfl); (case kDx1 => decide +kernel); (case c2x1 => exact rfl); (case c3x1 => exact rfl); (case c4x1 => exact rfl); k_whole; intro gpq7 Lpq7 hpq7 tkpq7 cellspq7 FGpq7 Fpq7 Npq7 Ypq7 Bpq7 Xpq7 Tpq7 l1q7 kGpq7; clear l1q7; k_cells Ypq7; (try simp only [List.cons_append, List.nil_append] at Npq7); (try dsimp only); (try k_fold))))
    k_with "calls" => (cell_ask (c_need_charset _ _ _ (by assumption)))
    k_with "calls" => (cell_ask (c_has_sign _ _ _ _ _ (by assumption)))
    k_with "calls" => (cell_ask (c_utf8_octets _ _ _ (by assumption)))
    k_with "calls" => (cell_ask (c_utf8_sign _ _ _ _ _ (by first | assumption | omega) (by first | assumption | omega) (by first | assumption | omega)))
    k_with "calls" => (cell_ask (c_sign_at' _ _ _ _ _ _ _ (by assumption) (by first | assumption | omega) (by first | assumption | omega) (by first | assumption | omega)))
    k_with "x15" => ((intro zq7 h2q7 h3q7; (simp only [List.forall_mem_cons, List.not_mem_nil, false_implies, implies_true, and_true, ne_eq] at h2q7); (simp only [List.contains_cons, List.contains_nil, Bool.or_false, Bool.or_eq_false_iff, beq_eq_false_iff_ne, ne_eq] at h3q7); simp [kstB, h2q7, h3q7]))
    k_with "calls" => (cell_ask (c_text_in _ _ _ _ _ (by assumption) (by assumption)))
    k_with "calls" => (cell_ask (c_strict_text _ _ _ _ _ (by assumption) (by assumption) (by assumption)))
    k_with "x18" => ((k_here; k_dflt (refine item_text (by first | assumption | omega) (by first | assumption | omega) (by first | assumption | omega) ?_)))
    k_with "x19" => ((k_here; k_dflt (refine len_text (by first | assumption | omega) ?_)))
    k_with "x20" => ((k_here; k_dflt (refine ord_one (by first | assumption | omega) ?_)))
    k_with "calls" => (cell_ask (c_has_sign_true _ _ _ _ _ (by assumption) (by assumption)))
    k_with "x22" => ((intro zq7 h1q7 h2q7 h3q7; (simp only [List.forall_mem_cons, List.not_mem_nil, false_implies, implies_true, and_true, ne_eq] at h2q7); (simp only [List.contains_cons, List.contains_nil, Bool.or_false, Bool.or_eq_false_iff, beq_eq_false_iff_ne, ne_eq] at h3q7); simp [kstB, h1q7, h2q7, h3q7]))
    k_with "calls" => (cell_ask (c_octets_in0 _ _ _ _ _ (by assumption) (by first | assumption | omega) (by assumption)))
    k_with "calls" => (cell_ask (c_best_charset _ _ _ (by first | assumption | omega) (by assumption)))
    k_with "x50" => ((k_dflt ((show ¬ @Eq Nat _ _); intro e9q7; (repeat (rename And _ _ => c9q7; obtain ⟨_, _⟩ := c9q7)); first | exact absurd e9q7 (by assumption) | exact absurd e9q7.symm (by assumption) | exact absurd e9q7 (Nat.ne_of_lt (by assumption)) | exact absurd e9q7.symm (Nat.ne_of_lt (by assumption)) | omega)))
    k_with "x51" => ((refine neN ?_; (try dsimp only); intro e9q7; (rename And _ _ => c9q7); first | exact absurd e9q7 c9q7.1 | exact absurd e9q7 c9q7.2.1 | exact absurd e9q7 c9q7.2.2.1 | exact absurd e9q7 c9q7.2.2.2.1 | exact absurd e9q7 c9q7.2.2.2.2.1 | exact absurd e9q7 c9q7.2.2.2.2.2.1 | exact absurd e9q7 c9q7.2.2.2.2.2.2.1 | exact absurd e9q7 c9q7.2.2.2.2.2.2.2.1 | exact absurd e9q7 c9q7.2.2.2.2.2.2.2.2.1 | exact absurd e9q7 c9q7.2 | exact absurd e9q7 c9q7.2.2 | exact absurd e9q7 c9q7.2.2.2 | exact absurd e9q7 c9q7.2.2.2.2 | exact absurd e9q7 c9q7.2.2.2.2.2 | exact absurd e9q7 c9q7.2.2.2.2.2.2 | exact absurd e9q7 c9q7.2.2.2.2.2.2.2 | exact absurd e9q7 c9q7.2.2.2.2.2.2.2.2 | exact absurd e9q7 c9q7.2.2.2.2.2.2.2.2.2 | exact absurd e9q7.symm c9q7.1 | exact absurd e9q7.symm c9q7.2.1 | exact absurd e9q7.symm c9q7.2.2.1 | exact absurd e9q7.symm c9q7.2.2.2.1 | exact absurd e9q7.symm c9q7.2.2.2.2.1 | exact absurd e9q7.symm c9q7.2.2.2.2.2.1 | exact absurd e9q7.symm c9q7.2.2.2.2.2.2.1 | exact absurd e9q7.symm c9q7.2.2.2.2.2.2.2.1 | exact absurd e9q7.symm c9q7.2.2.2.2.2.2.2.2.1 | exact absurd e9q7.symm c9q7.2 | exact absurd e9q7.symm c9q7.2.2 | exact absurd e9q7.symm c9q7.2.2.2 | exact absurd e9q7.symm c9q7.2.2.2.2 | exact absurd e9q7.symm c9q7.2.2.2.2.2 | exact absurd e9q7.symm c9q7.2.2.2.2.2.2 | exact absurd e9q7.symm c9q7.2.2.2.2.2.2.2 | exact absurd e9q7.symm c9q7.2.2.2.2.2.2.2.2 | exact absurd e9q7.symm c9q7.2.2.2.2.2.2.2.2.2 | exact absurd e9q7 (Nat.ne_of_lt c9q7.1) | exact absurd e9q7 (Nat.ne_of_lt c9q7.2.1) | exact absurd e9q7 (Nat.ne_of_lt c9q7.2.2.1) | exact absurd e9q7 (Nat.ne_of_lt c9q7.2.2.2.1) | exact absurd e9q7 (Nat.ne_of_lt c9q7.2.2.2.2.1) | exact absurd e9q7 (Nat.ne_of_lt c9q7.2.2.2.2.2.1) | exact absurd e9q7 (Nat.ne_of_lt c9q7.2.2.2.2.2.2.1) | exact absurd e9q7 (Nat.ne_of_lt c9q7.2.2.2.2.2.2.2.1) | exact absurd e9q7 (Nat.ne_of_lt c9q7.2.2.2.2.2.2.2.2.1) | exact absurd e9q7 (Nat.ne_of_lt c9q7.2) | exact absurd e9q7 (Nat.ne_of_lt c9q7.2.2) | exact absurd e9q7 (Nat.ne_of_lt c9q7.2.2.2) | exact absurd e9q7 (Nat.ne_of_lt c9q7.2.2.2.2) | exact absurd e9q7 (Nat.ne_of_lt c9q7.2.2.2.2.2) | exact absurd e9q7 (Nat.ne_of_lt c9q7.2.2.2.2.2.2) | exact absurd e9q7 (Nat.ne_of_lt c9q7.2.2.2.2.2.2.2) | exact absurd e9q7 (Nat.ne_of_lt c9q7.2.2.2.2.2.2.2.2) | exact absurd e9q7 (Nat.ne_of_lt c9q7.2.2.2.2.2.2.2.2.2) | exact absurd e9q7.symm (Nat.ne_of_lt c9q7.1) | exact absurd e9q7.symm (Nat.ne_of_lt c9q7.2.1) | exact absurd e9q7.symm (Nat.ne_of_lt c9q7.2.2.1) | exact absurd e9q7.symm (Nat.ne_of_lt c9q7.2.2.2.1) | exact absurd e9q7.symm (Nat.ne_of_lt c9q7.2.2.2.2.1) | exact absurd e9q7.symm (Nat.ne_of_lt c9q7.2.2.2.2.2.1) | exact absurd e9q7.symm (Nat.ne_of_lt c9q7.2.2.2.2.2.2.1) | exact absurd e9q7.symm (Nat.ne_of_lt c9q7.2.2.2.2.2.2.2.1) | exact absurd e9q7.symm (Nat.ne_of_lt c9q7.2.2.2.2.2.2.2.2.1) | exact absurd e9q7.symm (Nat.ne_of_lt c9q7.2) | exact absurd e9q7.symm (Nat.ne_of_lt c9q7.2.2) | exact absurd e9q7.symm (Nat.ne_of_lt c9q7.2.2.2) | exact absurd e9q7.symm (Nat.ne_of_lt c9q7.2.2.2.2) | exact absurd e9q7.symm (Nat.ne_of_lt c9q7.2.2.2.2.2) | exact absurd e9q7.symm (Nat.ne_of_lt c9q7.2.2.2.2.2.2) | exact absurd e9q7.symm (Nat.ne_of_lt c9q7.2.2.2.2.2.2.2) | exact absurd e9q7.symm (Nat.ne_of_lt c9q7.2.2.2.2.2.2.2.2) | exact absurd e9q7.symm (Nat.ne_of_lt c9q7.2.2.2.2.2.2.2.2.2) | (clear c9q7; (rename And _ _ => c8q7); first | exact absurd e9q7 c8q7.1 | exact absurd e9q7 c8q7.2.1 | exact absurd e9q7 c8q7.2.2.1 | exact absurd e9q7 c8q7.2.2.2.1 | exact absurd e9q7 c8q7.2.2.2.2.1 | exact absurd e9q7 c8q7.2.2.2.2.2.1 | exact absurd e9q7 c8q7.2.2.2.2.2.2.1 | exact absurd e9q7 c8q7.2.2.2.2.2.2.2.1 | exact absurd e9q7 c8q7.2.2.2.2.2.2.2.2.1 | exact absurd e9q7 c8q7.2 | exact absurd e9q7 c8q7.2.2 | exact absurd e9q7 c8q7.2.2.2 | exact absurd e9q7 c8q7.2.2.2.2 | exact absurd e9q7 c8q7.2.2.2.2.2 | exact absurd e9q7 c8q7.2.2.2.2.2.2 | exact absurd e9q7 c8q7.2.2.2.2.2.2.2 | exact absurd e9q7 c8q7.2.2.2.2.2.2.2.2 | exact absurd e9q7 c8q7.2.2.2.2.2.2.2.2.2 | exact absurd e9q7.symm c8q7.1 | exact absurd e9q7.symm c8q7.2.1 | exact absurd e9q7.symm c8q7.2.2.1 | exact absurd e9q7.symm c8q7.2.2.2.1 | exact absurd e9q7.symm c8q7.2.2.2.2.1 | exact absurd e9q7.symm c8q7.2.2.2.2.2.1 | exact absurd e9q7.symm c8q7.2.2.2.2.2.2.1 | exact absurd e9q7.symm c8q7.2.2.2.2.2.2.2.1 | exact absurd e9q7.symm c8q7.2.2.2.2.2.2.2.2.1 | exact absurd e9q7.symm c8q7.2 | exact absurd e9q7.symm c8q7.2.2 | exact absurd e9q7.symm c8q7.2.2.2 | exact absurd e9q7.symm c8q7.2.2.2.2 | exact absurd e9q7.symm c8q7.2.2.2.2.2 | exact absurd e9q7.symm c8q7.2.2.2.2.2.2 | exact absurd e9q7.symm c8q7.2.2.2.2.2.2.2 | exact absurd e9q7.symm c8q7.2.2.2.2.2.2.2.2 | exact absurd e9q7.symm c8q7.2.2.2.2.2.2.2.2.2 | exact absurd e9q7 (Nat.ne_of_lt c8q7.1) | exact absurd e9q7 (Nat.ne_of_lt c8q7.2.1) | exact absurd e9q7 (Nat.ne_of_lt c8q7.2.2.1) | exact absurd e9q7 (Nat.ne_of_lt c8q7.2.2.2.1) | exact absurd e9q7 (Nat.ne_of_lt c8q7.2.2.2.2.1) | exact absurd e9q7 (Nat.ne_of_lt c8q7.2.2.2.2.2.1) | exact absurd e9q7 (Nat.ne_of_lt c8q7.2.2.2.2.2.2.1) | exact absurd e9q7 (Nat.ne_of_lt c8q7.2.2.2.2.2.2.2.1) | exact absurd e9q7 (Nat.ne_of_lt c8q7.2.2.2.2.2.2.2.2.1) | exact absurd e9q7 (Nat.ne_of_lt c8q7.2) | exact absurd e9q7 (Nat.ne_of_lt c8q7.2.2) | exact absurd e9q7 (Nat.ne_of_lt c8q7.2.2.2) | exact absurd e9q7 (Nat.ne_of_lt c8q7.2.2.2.2) | exact absurd e9q7 (Nat.ne_of_lt c8q7.2.2.2.2.2) | exact absurd e9q7 (Nat.ne_of_lt c8q7.2.2.2.2.2.2) | exact absurd e9q7 (Nat.ne_of_lt c8q7.2.2.2.2.2.2.2) | exact absurd e9q7 (Nat.ne_of_lt c8q7.2.2.2.2.2.2.2.2) | exact absurd e9q7 (Nat.ne_of_lt c8q7.2.2.2.2.2.2.2.2.2) | exact absurd e9q7.symm (Nat.ne_of_lt c8q7.1) | exact absurd e9q7.symm (Nat.ne_of_lt c8q7.2.1) | exact absurd e9q7.symm (Nat.ne_of_lt c8q7.2.2.1) | exact absurd e9q7.symm (Nat.ne_of_lt c8q7.2.2.2.1) | exact absurd e9q7.symm (Nat.ne_of_lt c8q7.2.2.2.2.1) | exact absurd e9q7.symm (Nat.ne_of_lt c8q7.2.2.2.2.2.1) | exact absurd e9q7.symm (Nat.ne_of_lt c8q7.2.2.2.2.2.2.1) | exact absurd e9q7.symm (Nat.ne_of_lt c8q7.2.2.2.2.2.2.2.1) | exact absurd e9q7.symm (Nat.ne_of_lt c8q7.2.2.2.2.2.2.2.2.1) | exact absurd e9q7.symm (Nat.ne_of_lt c8q7.2) | exact absurd e9q7.symm (Nat.ne_of_lt c8q7.2.2) | exact absurd e9q7.symm (Nat.ne_of_lt c8q7.2.2.2) | exact absurd e9q7.symm (Nat.ne_of_lt c8q7.2.2.2.2) | exact absurd e9q7.symm (Nat.ne_of_lt c8q7.2.2.2.2.2) | exact absurd e9q7.symm (Nat.ne_of_lt c8q7.2.2.2.2.2.2) | exact absurd e9q7.symm (Nat.ne_of_lt c8q7.2.2.2.2.2.2.2) | exact absurd e9q7.symm (Nat.ne_of_lt c8q7.2.2.2.2.2.2.2.2) | exact absurd e9q7.symm (Nat.ne_of_lt c8q7.2.2.2.2.2.2.2.2.2))))
    k_with "x52" => (((repeat (rename And _ _ => c9q7; clear c9q7)); omega))
    k_with "x53" => ((k_here; (with_reducible show wpAny _ _ (eval (Expr.ListComp _ [PySem.Comprehension.mk _ _ [] _] _ _) _) _ _ _); k_dflt (refine lcU (by k_asm) (by with_unfolding_all rfl) (by decide) (by rfl) (by decide) (by rfl) ?_)))
    k_with "x54" => ((k_here; (with_reducible show wpAny _ _ (eval (Expr.ListComp _ [PySem.Comprehension.mk _ _ [_] _] _ _) _) _ _ _); k_dflt (refine lcT (by k_asm) (by with_unfolding_all rfl) (by decide) (by rfl) (by decide) (by rfl) ?_)))
    k_with "x55" => ((k_here; k_dflt (refine lcAU (by k_asm) (by rfl) (by with_unfolding_all rfl) (by with_unfolding_all rfl) (by decide) (by rfl) (by decide) (by rfl) (by rfl) (by rfl) ?_)))
    k_with "x56" => ((k_here; (with_reducible show wpAny _ _ (call (Value.ref 147) _) _ _ _); k_dflt (refine' pd_use (c_draw _ _ _ ?h1x56 ?h2x56) ?k1x56 ?k2x56 ?k3x56 ?k4x56 ?kKx56 ?k5x56 ?kdx56 ?kux56 ?m1x56 ?m2x56 ?pqx56 ?hIx56 ?hlx56 ?hxx56 ?hx2x56 ?hyx56 ?_; (case k1x56 => k_asm); (case k2x56 => k_asm); (case k3x56 => k_asm); (case k4x56 => k_asm); (case kKx56 => first | exact rfl | assumption); (case k5x56 => k_asm); (case kdx56 => ktr_room); (case kux56 => ktr_units); (case m1x56 => k_mem); (case m2x56 => k_mem); (case pqx56 => first | assumption | walk_at "a ne"); (case hIx56 => assumption); (case hlx56 => first | assumption | walk_at "a om"); (case hxx56 => first | assumption | walk_at "a om"); (case hx2x56 => first | assumption | walk_at "a om"); (case hyx56 => first | assumption | walk_at "a om"); (case h1x56 => walk_at "a om"); (case h2x56 => walk_at "a om")); (rintro r9q7 v9q7 x9q7 tx9q7 y9q7 ty9q7 h9q7 tk9q7 F9q7 N9q7 r1q7 r2q7 x1q7 x2q7 y1q7 ⟨t9q7, e9q7⟩); (subst e9q7); (simp only [List.map_cons, List.map_nil] at N9q7); (repeat (first | rw [if_pos trivial] at N9q7 | rw [if_pos rfl] at N9q7 | rw [if_neg (by walk_at "a ne")] at N9q7)); (try dsimp only)))
    k_with "x57" => ((k_here; (with_reducible show wpAny _ _ (call (Value.ref 154) _) _ _ _); k_dflt (k_extra "my pick")))
    k_with "x58" => ((k_here; (with_reducible refine gm_bjoin ?_)))
    k_with "x59" => ((k_here; k_dflt (refine ne_same (by with_unfolding_all rfl) ?_)))
    k_with "x60" => ((k_here; k_dflt (refine ne_same_b (by with_unfolding_all rfl) ?_)))
    k_with "x61" => (((show GoodW _ _ _ _ _ (.ok (.ret (.bool true))) _); (refine goodW_bool (by assumption) (by assumption) (raisesW_false ?nnx61) ?ppx61); (case nnx61 => wrow_none_raised); (case ppx61 => with_unfolding_all rfl)))
    k_with "x62" => ((intro i9q7 u9q7 I9q7 oI9q7 C9q7 oC9q7 D9q7 m9q7 ys9q7 h9q7 tk9q7 E9q7 hi9q7 hC9q7 hx9q7 F9q7 N9q7 off9q7 ne9q7; (have off9pq7 := off9q7); (simp only [LCg.Off3, and_true] at off9pq7); (try k_fold)))
    k_with "x63" => ((rename News _ _ _ _ => nEq7; exact LCg.CompEnd.intro (by assumption) nEq7 _ (by lcg_sub) (by assumption) (by first | trivial | k_mem) ⟨rfl, _, rfl⟩))
    k_with "my cend" =>
      (walk_at "turn out")
    intro i9 u9 I9 oI9 C9 oC9 D9 m9 ys9 h9 tk9 E9 hi9 hC9 hx9 F9 N9 off9 ne9
    have off9' := off9
    simp only [LCg.Off3, and_true] at off9'
    obtain ⟨hc0, hc1⟩ := hpA0 _ (getD_mem hi9)
    try k_fold
    k_steps
  intro gB0 ysB0 hysB0
  replace hysB0 := hysB0.ints
  rw [range_getD _ _ fun c => c, List.map_id'] at hysB0
  clear lN lF
  k_with_none
  k_with "x1" => ((refine wpAny_call ?_; first   | (refine' code_defG (news := []) ?k1x1 ?k2x1 ?k3x1 News.nil ?k5x1 ?kAx1 ?kFx1 ?kKx1 ?k6x1 ?k7x1 ?k8x1 ?k9x1 ?kBx1 ?_ ?c2x1 ?c3x1 ?c4x1 ?c5x1; (case kAx1 => exact rfl); (case kFx1 => exact rfl); (case kKx1 => assumption); (case k1x1 => k_asm); (case k2x1 => k_asm); (case k3x1 => k_asm); (case k5x1 => k_asm); (case k6x1 => k_is); (case k7x1 => k_is); (case k8x1 => ktr_room); (case k9x1 => exact BindsTo.of_eq rfl); (case c5x1 => decide); (case kBx1 => exact locs rfl); (case c2x1 => exact rfl); (case c3x1 => exact rfl); (case c4x1 => exact rfl); k_whole; intro gpq7 Lpq7 hpq7 FGpq7 Fpq7 Npq7 Bpq7 Xpq7 Tpq7 kGpq7; (try dsimp only); (try k_fold))   | (refine' code_defGC (news := []) ?k1x1 ?k2x1 ?k3x1 News.nil ?k5x1 ?kAx1 ?kFx1 ?kKx1 ?k6x1 ?k7x1 ?k8x1 ?k9x1 ?kBx1 ?kDx1 ?_ ?c2x1 ?c3x1 ?c4x1; (case kAx1 => exact rfl); (case kFx1 => exact rfl); (case kKx1 => assumption); (case k1x1 => k_asm); (case k2x1 => k_asm); (case k3x1 => k_asm); (case k5x1 => k_asm); (case k6x1 => k_is); (case k7x1 => k_is); (case k8x1 => ktr_room); (case k9x1 => exact BindsTo.of_eq rfl); (case kBx1 => exact rfl); (case kDx1 => decide +kernel); (case c2x1 => exact rfl); (case c3x1 => exact rfl); (case c4x1 => exact rfl); k_whole; intro gpq7 Lpq7 hpq7 tkpq7 cellspq7 FGpq7 Fpq7 Npq7 Ypq7 Bpq7 Xpq7 Tpq7 l1q7 kGpq7; clear l1q7; k_cells Ypq7; (try simp only [List.cons_append, List.nil_append] at Npq7); (try dsimp only); (try k_fold))))
  k_with "calls" => (cell_ask (c_need_charset _ _ _ (by assumption)))
  k_with "calls" => (cell_ask (c_has_sign _ _ _ _ _ (by assumption)))
  k_with "calls" => (cell_ask (c_utf8_octets _ _ _ (by assumption)))
  k_with "calls" => (cell_ask (c_utf8_sign _ _ _ _ _ (by first | assumption | omega) (by first | assumption | omega) (by first | assumption | omega)))
  k_with "calls" => (cell_ask (c_sign_at' _ _ _ _ _ _ _ (by assumption) (by first | assumption | omega) (by first | assumption | omega) (by first | assumption | omega)))
  k_with "x15" => ((intro zq7 h2q7 h3q7; (simp only [List.forall_mem_cons, List.not_mem_nil, false_implies, implies_true, and_true, ne_eq] at h2q7); (simp only [List.contains_cons, List.contains_nil, Bool.or_false, Bool.or_eq_false_iff, beq_eq_false_iff_ne, ne_eq] at h3q7); simp [kstB, h2q7, h3q7]))
  k_with "calls" => (cell_ask (c_text_in _ _ _ _ _ (by assumption) (by assumption)))
  k_with "calls" => (cell_ask (c_strict_text _ _ _ _ _ (by assumption) (by assumption) (by assumption)))
  k_with "x18" => ((k_here; k_dflt (refine item_text (by first | assumption | omega) (by first | assumption | omega) (by first | assumption | omega) ?_)))
  k_with "x19" => ((k_here; k_dflt (refine len_text (by first | assumption | omega) ?_)))
  k_with "x20" => ((k_here; k_dflt (refine ord_one (by first | assumption | omega) ?_)))
  k_with "calls" => (cell_ask (c_has_sign_true _ _ _ _ _ (by assumption) (by assumption)))
  k_with "x22" => ((intro zq7 h1q7 h2q7 h3q7; (simp only [List.forall_mem_cons, List.not_mem_nil, false_implies, implies_true, and_true, ne_eq] at h2q7); (simp only [List.contains_cons, List.contains_nil, Bool.or_false, Bool.or_eq_false_iff, beq_eq_false_iff_ne, ne_eq] at h3q7); simp [kstB, h1q7, h2q7, h3q7]))
  k_with "calls" => (cell_ask (c_octets_in0 _ _ _ _ _ (by assumption) (by first | assumption | omega) (by assumption)))
  k_with "calls" => (cell_ask (c_best_charset _ _ _ (by first | assumption | omega) (by assumption)))
  k_with "x50" => ((k_dflt ((show ¬ @Eq Nat _ _); intro e9q7; (repeat (rename And _ _ => c9q7; obtain ⟨_, _⟩ := c9q7)); first | exact absurd e9q7 (by assumption) | exact absurd e9q7.symm (by assumption) | exact absurd e9q7 (Nat.ne_of_lt (by assumption)) | exact absurd e9q7.symm (Nat.ne_of_lt (by assumption)) | omega)))
  k_with "x51" => ((refine neN ?_; (try dsimp only); intro e9q7; (rename And _ _ => c9q7); first | exact absurd e9q7 c9q7.1 | exact absurd e9q7 c9q7.2.1 | exact absurd e9q7 c9q7.2.2.1 | exact absurd e9q7 c9q7.2.2.2.1 | exact absurd e9q7 c9q7.2.2.2.2.1 | exact absurd e9q7 c9q7.2.2.2.2.2.1 | exact absurd e9q7 c9q7.2.2.2.2.2.2.1 | exact absurd e9q7 c9q7.2.2.2.2.2.2.2.1 | exact absurd e9q7 c9q7.2.2.2.2.2.2.2.2.1 | exact absurd e9q7 c9q7.2 | exact absurd e9q7 c9q7.2.2 | exact absurd e9q7 c9q7.2.2.2 | exact absurd e9q7 c9q7.2.2.2.2 | exact absurd e9q7 c9q7.2.2.2.2.2 | exact absurd e9q7 c9q7.2.2.2.2.2.2 | exact absurd e9q7 c9q7.2.2.2.2.2.2.2 | exact absurd e9q7 c9q7.2.2.2.2.2.2.2.2 | exact absurd e9q7 c9q7.2.2.2.2.2.2.2.2.2 | exact absurd e9q7.symm c9q7.1 | exact absurd e9q7.symm c9q7.2.1 | exact absurd e9q7.symm c9q7.2.2.1 | exact absurd e9q7.symm c9q7.2.2.2.1 | exact absurd e9q7.symm c9q7.2.2.2.2.1 | exact absurd e9q7.symm c9q7.2.2.2.2.2.1 | exact absurd e9q7.symm c9q7.2.2.2.2.2.2.1 | exact absurd e9q7.symm c9q7.2.2.2.2.2.2.2.1 | exact absurd e9q7.symm c9q7.2.2.2.2.2.2.2.2.1 | exact absurd e9q7.symm c9q7.2 | exact absurd e9q7.symm c9q7.2.2 | exact absurd e9q7.symm c9q7.2.2.2 | exact absurd e9q7.symm c9q7.2.2.2.2 | exact absurd e9q7.symm c9q7.2.2.2.2.2 | exact absurd e9q7.symm c9q7.2.2.2.2.2.2 | exact absurd e9q7.symm c9q7.2.2.2.2.2.2.2 | exact absurd e9q7.symm c9q7.2.2.2.2.2.2.2.2 | exact absurd e9q7.symm c9q7.2.2.2.2.2.2.2.2.2 | exact absurd e9q7 (Nat.ne_of_lt c9q7.1) | exact absurd e9q7 (Nat.ne_of_lt c9q7.2.1) | exact absurd e9q7 (Nat.ne_of_lt c9q7.2.2.1) | exact absurd e9q7 (Nat.ne_of_lt c9q7.2.2.2.1) | exact absurd e9q7 (Nat.ne_of_lt c9q7.2.2.2.2.1) | exact absurd e9q7 (Nat.ne_of_lt c9q7.2.2.2.2.2.1) | exact absurd e9q7 (Nat.ne_of_lt c9q7.2.2.2.2.2.2.1) | exact absurd e9q7 (Nat.ne_of_lt c9q7.2.2.2.2.2.2.2.1) | exact absurd e9q7 (Nat.ne_of_lt c9q7.2.2.2.2.2.2.2.2.1) | exact absurd e9q7 (Nat.ne_of_lt c9q7.2) | exact absurd e9q7 (Nat.ne_of_lt c9q7.2.2) | exact absurd e9q7 (Nat.ne_of_lt c9q7.2.2.2) | exact absurd e9q7 (Nat.ne_of_lt c9q7.2.2.2.2) | exact absurd e9q7 (Nat.ne_of_lt c9q7.2.2.2.2.2) | exact absurd e9q7 (Nat.ne_of_lt c9q7.2.2.2.2.2.2) | exact absurd e9q7 (Nat.ne_of_lt c9q7.2.2.2.2.2.2.2) | exact absurd e9q7 (Nat.ne_of_lt c9q7.2.2.2.2.2.2.2.2) | exact absurd e9q7 (Nat.ne_of_lt c9q7.2.2.2.2.2.2.2.2.2) | exact absurd e9q7.symm (Nat.ne_of_lt c9q7.1) | exact absurd e9q7.symm (Nat.ne_of_lt c9q7.2.1) | exact absurd e9q7.symm (Nat.ne_of_lt c9q7.2.2.1) | exact absurd e9q7.symm (Nat.ne_of_lt c9q7.2.2.2.1) | exact absurd e9q7.symm (Nat.ne_of_lt c9q7.2.2.2.2.1) | exact absurd e9q7.symm (Nat.ne_of_lt c9q7.2.2.2.2.2.1) | exact absurd e9q7.symm (Nat.ne_of_lt c9q7.2.2.2.2.2.2.1) | exact absurd e9q7.symm (Nat.ne_of_lt c9q7.2.2.2.2.2.2.2.1) | exact absurd e9q7.symm (Nat.ne_of_lt c9q7.2.2.2.2.2.2.2.2.1) | exact absurd e9q7.symm (Nat.ne_of_lt c9q7.2) | exact absurd e9q7.symm (Nat.ne_of_lt c9q7.2.2) | exact absurd e9q7.symm (Nat.ne_of_lt c9q7.2.2.2) | exact absurd e9q7.symm (Nat.ne_of_lt c9q7.2.2.2.2) | exact absurd e9q7.symm (Nat.ne_of_lt c9q7.2.2.2.2.2) | exact absurd e9q7.symm (Nat.ne_of_lt c9q7.2.2.2.2.2.2) | exact absurd e9q7.symm (Nat.ne_of_lt c9q7.2.2.2.2.2.2.2) | exact absurd e9q7.symm (Nat.ne_of_lt c9q7.2.2.2.2.2.2.2.2) | exact absurd e9q7.symm (Nat.ne_of_lt c9q7.2.2.2.2.2.2.2.2.2) | (clear c9q7; (rename And _ _ => c8q7); first | exact absurd e9q7 c8q7.1 | exact absurd e9q7 c8q7.2.1 | exact absurd e9q7 c8q7.2.2.1 | exact absurd e9q7 c8q7.2.2.2.1 | exact absurd e9q7 c8q7.2.2.2.2.1 | exact absurd e9q7 c8q7.2.2.2.2.2.1 | exact absurd e9q7 c8q7.2.2.2.2.2.2.1 | exact absurd e9q7 c8q7.2.2.2.2.2.2.2.1 | exact absurd e9q7 c8q7.2.2.2.2.2.2.2.2.1 | exact absurd e9q7 c8q7.2 | exact absurd e9q7 c8q7.2.2 | exact absurd e9q7 c8q7.2.2.2 | exact absurd e9q7 c8q7.2.2.2.2 | exact absurd e9q7 c8q7.2.2.2.2.2 | exact absurd e9q7 c8q7.2.2.2.2.2.2 | exact absurd e9q7 c8q7.2.2.2.2.2.2.2 | exact absurd e9q7 c8q7.2.2.2.2.2.2.2.2 | exact absurd e9q7 c8q7.2.2.2.2.2.2.2.2.2 | exact absurd e9q7.symm c8q7.1 | exact absurd e9q7.symm c8q7.2.1 | exact absurd e9q7.symm c8q7.2.2.1 | exact absurd e9q7.symm c8q7.2.2.2.1 | exact absurd e9q7.symm c8q7.2.2.2.2.1 | exact absurd e9q7.symm c8q7.2.2.2.2.2.1 | exact absurd e9q7.symm c8q7.2.2.2.2.2.2.1 | exact absurd e9q7.symm c8q7.2.2.2.2.2.2.2.1 | exact absurd e9q7.symm c8q7.2.2.2.2.2.2.2.2.1 | exact absurd e9q7.symm c8q7.2 | exact absurd e9q7.symm c8q7.2.2 | exact absurd e9q7.symm c8q7.2.2.2 | exact absurd e9q7.symm c8q7.2.2.2.2 | exact absurd e9q7.symm c8q7.2.2.2.2.2 | exact absurd e9q7.symm c8q7.2.2.2.2.2.2 | exact absurd e9q7.symm c8q7.2.2.2.2.2.2.2 | exact absurd e9q7.symm c8q7.2.2.2.2.2.2.2.2 | exact absurd e9q7.symm c8q7.2.2.2.2.2.2.2.2.2 | exact absurd e9q7 (Nat.ne_of_lt c8q7.1) | exact absurd e9q7 (Nat.ne_of_lt c8q7.2.1) | exact absurd e9q7 (Nat.ne_of_lt c8q7.2.2.1) | exact absurd e9q7 (Nat.ne_of_lt c8q7.2.2.2.1) | exact absurd e9q7 (Nat.ne_of_lt c8q7.2.2.2.2.1) | exact absurd e9q7 (Nat.ne_of_lt c8q7.2.2.2.2.2.1) | exact absurd e9q7 (Nat.ne_of_lt c8q7.2.2.2.2.2.2.1) | exact absurd e9q7 (Nat.ne_of_lt c8q7.2.2.2.2.2.2.2.1) | exact absurd e9q7 (Nat.ne_of_lt c8q7.2.2.2.2.2.2.2.2.1) | exact absurd e9q7 (Nat.ne_of_lt c8q7.2) | exact absurd e9q7 (Nat.ne_of_lt c8q7.2.2) | exact absurd e9q7 (Nat.ne_of_lt c8q7.2.2.2) | exact absurd e9q7 (Nat.ne_of_lt c8q7.2.2.2.2) | exact absurd e9q7 (Nat.ne_of_lt c8q7.2.2.2.2.2) | exact absurd e9q7 (Nat.ne_of_lt c8q7.2.2.2.2.2.2) | exact absurd e9q7 (Nat.ne_of_lt c8q7.2.2.2.2.2.2.2) | exact absurd e9q7 (Nat.ne_of_lt c8q7.2.2.2.2.2.2.2.2) | exact absurd e9q7 (Nat.ne_of_lt c8q7.2.2.2.2.2.2.2.2.2) | exact absurd e9q7.symm (Nat.ne_of_lt c8q7.1) | exact absurd e9q7.symm (Nat.ne_of_lt c8q7.2.1) | exact absurd e9q7.symm (Nat.ne_of_lt c8q7.2.2.1) | exact absurd e9q7.symm (Nat.ne_of_lt c8q7.2.2.2.1) | exact absurd e9q7.symm (Nat.ne_of_lt c8q7.2.2.2.2.1) | exact absurd e9q7.symm (Nat.ne_of_lt c8q7.2.2.2.2.2.1) | exact absurd e9q7.symm (Nat.ne_of_lt c8q7.2.2.2.2.2.2.1) | exact absurd e9q7.symm (Nat.ne_of_lt c8q7.2.2.2.2.2.2.2.1) | exact absurd e9q7.symm (Nat.ne_of_lt c8q7.2.2.2.2.2.2.2.2.1) | exact absurd e9q7.symm (Nat.ne_of_lt c8q7.2) | exact absurd e9q7.symm (Nat.ne_of_lt c8q7.2.2) | exact absurd e9q7.symm (Nat.ne_of_lt c8q7.2.2.2) | exact absurd e9q7.symm (Nat.ne_of_lt c8q7.2.2.2.2) | exact absurd e9q7.symm (Nat.ne_of_lt c8q7.2.2.2.2.2) | exact absurd e9q7.symm (Nat.ne_of_lt c8q7.2.2.2.2.2.2) | exact absurd e9q7.symm (Nat.ne_of_lt c8q7.2.2.2.2.2.2.2) | exact absurd e9q7.symm (Nat.ne_of_lt c8q7.2.2.2.2.2.2.2.2) | exact absurd e9q7.symm (Nat.ne_of_lt c8q7.2.2.2.2.2.2.2.2.2))))
  k_with "x52" => (((repeat (rename And _ _ => c9q7; clear c9q7)); omega))
  k_with "x53" => ((k_here; (with_reducible show wpAny _ _ (eval (Expr.ListComp _ [PySem.Comprehension.mk _ _ [] _] _ _) _) _ _ _); k_dflt (refine lcU (by k_asm) (by with_unfolding_all rfl) (by decide) (by rfl) (by decide) (by rfl) ?_)))
  k_with "x54" => ((k_here; (with_reducible show wpAny _ _ (eval (Expr.ListComp _ [PySem.Comprehension.mk _ _ [_] _] _ _) _) _ _ _); k_dflt (refine lcT (by k_asm) (by with_unfolding_all rfl) (by decide) (by rfl) (by decide) (by rfl) ?_)))
  k_with "x55" => ((k_here; k_dflt (refine lcAU (by k_asm) (by rfl) (by with_unfolding_all rfl) (by with_unfolding_all rfl) (by decide) (by rfl) (by decide) (by rfl) (by rfl) (by rfl) ?_)))
  k_with "x56" => ((k_here; (with_reducible show wpAny _ _ (call (Value.ref 147) _) _ _ _); k_dflt (refine' pd_use (c_draw _ _ _ ?h1x56 ?h2x56) ?k1x56 ?k2x56 ?k3x56 ?k4x56 ?kKx56 ?k5x56 ?kdx56 ?kux56 ?m1x56 ?m2x56 ?pqx56 ?hIx56 ?hlx56 ?hxx56 ?hx2x56 ?hyx56 ?_; (case k1x56 => k_asm); (case k2x56 => k_asm); (case k3x56 => k_asm); (case k4x56 => k_asm); (case kKx56 => first | exact rfl | assumption); (case k5x56 => k_asm); (case kdx56 => ktr_room); (case kux56 => ktr_units); (case m1x56 => k_mem); (case m2x56 => k_mem); (case pqx56 => first | assumption | walk_at "a ne"); (case hIx56 => assumption); (case hlx56 => first | assumption | walk_at "a om"); (case hxx56 => first | assumption | walk_at "a om"); (case hx2x56 => first | assumption | walk_at "a om"); (case hyx56 => first | assumption | walk_at "a om"); (case h1x56 => walk_at "a om"); (case h2x56 => walk_at "a om")); (rintro r9q7 v9q7 x9q7 tx9q7 y9q7 ty9q7 h9q7 tk9q7 F9q7 N9q7 r1q7 r2q7 x1q7 x2q7 y1q7 ⟨t9q7, e9q7⟩); (subst e9q7); (simp only [List.map_cons, List.map_nil] at N9q7); (repeat (first | rw [if_pos trivial] at N9q7 | rw [if_pos rfl] at N9q7 | rw [if_neg (by walk_at "a ne")] at N9q7)); (try dsimp only)))
  k_with "x57" => ((k_here; (with_reducible show wpAny _ _ (call (Value.ref 154) _) _ _ _); k_dflt (k_extra "my pick")))
  k_with "x58" => ((k_here; (with_reducible refine gm_bjoin ?_)))
  k_with "x59" => ((k_here; k_dflt (refine ne_same (by with_unfolding_all rfl) ?_)))
  k_with "x60" => ((k_here; k_dflt (refine ne_same_b (by with_unfolding_all rfl) ?_)))
  k_with "x61" => (((show GoodW _ _ _ _ _ (.ok (.ret (.bool true))) _); (refine goodW_bool (by assumption) (by assumption) (raisesW_false ?nnx61) ?ppx61); (case nnx61 => wrow_none_raised); (case ppx61 => with_unfolding_all rfl)))
  k_with "x62" => ((intro i9q7 u9q7 I9q7 oI9q7 C9q7 oC9q7 D9q7 m9q7 ys9q7 h9q7 tk9q7 E9q7 hi9q7 hC9q7 hx9q7 F9q7 N9q7 off9q7 ne9q7; (have off9pq7 := off9q7); (simp only [LCg.Off3, and_true] at off9pq7); (try k_fold)))
  k_with "x63" => ((rename News _ _ _ _ => nEq7; exact LCg.CompEnd.intro (by assumption) nEq7 _ (by lcg_sub) (by assumption) (by first | trivial | k_mem) ⟨rfl, _, rfl⟩))
  k_with "my bytes" =>
    (refine' bytes_K ?F ?N ?l ?i ?r ?z ?h ?_)
    (case F => k_asm)
    (case N => k_asm)
    (case l => exact News.isList (by k_asm) (by k_mem))
    (case i => exact hysB0)
    (case r => exact fun n hn => ⟨(hpA0 n hn).1, by have := (hpm0 n hn).2; walk_at "a om"⟩)
    (case z => rw [hysB0.length, sizeLine_eq]; exact le_line hpl0)
    (case h => rfl)
    (rw [pl_bytes (x := Str.ofString "us-ascii") (.inl rfl)])
    (intro h' t9' k9' F9' N9' _)
    (try dsimp only)
  k_steps
  rename News _ _ _ _ => lN
  rename Fr _ _ _ _ => lF
  replace lN := news_erase 0 lN
  simp only [List.eraseIdx_cons_succ, List.eraseIdx_cons_zero] at lN
  rename IsRange _ _ _ _ _ _ _ _ => lR
  refine map_range (n := ps0.length + 1) (fun i v => ∃ u, v = .str (textOf (ps0.take i)) u) lF lN rfl lR (len_p1 hbl0) (lt_p1 hpl0) ?_ ?_
  case refine_1 =>
    clear lN lF lR
    k_with_none
    k_with "x1" => ((refine wpAny_call ?_; first   | (refine' code_defG (news := []) ?k1x1 ?k2x1 ?k3x1 News.nil ?k5x1 ?kAx1 ?kFx1 ?kKx1 ?k6x1 ?k7x1 ?k8x1 ?k9x1 ?kBx1 ?_ ?c2x1 ?c3x1 ?c4x1 ?c5x1; (case kAx1 => exact rfl); (case kFx1 => exact rfl); (case kKx1 => assumption); (case k1x1 => k_asm); (case k2x1 => k_asm); (case k3x1 => k_asm); (case k5x1 => k_asm); (case k6x1 => k_is); (case k7x1 => k_is); (case k8x1 => ktr_room); (case k9x1 => exact BindsTo.of_eq rfl); (case c5x1 => decide); (case kBx1 => exact locs rfl); (case c2x1 => exact rfl); (case c3x1 => exact rfl); (case c4x1 => exact rfl); k_whole; intro gpq7 Lpq7 hpq7 FGpq7 Fpq7 Npq7 Bpq7 Xpq7 Tpq7 kGpq7; (try dsimp only); (try k_fold))   | (refine' code_defGC (news := []) ?k1x1 ?k2x1 ?k3x1 News.nil ?k5x1 ?kAx1 ?kFx1 ?kKx1 ?k6x1 ?k7x1 ?k8x1 ?k9x1 ?kBx1 ?kDx1 ?_ ?c2x1 ?c3x1 ?c4x1; (case kAx1 => exact rfl); (case kFx1 => exact rfl); (case kKx1 => assumption); (case k1x1 => k_asm); (case k2x1 => k_asm); (case k3x1 => k_asm); (case k5x1 => k_asm); (case k6x1 => k_is); (case k7x1 => k_is); (case k8x1 => ktr_room); (case k9x1 => exact BindsTo.of_eq rfl); (case kBx1 => exact rfl); (case kDx1 => decide +kernel); (case c2x1 => exact rfl); (case c3x1 => exact rfl); (case c4x1 => exact rfl); k_whole; intro gpq7 Lpq7 hpq7 tkpq7 cellspq7 FGpq7 Fpq7 Npq7 Ypq7 Bpq7 Xpq7 Tpq7 l1q7 kGpq7; clear l1q7; k_cells Ypq7; (try simp only [List.cons_append, List.nil_append] at Npq7); (try dsimp only); (try k_fold))))
    k_with "calls" => (cell_ask (c_need_charset _ _ _ (by assumption)))
    k_with "calls" => (cell_ask (c_has_sign _ _ _ _ _ (by assumption)))
    k_with "calls" => (cell_ask (c_utf8_octets _ _ _ (by assumption)))
    k_with "calls" => (cell_ask (c_utf8_sign _ _ _ _ _ (by first | assumption | omega) (by first | assumption | omega) (by first | assumption | omega)))
    k_with "calls" => (cell_ask (c_sign_at' _ _ _ _ _ _ _ (by assumption) (by first | assumption | omega) (by first | assumption | omega) (by first | assumption | omega)))
    k_with "x15" => ((intro zq7 h2q7 h3q7; (simp only [List.forall_mem_cons, List.not_mem_nil, false_implies, implies_true, and_true, ne_eq] at h2q7); (simp only [List.contains_cons, List.contains_nil, Bool.or_false, Bool.or_eq_false_iff, beq_eq_false_iff_ne, ne_eq] at h3q7); simp [kstB, h2q7, h3q7]))
    k_with "calls" => (cell_ask (c_text_in _ _ _ _ _ (by assumption) (by assumption)))
    k_with "calls" => (cell_ask (c_strict_text _ _ _ _ _ (by assumption) (by assumption) (by assumption)))
    k_with "x18" => ((k_here; k_dflt (refine item_text (by first | assumption | omega) (by first | assumption | omega) (by first | assumption | omega) ?_)))
    k_with "x19" => ((k_here; k_dflt (refine len_text (by first | assumption | omega) ?_)))
    k_with "x20" => ((k_here; k_dflt (refine ord_one (by first | assumption | omega) ?_)))
    k_with "calls" => (cell_ask (c_has_sign_true _ _ _ _ _ (by assumption) (by assumption)))
    k_with "x22" => ((intro zq7 h1q7 h2q7 h3q7; (simp only [List.forall_mem_cons, List.not_mem_nil, false_implies, implies_true, and_true, ne_eq] at h2q7); (simp only [List.contains_cons, List.contains_nil, Bool.or_false, Bool.or_eq_false_iff, beq_eq_false_iff_ne, ne_eq] at h3q7); simp [kstB, h1q7, h2q7, h3q7]))
    k_with "calls" => (cell_ask (c_octets_in0 _ _ _ _ _ (by assumption) (by first | assumption | omega) (by assumption)))
    k_with "calls" => (cell_ask (c_best_charset _ _ _ (by first | assumption | omega) (by assumption)))
    k_with "x50" => ((k_dflt ((show ¬ @Eq Nat _ _); intro e9q7; (repeat (rename And _ _ => c9q7; obtain ⟨_, _⟩ := c9q7)); first | exact absurd e9q7 (by assumption) | exact absurd e9q7.symm (by assumption) | exact absurd e9q7 (Nat.ne_of_lt (by assumption)) | exact absurd e9q7.symm (Nat.ne_of_lt (by assumption)) | omega)))
    k_with "x51" => ((refine neN ?_; (try dsimp only); intro e9q7; (rename And _ _ => c9q7); first | exact absurd e9q7 c9q7.1 | exact absurd e9q7 c9q7.2.1 | exact absurd e9q7 c9q7.2.2.1 | exact absurd e9q7 c9q7.2.2.2.1 | exact absurd e9q7 c9q7.2.2.2.2.1 | exact absurd e9q7 c9q7.2.2.2.2.2.1 | exact absurd e9q7 c9q7.2.2.2.2.2.2.1 | exact absurd e9q7 c9q7.2.2.2.2.2.2.2.1 | exact absurd e9q7 c9q7.2.2.2.2.2.2.2.2.1 | exact absurd e9q7 c9q7.2 | exact absurd e9q7 c9q7.2.2 | exact absurd e9q7 c9q7.2.2.2 | exact absurd e9q7 c9q7.2.2.2.2 | exact absurd e9q7 c9q7.2.2.2.2.2 | exact absurd e9q7 c9q7.2.2.2.2.2.2 | exact absurd e9q7 c9q7.2.2.2.2.2.2.2 | exact absurd e9q7 c9q7.2.2.2.2.2.2.2.2 | exact absurd e9q7 c9q7.2.2.2.2.2.2.2.2.2 | exact absurd e9q7.symm c9q7.1 | exact absurd e9q7.symm c9q7.2.1 | exact absurd e9q7.symm c9q7.2.2.1 | exact absurd e9q7.symm c9q7.2.2.2.1 | exact absurd e9q7.symm c9q7.2.2.2.2.1 | exact absurd e9q7.symm c9q7.2.2.2.2.2.1 | exact absurd e9q7.symm c9q7.2.2.2.2.2.2.1 | exact absurd e9q7.symm c9q7.2.2.2.2.2.2.2.1 | exact absurd e9q7.symm c9q7.2.2.2.2.2.2.2.2.1 | exact absurd e9q7.symm c9q7.2 | exact absurd e9q7.symm c9q7.2.2 | exact absurd e9q7.symm c9q7.2.2.2 | exact absurd e9q7.symm c9q7.2.2.2.2 | exact absurd e9q7.symm c9q7.2.2.2.2.2 | exact absurd e9q7.symm c9q7.2.2.2.2.2.2 | exact absurd e9q7.symm c9q7.2.2.2.2.2.2.2 | exact absurd e9q7.symm c9q7.2.2.2.2.2.2.2.2 | exact absurd e9q7.symm c9q7.2.2.2.2.2.2.2.2.2 | exact absurd e9q7 (Nat.ne_of_lt c9q7.1) | exact absurd e9q7 (Nat.ne_of_lt c9q7.2.1) | exact absurd e9q7 (Nat.ne_of_lt c9q7.2.2.1) | exact absurd e9q7 (Nat.ne_of_lt c9q7.2.2.2.1) | exact absurd e9q7 (Nat.ne_of_lt c9q7.2.2.2.2.1) | exact absurd e9q7 (Nat.ne_of_lt c9q7.2.2.2.2.2.1) | exact absurd e9q7 (Nat.ne_of_lt c9q7.2.2.2.2.2.2.1) | exact absurd e9q7 (Nat.ne_of_lt c9q7.2.2.2.2.2.2.2.1) | exact absurd e9q7 (Nat.ne_of_lt c9q7.2.2.2.2.2.2.2.2.1) | exact absurd e9q7 (Nat.ne_of_lt c9q7.2) | exact absurd e9q7 (Nat.ne_of_lt c9q7.2.2) | exact absurd e9q7 (Nat.ne_of_lt c9q7.2.2.2) | exact absurd e9q7 (Nat.ne_of_lt c9q7.2.2.2.2) | exact absurd e9q7 (Nat.ne_of_lt c9q7.2.2.2.2.2) | exact absurd e9q7 (Nat.ne_of_lt c9q7.2.2.2.2.2.2) | exact absurd e9q7 (Nat.ne_of_lt c9q7.2.2.2.2.2.2.2) | exact absurd e9q7 (Nat.ne_of_lt c9q7.2.2.2.2.2.2.2.2) | exact absurd e9q7 (Nat.ne_of_lt c9q7.2.2.2.2.2.2.2.2.2) | exact absurd e9q7.symm (Nat.ne_of_lt c9q7.1) | exact absurd e9q7.symm (Nat.ne_of_lt c9q7.2.1) | exact absurd e9q7.symm (Nat.ne_of_lt c9q7.2.2.1) | exact absurd e9q7.symm (Nat.ne_of_lt c9q7.2.2.2.1) | exact absurd e9q7.symm (Nat.ne_of_lt c9q7.2.2.2.2.1) | exact absurd e9q7.symm (Nat.ne_of_lt c9q7.2.2.2.2.2.1) | exact absurd e9q7.symm (Nat.ne_of_lt c9q7.2.2.2.2.2.2.1) | exact absurd e9q7.symm (Nat.ne_of_lt c9q7.2.2.2.2.2.2.2.1) | exact absurd e9q7.symm (Nat.ne_of_lt c9q7.2.2.2.2.2.2.2.2.1) | exact absurd e9q7.symm (Nat.ne_of_lt c9q7.2) | exact absurd e9q7.symm (Nat.ne_of_lt c9q7.2.2) | exact absurd e9q7.symm (Nat.ne_of_lt c9q7.2.2.2) | exact absurd e9q7.symm (Nat.ne_of_lt c9q7.2.2.2.2) | exact absurd e9q7.symm (Nat.ne_of_lt c9q7.2.2.2.2.2) | exact absurd e9q7.symm (Nat.ne_of_lt c9q7.2.2.2.2.2.2) | exact absurd e9q7.symm (Nat.ne_of_lt c9q7.2.2.2.2.2.2.2) | exact absurd e9q7.symm (Nat.ne_of_lt c9q7.2.2.2.2.2.2.2.2) | exact absurd e9q7.symm (Nat.ne_of_lt c9q7.2.2.2.2.2.2.2.2.2) | (clear c9q7; (rename And _ _ => c8q7); first | exact absurd e9q7 c8q7.1 | exact absurd e9q7 c8q7.2.1 | exact absurd e9q7 c8q7.2.2.1 | exact absurd e9q7 c8q7.2.2.2.1 | exact absurd e9q7 c8q7.2.2.2.2.1 | exact absurd e9q7 c8q7.2.2.2.2.2.1 | exact absurd e9q7 c8q7.2.2.2.2.2.2.1 | exact absurd e9q7 c8q7.2.2.2.2.2.2.2.1 | exact absurd e9q7 c8q7.2.2.2.2.2.2.2.2.1 | exact absurd e9q7 c8q7.2 | exact absurd e9q7 c8q7.2.2 | exact absurd e9q7 c8q7.2.2.2 | exact absurd e9q7 c8q7.2.2.2.2 | exact absurd e9q7 c8q7.2.2.2.2.2 | exact absurd e9q7 c8q7.2.2.2.2.2.2 | exact absurd e9q7 c8q7.2.2.2.2.2.2.2 | exact absurd e9q7 c8q7.2.2.2.2.2.2.2.2 | exact absurd e9q7 c8q7.2.2.2.2.2.2.2.2.2 | exact absurd e9q7.symm c8q7.1 | exact absurd e9q7.symm c8q7.2.1 | exact absurd e9q7.symm c8q7.2.2.1 | exact absurd e9q7.symm c8q7.2.2.2.1 | exact absurd e9q7.symm c8q7.2.2.2.2.1 | exact absurd e9q7.symm c8q7.2.2.2.2.2.1 | exact absurd e9q7.symm c8q7.2.2.2.2.2.2.1 | exact absurd e9q7.symm c8q7.2.2.2.2.2.2.2.1 | exact absurd e9q7.symm c8q7.2.2.2.2.2.2.2.2.1 | exact absurd e9q7.symm c8q7.2 | exact absurd e9q7.symm c8q7.2.2 | exact absurd e9q7.symm c8q7.2.2.2 | exact absurd e9q7.symm c8q7.2.2.2.2 | exact absurd e9q7.symm c8q7.2.2.2.2.2 | exact absurd e9q7.symm c8q7.2.2.2.2.2.2 | exact absurd e9q7.symm c8q7.2.2.2.2.2.2.2 | exact absurd e9q7.symm c8q7.2.2.2.2.2.2.2.2 | exact absurd e9q7.symm c8q7.2.2.2.2.2.2.2.2.2 | exact absurd e9q7 (Nat.ne_of_lt c8q7.1) | exact absurd e9q7 (Nat.ne_of_lt c8q7.2.1) | exact absurd e9q7 (Nat.ne_of_lt c8q7.2.2.1) | exact absurd e9q7 (Nat.ne_of_lt c8q7.2.2.2.1) | exact absurd e9q7 (Nat.ne_of_lt c8q7.2.2.2.2.1) | exact absurd e9q7 (Nat.ne_of_lt c8q7.2.2.2.2.2.1) | exact absurd e9q7 (Nat.ne_of_lt c8q7.2.2.2.2.2.2.1) | exact absurd e9q7 (Nat.ne_of_lt c8q7.2.2.2.2.2.2.2.1) | exact absurd e9q7 (Nat.ne_of_lt c8q7.2.2.2.2.2.2.2.2.1) | exact absurd e9q7 (Nat.ne_of_lt c8q7.2) | exact absurd e9q7 (Nat.ne_of_lt c8q7.2.2) | exact absurd e9q7 (Nat.ne_of_lt c8q7.2.2.2) | exact absurd e9q7 (Nat.ne_of_lt c8q7.2.2.2.2) | exact absurd e9q7 (Nat.ne_of_lt c8q7.2.2.2.2.2) | exact absurd e9q7 (Nat.ne_of_lt c8q7.2.2.2.2.2.2) | exact absurd e9q7 (Nat.ne_of_lt c8q7.2.2.2.2.2.2.2) | exact absurd e9q7 (Nat.ne_of_lt c8q7.2.2.2.2.2.2.2.2) | exact absurd e9q7 (Nat.ne_of_lt c8q7.2.2.2.2.2.2.2.2.2) | exact absurd e9q7.symm (Nat.ne_of_lt c8q7.1) | exact absurd e9q7.symm (Nat.ne_of_lt c8q7.2.1) | exact absurd e9q7.symm (Nat.ne_of_lt c8q7.2.2.1) | exact absurd e9q7.symm (Nat.ne_of_lt c8q7.2.2.2.1) | exact absurd e9q7.symm (Nat.ne_of_lt c8q7.2.2.2.2.1) | exact absurd e9q7.symm (Nat.ne_of_lt c8q7.2.2.2.2.2.1) | exact absurd e9q7.symm (Nat.ne_of_lt c8q7.2.2.2.2.2.2.1) | exact absurd e9q7.symm (Nat.ne_of_lt c8q7.2.2.2.2.2.2.2.1) | exact absurd e9q7.symm (Nat.ne_of_lt c8q7.2.2.2.2.2.2.2.2.1) | exact absurd e9q7.symm (Nat.ne_of_lt c8q7.2) | exact absurd e9q7.symm (Nat.ne_of_lt c8q7.2.2) | exact absurd e9q7.symm (Nat.ne_of_lt c8q7.2.2.2) | exact absurd e9q7.symm (Nat.ne_of_lt c8q7.2.2.2.2) | exact absurd e9q7.symm (Nat.ne_of_lt c8q7.2.2.2.2.2) | exact absurd e9q7.symm (Nat.ne_of_lt c8q7.2.2.2.2.2.2) | exact absurd e9q7.symm (Nat.ne_of_lt c8q7.2.2.2.2.2.2.2) | exact absurd e9q7.symm (Nat.ne_of_lt c8q7.2.2.2.2.2.2.2.2) | exact absurd e9q7.symm (Nat.ne_of_lt c8q7.2.2.2.2.2.2.2.2.2))))
    k_with "x52" => (((repeat (rename And _ _ => c9q7; clear c9q7)); omega))
    k_with "x53" => ((k_here; (with_reducible show wpAny _ _ (eval (Expr.ListComp _ [PySem.Comprehension.mk _ _ [] _] _ _) _) _ _ _); k_dflt (refine lcU (by k_asm) (by with_unfolding_all rfl) (by decide) (by rfl) (by decide) (by rfl) ?_)))
    k_with "x54" => ((k_here; (with_reducible show wpAny _ _ (eval (Expr.ListComp _ [PySem.Comprehension.mk _ _ [_] _] _ _) _) _ _ _); k_dflt (refine lcT (by k_asm) (by with_unfolding_all rfl) (by decide) (by rfl) (by decide) (by rfl) ?_)))
    k_with "x55" => ((k_here; k_dflt (refine lcAU (by k_asm) (by rfl) (by with_unfolding_all rfl) (by with_unfolding_all rfl) (by decide) (by rfl) (by decide) (by rfl) (by rfl) (by rfl) ?_)))
    k_with "x56" => ((k_here; (with_reducible show wpAny _ _ (call (Value.ref 147) _) _ _ _); k_dflt (refine' pd_use (c_draw _ _ _ ?h1x56 ?h2x56) ?k1x56 ?k2x56 ?k3x56 ?k4x56 ?kKx56 ?k5x56 ?kdx56 ?kux56 ?m1x56 ?m2x56 ?pqx56 ?hIx56 ?hlx56 ?hxx56 ?hx2x56 ?hyx56 ?_; (case k1x56 => k_asm); (case k2x56 => k_asm); (case k3x56 => k_asm); (case k4x56 => k_asm); (case kKx56 => first | exact rfl | assumption); (case k5x56 => k_asm); (case kdx56 => ktr_room); (case kux56 => ktr_units); (case m1x56 => k_mem); (case m2x56 => k_mem); (case pqx56 => first | assumption | walk_at "a ne"); (case hIx56 => assumption); (case hlx56 => first | assumption | walk_at "a om"); (case hxx56 => first | assumption | walk_at "a om"); (case hx2x56 => first | assumption | walk_at "a om"); (case hyx56 => first | assumption | walk_at "a om"); (case h1x56 => walk_at "a om"); (case h2x56 => walk_at "a om")); (rintro r9q7 v9q7 x9q7 tx9q7 y9q7 ty9q7 h9q7 tk9q7 F9q7 N9q7 r1q7 r2q7 x1q7 x2q7 y1q7 ⟨t9q7, e9q7⟩); (subst e9q7); (simp only [List.map_cons, List.map_nil] at N9q7); (repeat (first | rw [if_pos trivial] at N9q7 | rw [if_pos rfl] at N9q7 | rw [if_neg (by walk_at "a ne")] at N9q7)); (try dsimp only)))
    k_with "x57" => ((k_here; (with_reducible show wpAny _ _ (call (Value.ref 154) _) _ _ _); k_dflt (k_extra "my pick")))
    k_with "x58" => ((k_here; (with_reducible refine gm_bjoin ?_)))
    k_with "x59" => ((k_here; k_dflt (refine ne_same (by with_unfolding_all rfl) ?_)))
    k_with "x60" => ((k_here; k_dflt (refine ne_same_b (by with_unfolding_all rfl) ?_)))
    k_with "x61" => (((show GoodW _ _ _ _ _ (.ok (.ret (.bool true))) _); (refine goodW_bool (by assumption) (by assumption) (raisesW_false ?nnx61) ?ppx61); (case nnx61 => wrow_none_raised); (case ppx61 => with_unfolding_all rfl)))
    k_with "x62" => ((intro i9q7 u9q7 I9q7 oI9q7 C9q7 oC9q7 D9q7 m9q7 ys9q7 h9q7 tk9q7 E9q7 hi9q7 hC9q7 hx9q7 F9q7 N9q7 off9q7 ne9q7; (have off9pq7 := off9q7); (simp only [LCg.Off3, and_true] at off9pq7); (try k_fold)))
    k_with "x63" => ((rename News _ _ _ _ => nEq7; exact LCg.CompEnd.intro (by assumption) nEq7 _ (by lcg_sub) (by assumption) (by first | trivial | k_mem) ⟨rfl, _, rfl⟩))
    k_with "my cend" =>
      (walk_at "turn out")
    k_with "my slice" =>
      (refine bytes_upto (s := ⟨_, _, _, _, _⟩) (k := i9) (by k_asm) (by k_asm) (len_lt hbl0 hpl0) (by rfl) ?_)
      (intro h9s t9s j9s F9s N9s)
      (try dsimp only)
    intro i9 u9 I9 oI9 C9 oC9 D9 m9 ys9 h9 tk9 E9 hi9 hC9 hx9 F9 N9 off9 ne9
    have off9' := off9
    simp only [LCg.Off3, and_true] at off9'
    k_with "my call" =>
      (cell_ask (c_text_in _ (Str.ofString "us-ascii") ((toB (encAll (decide (Str.ofString "us-ascii" = sU)) ps0)).take i9) _ _ isX0 (take_lt hbl0 hpl0)))
      (rw [pl_one (x := Str.ofString "us-ascii") (.inl rfl) hpB0])
    try k_fold
    k_steps
  intro gC0 ysC0 hysC0
  replace hysC0 := hysC0.strs
  clear lN lF lR
  k_with_none
  k_with "x1" => ((refine wpAny_call ?_; first   | (refine' code_defG (news := []) ?k1x1 ?k2x1 ?k3x1 News.nil ?k5x1 ?kAx1 ?kFx1 ?kKx1 ?k6x1 ?k7x1 ?k8x1 ?k9x1 ?kBx1 ?_ ?c2x1 ?c3x1 ?c4x1 ?c5x1; (case kAx1 => exact rfl); (case kFx1 => exact rfl); (case kKx1 => assumption); (case k1x1 => k_asm); (case k2x1 => k_asm); (case k3x1 => k_asm); (case k5x1 => k_asm); (case k6x1 => k_is); (case k7x1 => k_is); (case k8x1 => ktr_room); (case k9x1 => exact BindsTo.of_eq rfl); (case c5x1 => decide); (case kBx1 => exact locs rfl); (case c2x1 => exact rfl); (case c3x1 => exact rfl); (case c4x1 => exact rfl); k_whole; intro gpq7 Lpq7 hpq7 FGpq7 Fpq7 Npq7 Bpq7 Xpq7 Tpq7 kGpq7; (try dsimp only); (try k_fold))   | (refine' code_defGC (news := []) ?k1x1 ?k2x1 ?k3x1 News.nil ?k5x1 ?kAx1 ?kFx1 ?kKx1 ?k6x1 ?k7x1 ?k8x1 ?k9x1 ?kBx1 ?kDx1 ?_ ?c2x1 ?c3x1 ?c4x1; (case kAx1 => exact rfl); (case kFx1 => exact rfl); (case kKx1 => assumption); (case k1x1 => k_asm); (case k2x1 => k_asm); (case k3x1 => k_asm); (case k5x1 => k_asm); (case k6x1 => k_is); (case k7x1 => k_is); (case k8x1 => ktr_room); (case k9x1 => exact BindsTo.of_eq rfl); (case kBx1 => exact rfl); (case kDx1 => decide +kernel); (case c2x1 => exact rfl); (case c3x1 => exact rfl); (case c4x1 => exact rfl); k_whole; intro gpq7 Lpq7 hpq7 tkpq7 cellspq7 FGpq7 Fpq7 Npq7 Ypq7 Bpq7 Xpq7 Tpq7 l1q7 kGpq7; clear l1q7; k_cells Ypq7; (try simp only [List.cons_append, List.nil_append] at Npq7); (try dsimp only); (try k_fold))))
  k_with "calls" => (cell_ask (c_need_charset _ _ _ (by assumption)))
  k_with "calls" => (cell_ask (c_has_sign _ _ _ _ _ (by assumption)))
  k_with "calls" => (cell_ask (c_utf8_octets _ _ _ (by assumption)))
  k_with "calls" => (cell_ask (c_utf8_sign _ _ _ _ _ (by first | assumption | omega) (by first | assumption | omega) (by first | assumption | omega)))
  k_with "calls" => (cell_ask (c_sign_at' _ _ _ _ _ _ _ (by assumption) (by first | assumption | omega) (by first | assumption | omega) (by first | assumption | omega)))
  k_with "x15" => ((intro zq7 h2q7 h3q7; (simp only [List.forall_mem_cons, List.not_mem_nil, false_implies, implies_true, and_true, ne_eq] at h2q7); (simp only [List.contains_cons, List.contains_nil, Bool.or_false, Bool.or_eq_false_iff, beq_eq_false_iff_ne, ne_eq] at h3q7); simp [kstB, h2q7, h3q7]))
  k_with "calls" => (cell_ask (c_text_in _ _ _ _ _ (by assumption) (by assumption)))
  k_with "calls" => (cell_ask (c_strict_text _ _ _ _ _ (by assumption) (by assumption) (by assumption)))
  k_with "x18" => ((k_here; k_dflt (refine item_text (by first | assumption | omega) (by first | assumption | omega) (by first | assumption | omega) ?_)))
  k_with "x19" => ((k_here; k_dflt (refine len_text (by first | assumption | omega) ?_)))
  k_with "x20" => ((k_here; k_dflt (refine ord_one (by first | assumption | omega) ?_)))
  k_with "calls" => (cell_ask (c_has_sign_true _ _ _ _ _ (by assumption) (by assumption)))
  k_with "x22" => ((intro zq7 h1q7 h2q7 h3q7; (simp only [List.forall_mem_cons, List.not_mem_nil, false_implies, implies_true, and_true, ne_eq] at h2q7); (simp only [List.contains_cons, List.contains_nil, Bool.or_false, Bool.or_eq_false_iff, beq_eq_false_iff_ne, ne_eq] at h3q7); simp [kstB, h1q7, h2q7, h3q7]))
  k_with "calls" => (cell_ask (c_octets_in0 _ _ _ _ _ (by assumption) (by first | assumption | omega) (by assumption)))
  k_with "calls" => (cell_ask (c_best_charset _ _ _ (by first | assumption | omega) (by assumption)))
  k_with "x50" => ((k_dflt ((show ¬ @Eq Nat _ _); intro e9q7; (repeat (rename And _ _ => c9q7; obtain ⟨_, _⟩ := c9q7)); first | exact absurd e9q7 (by assumption) | exact absurd e9q7.symm (by assumption) | exact absurd e9q7 (Nat.ne_of_lt (by assumption)) | exact absurd e9q7.symm (Nat.ne_of_lt (by assumption)) | omega)))
  k_with "x51" => ((refine neN ?_; (try dsimp only); intro e9q7; (rename And _ _ => c9q7); first | exact absurd e9q7 c9q7.1 | exact absurd e9q7 c9q7.2.1 | exact absurd e9q7 c9q7.2.2.1 | exact absurd e9q7 c9q7.2.2.2.1 | exact absurd e9q7 c9q7.2.2.2.2.1 | exact absurd e9q7 c9q7.2.2.2.2.2.1 | exact absurd e9q7 c9q7.2.2.2.2.2.2.1 | exact absurd e9q7 c9q7.2.2.2.2.2.2.2.1 | exact absurd e9q7 c9q7.2.2.2.2.2.2.2.2.1 | exact absurd e9q7 c9q7.2 | exact absurd e9q7 c9q7.2.2 | exact absurd e9q7 c9q7.2.2.2 | exact absurd e9q7 c9q7.2.2.2.2 | exact absurd e9q7 c9q7.2.2.2.2.2 | exact absurd e9q7 c9q7.2.2.2.2.2.2 | exact absurd e9q7 c9q7.2.2.2.2.2.2.2 | exact absurd e9q7 c9q7.2.2.2.2.2.2.2.2 | exact absurd e9q7 c9q7.2.2.2.2.2.2.2.2.2 | exact absurd e9q7.symm c9q7.1 | exact absurd e9q7.symm c9q7.2.1 | exact absurd e9q7.symm c9q7.2.2.1 | exact absurd e9q7.symm c9q7.2.2.2.1 | exact absurd e9q7.symm c9q7.2.2.2.2.1 | exact absurd e9q7.symm c9q7.2.2.2.2.2.1 | exact absurd e9q7.symm c9q7.2.2.2.2.2.2.1 | exact absurd e9q7.symm c9q7.2.2.2.2.2.2.2.1 | exact absurd e9q7.symm c9q7.2.2.2.2.2.2.2.2.1 | exact absurd e9q7.symm c9q7.2 | exact absurd e9q7.symm c9q7.2.2 | exact absurd e9q7.symm c9q7.2.2.2 | exact absurd e9q7.symm c9q7.2.2.2.2 | exact absurd e9q7.symm c9q7.2.2.2.2.2 | exact absurd e9q7.symm c9q7.2.2.2.2.2.2 | exact absurd e9q7.symm c9q7.2.2.2.2.2.2.2 | exact absurd e9q7.symm c9q7.2.2.2.2.2.2.2.2 | exact absurd e9q7.symm c9q7.2.2.2.2.2.2.2.2.2 | exact absurd e9q7 (Nat.ne_of_lt c9q7.1) | exact absurd e9q7 (Nat.ne_of_lt c9q7.2.1) | exact absurd e9q7 (Nat.ne_of_lt c9q7.2.2.1) | exact absurd e9q7 (Nat.ne_of_lt c9q7.2.2.2.1) | exact absurd e9q7 (Nat.ne_of_lt c9q7.2.2.2.2.1) | exact absurd e9q7 (Nat.ne_of_lt c9q7.2.2.2.2.2.1) | exact absurd e9q7 (Nat.ne_of_lt c9q7.2.2.2.2.2.2.1) | exact absurd e9q7 (Nat.ne_of_lt c9q7.2.2.2.2.2.2.2.1) | exact absurd e9q7 (Nat.ne_of_lt c9q7.2.2.2.2.2.2.2.2.1) | exact absurd e9q7 (Nat.ne_of_lt c9q7.2) | exact absurd e9q7 (Nat.ne_of_lt c9q7.2.2) | exact absurd e9q7 (Nat.ne_of_lt c9q7.2.2.2) | exact absurd e9q7 (Nat.ne_of_lt c9q7.2.2.2.2) | exact absurd e9q7 (Nat.ne_of_lt c9q7.2.2.2.2.2) | exact absurd e9q7 (Nat.ne_of_lt c9q7.2.2.2.2.2.2) | exact absurd e9q7 (Nat.ne_of_lt c9q7.2.2.2.2.2.2.2) | exact absurd e9q7 (Nat.ne_of_lt c9q7.2.2.2.2.2.2.2.2) | exact absurd e9q7 (Nat.ne_of_lt c9q7.2.2.2.2.2.2.2.2.2) | exact absurd e9q7.symm (Nat.ne_of_lt c9q7.1) | exact absurd e9q7.symm (Nat.ne_of_lt c9q7.2.1) | exact absurd e9q7.symm (Nat.ne_of_lt c9q7.2.2.1) | exact absurd e9q7.symm (Nat.ne_of_lt c9q7.2.2.2.1) | exact absurd e9q7.symm (Nat.ne_of_lt c9q7.2.2.2.2.1) | exact absurd e9q7.symm (Nat.ne_of_lt c9q7.2.2.2.2.2.1) | exact absurd e9q7.symm (Nat.ne_of_lt c9q7.2.2.2.2.2.2.1) | exact absurd e9q7.symm (Nat.ne_of_lt c9q7.2.2.2.2.2.2.2.1) | exact absurd e9q7.symm (Nat.ne_of_lt c9q7.2.2.2.2.2.2.2.2.1) | exact absurd e9q7.symm (Nat.ne_of_lt c9q7.2) | exact absurd e9q7.symm (Nat.ne_of_lt c9q7.2.2) | exact absurd e9q7.symm (Nat.ne_of_lt c9q7.2.2.2) | exact absurd e9q7.symm (Nat.ne_of_lt c9q7.2.2.2.2) | exact absurd e9q7.symm (Nat.ne_of_lt c9q7.2.2.2.2.2) | exact absurd e9q7.symm (Nat.ne_of_lt c9q7.2.2.2.2.2.2) | exact absurd e9q7.symm (Nat.ne_of_lt c9q7.2.2.2.2.2.2.2) | exact absurd e9q7.symm (Nat.ne_of_lt c9q7.2.2.2.2.2.2.2.2) | exact absurd e9q7.symm (Nat.ne_of_lt c9q7.2.2.2.2.2.2.2.2.2) | (clear c9q7; (rename And _ _ => c8q7); first | exact absurd e9q7 c8q7.1 | exact absurd e9q7 c8q7.2.1 | exact absurd e9q7 c8q7.2.2.1 | exact absurd e9q7 c8q7.2.2.2.1 | exact absurd e9q7 c8q7.2.2.2.2.1 | exact absurd e9q7 c8q7.2.2.2.2.2.1 | exact absurd e9q7 c8q7.2.2.2.2.2.2.1 | exact absurd e9q7 c8q7.2.2.2.2.2.2.2.1 | exact absurd e9q7 c8q7.2.2.2.2.2.2.2.2.1 | exact absurd e9q7 c8q7.2 | exact absurd e9q7 c8q7.2.2 | exact absurd e9q7 c8q7.2.2.2 | exact absurd e9q7 c8q7.2.2.2.2 | exact absurd e9q7 c8q7.2.2.2.2.2 | exact absurd e9q7 c8q7.2.2.2.2.2.2 | exact absurd e9q7 c8q7.2.2.2.2.2.2.2 | exact absurd e9q7 c8q7.2.2.2.2.2.2.2.2 | exact absurd e9q7 c8q7.2.2.2.2.2.2.2.2.2 | exact absurd e9q7.symm c8q7.1 | exact absurd e9q7.symm c8q7.2.1 | exact absurd e9q7.symm c8q7.2.2.1 | exact absurd e9q7.symm c8q7.2.2.2.1 | exact absurd e9q7.symm c8q7.2.2.2.2.1 | exact absurd e9q7.symm c8q7.2.2.2.2.2.1 | exact absurd e9q7.symm c8q7.2.2.2.2.2.2.1 | exact absurd e9q7.symm c8q7.2.2.2.2.2.2.2.1 | exact absurd e9q7.symm c8q7.2.2.2.2.2.2.2.2.1 | exact absurd e9q7.symm c8q7.2 | exact absurd e9q7.symm c8q7.2.2 | exact absurd e9q7.symm c8q7.2.2.2 | exact absurd e9q7.symm c8q7.2.2.2.2 | exact absurd e9q7.symm c8q7.2.2.2.2.2 | exact absurd e9q7.symm c8q7.2.2.2.2.2.2 | exact absurd e9q7.symm c8q7.2.2.2.2.2.2.2 | exact absurd e9q7.symm c8q7.2.2.2.2.2.2.2.2 | exact absurd e9q7.symm c8q7.2.2.2.2.2.2.2.2.2 | exact absurd e9q7 (Nat.ne_of_lt c8q7.1) | exact absurd e9q7 (Nat.ne_of_lt c8q7.2.1) | exact absurd e9q7 (Nat.ne_of_lt c8q7.2.2.1) | exact absurd e9q7 (Nat.ne_of_lt c8q7.2.2.2.1) | exact absurd e9q7 (Nat.ne_of_lt c8q7.2.2.2.2.1) | exact absurd e9q7 (Nat.ne_of_lt c8q7.2.2.2.2.2.1) | exact absurd e9q7 (Nat.ne_of_lt c8q7.2.2.2.2.2.2.1) | exact absurd e9q7 (Nat.ne_of_lt c8q7.2.2.2.2.2.2.2.1) | exact absurd e9q7 (Nat.ne_of_lt c8q7.2.2.2.2.2.2.2.2.1) | exact absurd e9q7 (Nat.ne_of_lt c8q7.2) | exact absurd e9q7 (Nat.ne_of_lt c8q7.2.2) | exact absurd e9q7 (Nat.ne_of_lt c8q7.2.2.2) | exact absurd e9q7 (Nat.ne_of_lt c8q7.2.2.2.2) | exact absurd e9q7 (Nat.ne_of_lt c8q7.2.2.2.2.2) | exact absurd e9q7 (Nat.ne_of_lt c8q7.2.2.2.2.2.2) | exact absurd e9q7 (Nat.ne_of_lt c8q7.2.2.2.2.2.2.2) | exact absurd e9q7 (Nat.ne_of_lt c8q7.2.2.2.2.2.2.2.2) | exact absurd e9q7 (Nat.ne_of_lt c8q7.2.2.2.2.2.2.2.2.2) | exact absurd e9q7.symm (Nat.ne_of_lt c8q7.1) | exact absurd e9q7.symm (Nat.ne_of_lt c8q7.2.1) | exact absurd e9q7.symm (Nat.ne_of_lt c8q7.2.2.1) | exact absurd e9q7.symm (Nat.ne_of_lt c8q7.2.2.2.1) | exact absurd e9q7.symm (Nat.ne_of_lt c8q7.2.2.2.2.1) | exact absurd e9q7.symm (Nat.ne_of_lt c8q7.2.2.2.2.2.1) | exact absurd e9q7.symm (Nat.ne_of_lt c8q7.2.2.2.2.2.2.1) | exact absurd e9q7.symm (Nat.ne_of_lt c8q7.2.2.2.2.2.2.2.1) | exact absurd e9q7.symm (Nat.ne_of_lt c8q7.2.2.2.2.2.2.2.2.1) | exact absurd e9q7.symm (Nat.ne_of_lt c8q7.2) | exact absurd e9q7.symm (Nat.ne_of_lt c8q7.2.2) | exact absurd e9q7.symm (Nat.ne_of_lt c8q7.2.2.2) | exact absurd e9q7.symm (Nat.ne_of_lt c8q7.2.2.2.2) | exact absurd e9q7.symm (Nat.ne_of_lt c8q7.2.2.2.2.2) | exact absurd e9q7.symm (Nat.ne_of_lt c8q7.2.2.2.2.2.2) | exact absurd e9q7.symm (Nat.ne_of_lt c8q7.2.2.2.2.2.2.2) | exact absurd e9q7.symm (Nat.ne_of_lt c8q7.2.2.2.2.2.2.2.2) | exact absurd e9q7.symm (Nat.ne_of_lt c8q7.2.2.2.2.2.2.2.2.2))))
  k_with "x52" => (((repeat (rename And _ _ => c9q7; clear c9q7)); omega))
  k_with "x53" => ((k_here; (with_reducible show wpAny _ _ (eval (Expr.ListComp _ [PySem.Comprehension.mk _ _ [] _] _ _) _) _ _ _); k_dflt (refine lcU (by k_asm) (by with_unfolding_all rfl) (by decide) (by rfl) (by decide) (by rfl) ?_)))
  k_with "x54" => ((k_here; (with_reducible show wpAny _ _ (eval (Expr.ListComp _ [PySem.Comprehension.mk _ _ [_] _] _ _) _) _ _ _); k_dflt (refine lcT (by k_asm) (by with_unfolding_all rfl) (by decide) (by rfl) (by decide) (by rfl) ?_)))
  k_with "x55" => ((k_here; k_dflt (refine lcAU (by k_asm) (by rfl) (by with_unfolding_all rfl) (by with_unfolding_all rfl) (by decide) (by rfl) (by decide) (by rfl) (by rfl) (by rfl) ?_)))
  k_with "x56" => ((k_here; (with_reducible show wpAny _ _ (call (Value.ref 147) _) _ _ _); k_dflt (refine' pd_use (c_draw _ _ _ ?h1x56 ?h2x56) ?k1x56 ?k2x56 ?k3x56 ?k4x56 ?kKx56 ?k5x56 ?kdx56 ?kux56 ?m1x56 ?m2x56 ?pqx56 ?hIx56 ?hlx56 ?hxx56 ?hx2x56 ?hyx56 ?_; (case k1x56 => k_asm); (case k2x56 => k_asm); (case k3x56 => k_asm); (case k4x56 => k_asm); (case kKx56 => first | exact rfl | assumption); (case k5x56 => k_asm); (case kdx56 => ktr_room); (case kux56 => ktr_units); (case m1x56 => k_mem); (case m2x56 => k_mem); (case pqx56 => first | assumption | walk_at "a ne"); (case hIx56 => assumption); (case hlx56 => first | assumption | walk_at "a om"); (case hxx56 => first | assumption | walk_at "a om"); (case hx2x56 => first | assumption | walk_at "a om"); (case hyx56 => first | assumption | walk_at "a om"); (case h1x56 => walk_at "a om"); (case h2x56 => walk_at "a om")); (rintro r9q7 v9q7 x9q7 tx9q7 y9q7 ty9q7 h9q7 tk9q7 F9q7 N9q7 r1q7 r2q7 x1q7 x2q7 y1q7 ⟨t9q7, e9q7⟩); (subst e9q7); (simp only [List.map_cons, List.map_nil] at N9q7); (repeat (first | rw [if_pos trivial] at N9q7 | rw [if_pos rfl] at N9q7 | rw [if_neg (by walk_at "a ne")] at N9q7)); (try dsimp only)))
  k_with "x57" => ((k_here; (with_reducible show wpAny _ _ (call (Value.ref 154) _) _ _ _); k_dflt (k_extra "my pick")))
  k_with "x58" => ((k_here; (with_reducible refine gm_bjoin ?_)))
  k_with "x59" => ((k_here; k_dflt (refine ne_same (by with_unfolding_all rfl) ?_)))
  k_with "x60" => ((k_here; k_dflt (refine ne_same_b (by with_unfolding_all rfl) ?_)))
  k_with "x61" => (((show GoodW _ _ _ _ _ (.ok (.ret (.bool true))) _); (refine goodW_bool (by assumption) (by assumption) (raisesW_false ?nnx61) ?ppx61); (case nnx61 => wrow_none_raised); (case ppx61 => with_unfolding_all rfl)))
  k_with "x62" => ((intro i9q7 u9q7 I9q7 oI9q7 C9q7 oC9q7 D9q7 m9q7 ys9q7 h9q7 tk9q7 E9q7 hi9q7 hC9q7 hx9q7 F9q7 N9q7 off9q7 ne9q7; (have off9pq7 := off9q7); (simp only [LCg.Off3, and_true] at off9pq7); (try k_fold)))
  k_with "x63" => ((rename News _ _ _ _ => nEq7; exact LCg.CompEnd.intro (by assumption) nEq7 _ (by lcg_sub) (by assumption) (by first | trivial | k_mem) ⟨rfl, _, rfl⟩))
  k_steps
  rename News _ _ _ _ => lN
  rename Fr _ _ _ _ => lF
  rename IsRange _ _ _ _ _ _ _ _ => lR
  refine map_range (n := ps0.length + 1) (fun i v => ∃ u, v = .str (textOf (ps0.take i)) u) lF lN rfl lR (len_p1 hbl0) (lt_p1 hpl0) ?_ ?_
  case refine_1 =>
    clear lN lF lR
    k_with_none
    k_with "x1" => ((refine wpAny_call ?_; first   | (refine' code_defG (news := []) ?k1x1 ?k2x1 ?k3x1 News.nil ?k5x1 ?kAx1 ?kFx1 ?kKx1 ?k6x1 ?k7x1 ?k8x1 ?k9x1 ?kBx1 ?_ ?c2x1 ?c3x1 ?c4x1 ?c5x1; (case kAx1 => exact rfl); (case kFx1 => exact rfl); (case kKx1 => assumption); (case k1x1 => k_asm); (case k2x1 => k_asm); (case k3x1 => k_asm); (case k5x1 => k_asm); (case k6x1 => k_is); (case k7x1 => k_is); (case k8x1 => ktr_room); (case k9x1 => exact BindsTo.of_eq rfl); (case c5x1 => decide); (case kBx1 => exact locs rfl); (case c2x1 => exact rfl); (case c3x1 => exact rfl); (case c4x1 => exact rfl); k_whole; intro gpq7 Lpq7 hpq7 FGpq7 Fpq7 Npq7 Bpq7 Xpq7 Tpq7 kGpq7; (try dsimp only); (try k_fold))   | (refine' code_defGC (news := []) ?k1x1 ?k2x1 ?k3x1 News.nil ?k5x1 ?kAx1 ?kFx1 ?kKx1 ?k6x1 ?k7x1 ?k8x1 ?k9x1 ?kBx1 ?kDx1 ?_ ?c2x1 ?c3x1 ?c4x1; (case kAx1 => exact rfl); (case kFx1 => exact rfl); (case kKx1 => assumption); (case k1x1 => k_asm); (case k2x1 => k_asm); (case k3x1 => k_asm); (case k5x1 => k_asm); (case k6x1 => k_is); (case k7x1 => k_is); (case k8x1 => ktr_room); (case k9x1 => exact BindsTo.of_eq rfl); (case kBx1 => exact rfl); (case kDx1 => decide +kernel); (case c2x1 => exact rfl); (case c3x1 => exact rfl); (case c4x1 => exact rfl); k_whole; intro gpq7 Lpq7 hpq7 tkpq7 cellspq7 FGpq7 Fpq7 Npq7 Ypq7 Bpq7 Xpq7 Tpq7 l1q7 kGpq7; clear l1q7; k_cells Ypq7; (try simp only [List.cons_append, List.nil_append] at Npq7); (try dsimp only); (try k_fold))))
    k_with "calls" => (cell_ask (c_need_charset _ _ _ (by assumption)))
    k_with "calls" => (cell_ask (c_has_sign _ _ _ _ _ (by assumption)))
    k_with "calls" => (cell_ask (c_utf8_octets _ _ _ (by assumption)))
    k_with "calls" => (cell_ask (c_utf8_sign _ _ _ _ _ (by first | assumption | omega) (by first | assumption | omega) (by first | assumption | omega)))
    k_with "calls" => (cell_ask (c_sign_at' _ _ _ _ _ _ _ (by assumption) (by first | assumption | omega) (by first | assumption | omega) (by first | assumption | omega)))
    k_with "x15" => ((intro zq7 h2q7 h3q7; (simp only [List.forall_mem_cons, List.not_mem_nil, false_implies, implies_true, and_true, ne_eq] at h2q7); (simp only [List.contains_cons, List.contains_nil, Bool.or_false, Bool.or_eq_false_iff, beq_eq_false_iff_ne, ne_eq] at h3q7); simp [kstB, h2q7, h3q7]))
    k_with "calls" => (cell_ask (c_text_in _ _ _ _ _ (by assumption) (by assumption)))
    k_with "calls" => (cell_ask (c_strict_text _ _ _ _ _ (by assumption) (by assumption) (by assumption)))
    k_with "x18" => ((k_here; k_dflt (refine item_text (by first | assumption | omega) (by first | assumption | omega) (by first | assumption | omega) ?_)))
    k_with "x19" => ((k_here; k_dflt (refine len_text (by first | assumption | omega) ?_)))
    k_with "x20" => ((k_here; k_dflt (refine ord_one (by first | assumption | omega) ?_)))
    k_with "calls" => (cell_ask (c_has_sign_true _ _ _ _ _ (by assumption) (by assumption)))
    k_with "x22" => ((intro zq7 h1q7 h2q7 h3q7; (simp only [List.forall_mem_cons, List.not_mem_nil, false_implies, implies_true, and_true, ne_eq] at h2q7); (simp only [List.contains_cons, List.contains_nil, Bool.or_false, Bool.or_eq_false_iff, beq_eq_false_iff_ne, ne_eq] at h3q7); simp [kstB, h1q7, h2q7, h3q7]))
    k_with "calls" => (cell_ask (c_octets_in0 _ _ _ _ _ (by assumption) (by first | assumption | omega) (by assumption)))
    k_with "calls" => (cell_ask (c_best_charset _ _ _ (by first | assumption | omega) (by assumption)))
    k_with "x50" => ((k_dflt ((show ¬ @Eq Nat _ _); intro e9q7; (repeat (rename And _ _ => c9q7; obtain ⟨_, _⟩ := c9q7)); first | exact absurd e9q7 (by assumption) | exact absurd e9q7.symm (by assumption) | exact absurd e9q7 (Nat.ne_of_lt (by assumption)) | exact absurd e9q7.symm (Nat.ne_of_lt (by assumption)) | omega)))
    k_with "x51" => ((refine neN ?_; (try dsimp only); intro e9q7; (rename And _ _ => c9q7); first | exact absurd e9q7 c9q7.1 | exact absurd e9q7 c9q7.2.1 | exact absurd e9q7 c9q7.2.2.1 | exact absurd e9q7 c9q7.2.2.2.1 | exact absurd e9q7 c9q7.2.2.2.2.1 | exact absurd e9q7 c9q7.2.2.2.2.2.1 | exact absurd e9q7 c9q7.2.2.2.2.2.2.1 | exact absurd e9q7 c9q7.2.2.2.2.2.2.2.1 | exact absurd e9q7 c9q7.2.2.2.2.2.2.2.2.1 | exact absurd e9q7 c9q7.2 | exact absurd e9q7 c9q7.2.2 | exact absurd e9q7 c9q7.2.2.2 | exact absurd e9q7 c9q7.2.2.2.2 | exact absurd e9q7 c9q7.2.2.2.2.2 | exact absurd e9q7 c9q7.2.2.2.2.2.2 | exact absurd e9q7 c9q7.2.2.2.2.2.2.2 | exact absurd e9q7 c9q7.2.2.2.2.2.2.2.2 | exact absurd e9q7 c9q7.2.2.2.2.2.2.2.2.2 | exact absurd e9q7.symm c9q7.1 | exact absurd e9q7.symm c9q7.2.1 | exact absurd e9q7.symm c9q7.2.2.1 | exact absurd e9q7.symm c9q7.2.2.2.1 | exact absurd e9q7.symm c9q7.2.2.2.2.1 | exact absurd e9q7.symm c9q7.2.2.2.2.2.1 | exact absurd e9q7.symm c9q7.2.2.2.2.2.2.1 | exact absurd e9q7.symm c9q7.2.2.2.2.2.2.2.1 | exact absurd e9q7.symm c9q7.2.2.2.2.2.2.2.2.1 | exact absurd e9q7.symm c9q7.2 | exact absurd e9q7.symm c9q7.2.2 | exact absurd e9q7.symm c9q7.2.2.2 | exact absurd e9q7.symm c9q7.2.2.2.2 | exact absurd e9q7.symm c9q7.2.2.2.2.2 | exact absurd e9q7.symm c9q7.2.2.2.2.2.2 | exact absurd e9q7.symm c9q7.2.2.2.2.2.2.2 | exact absurd e9q7.symm c9q7.2.2.2.2.2.2.2.2 | exact absurd e9q7.symm c9q7.2.2.2.2.2.2.2.2.2 | exact absurd e9q7 (Nat.ne_of_lt c9q7.1) | exact absurd e9q7 (Nat.ne_of_lt c9q7.2.1) | exact absurd e9q7 (Nat.ne_of_lt c9q7.2.2.1) | exact absurd e9q7 (Nat.ne_of_lt c9q7.2.2.2.1) | exact absurd e9q7 (Nat.ne_of_lt c9q7.2.2.2.2.1) | exact absurd e9q7 (Nat.ne_of_lt c9q7.2.2.2.2.2.1) | exact absurd e9q7 (Nat.ne_of_lt c9q7.2.2.2.2.2.2.1) | exact absurd e9q7 (Nat.ne_of_lt c9q7.2.2.2.2.2.2.2.1) | exact absurd e9q7 (Nat.ne_of_lt c9q7.2.2.2.2.2.2.2.2.1) | exact absurd e9q7 (Nat.ne_of_lt c9q7.2) | exact absurd e9q7 (Nat.ne_of_lt c9q7.2.2) | exact absurd e9q7 (Nat.ne_of_lt c9q7.2.2.2) | exact absurd e9q7 (Nat.ne_of_lt c9q7.2.2.2.2) | exact absurd e9q7 (Nat.ne_of_lt c9q7.2.2.2.2.2) | exact absurd e9q7 (Nat.ne_of_lt c9q7.2.2.2.2.2.2) | exact absurd e9q7 (Nat.ne_of_lt c9q7.2.2.2.2.2.2.2) | exact absurd e9q7 (Nat.ne_of_lt c9q7.2.2.2.2.2.2.2.2) | exact absurd e9q7 (Nat.ne_of_lt c9q7.2.2.2.2.2.2.2.2.2) | exact absurd e9q7.symm (Nat.ne_of_lt c9q7.1) | exact absurd e9q7.symm (Nat.ne_of_lt c9q7.2.1) | exact absurd e9q7.symm (Nat.ne_of_lt c9q7.2.2.1) | exact absurd e9q7.symm (Nat.ne_of_lt c9q7.2.2.2.1) | exact absurd e9q7.symm (Nat.ne_of_lt c9q7.2.2.2.2.1) | exact absurd e9q7.symm (Nat.ne_of_lt c9q7.2.2.2.2.2.1) | exact absurd e9q7.symm (Nat.ne_of_lt c9q7.2.2.2.2.2.2.1) | exact absurd e9q7.symm (Nat.ne_of_lt c9q7.2.2.2.2.2.2.2.1) | exact absurd e9q7.symm (Nat.ne_of_lt c9q7.2.2.2.2.2.2.2.2.1) | exact absurd e9q7.symm (Nat.ne_of_lt c9q7.2) | exact absurd e9q7.symm (Nat.ne_of_lt c9q7.2.2) | exact absurd e9q7.symm (Nat.ne_of_lt c9q7.2.2.2) | exact absurd e9q7.symm (Nat.ne_of_lt c9q7.2.2.2.2) | exact absurd e9q7.symm (Nat.ne_of_lt c9q7.2.2.2.2.2) | exact absurd e9q7.symm (Nat.ne_of_lt c9q7.2.2.2.2.2.2) | exact absurd e9q7.symm (Nat.ne_of_lt c9q7.2.2.2.2.2.2.2) | exact absurd e9q7.symm (Nat.ne_of_lt c9q7.2.2.2.2.2.2.2.2) | exact absurd e9q7.symm (Nat.ne_of_lt c9q7.2.2.2.2.2.2.2.2.2) | (clear c9q7; (rename And _ _ => c8q7); first | exact absurd e9q7 c8q7.1 | exact absurd e9q7 c8q7.2.1 | exact absurd e9q7 c8q7.2.2.1 | exact absurd e9q7 c8q7.2.2.2.1 | exact absurd e9q7 c8q7.2.2.2.2.1 | exact absurd e9q7 c8q7.2.2.2.2.2.1 | exact absurd e9q7 c8q7.2.2.2.2.2.2.1 | exact absurd e9q7 c8q7.2.2.2.2.2.2.2.1 | exact absurd e9q7 c8q7.2.2.2.2.2.2.2.2.1 | exact absurd e9q7 c8q7.2 | exact absurd e9q7 c8q7.2.2 | exact absurd e9q7 c8q7.2.2.2 | exact absurd e9q7 c8q7.2.2.2.2 | exact absurd e9q7 c8q7.2.2.2.2.2 | exact absurd e9q7 c8q7.2.2.2.2.2.2 | exact absurd e9q7 c8q7.2.2.2.2.2.2.2 | exact absurd e9q7 c8q7.2.2.2.2.2.2.2.2 | exact absurd e9q7 c8q7.2.2.2.2.2.2.2.2.2 | exact absurd e9q7.symm c8q7.1 | exact absurd e9q7.symm c8q7.2.1 | exact absurd e9q7.symm c8q7.2.2.1 | exact absurd e9q7.symm c8q7.2.2.2.1 | exact absurd e9q7.symm c8q7.2.2.2.2.1 | exact absurd e9q7.symm c8q7.2.2.2.2.2.1 | exact absurd e9q7.symm c8q7.2.2.2.2.2.2.1 | exact absurd e9q7.symm c8q7.2.2.2.2.2.2.2.1 | exact absurd e9q7.symm c8q7.2.2.2.2.2.2.2.2.1 | exact absurd e9q7.symm c8q7.2 | exact absurd e9q7.symm c8q7.2.2 | exact absurd e9q7.symm c8q7.2.2.2 | exact absurd e9q7.symm c8q7.2.2.2.2 | exact absurd e9q7.symm c8q7.2.2.2.2.2 | exact absurd e9q7.symm c8q7.2.2.2.2.2.2 | exact absurd e9q7.symm c8q7.2.2.2.2.2.2.2 | exact absurd e9q7.symm c8q7.2.2.2.2.2.2.2.2 | exact absurd e9q7.symm c8q7.2.2.2.2.2.2.2.2.2 | exact absurd e9q7 (Nat.ne_of_lt c8q7.1) | exact absurd e9q7 (Nat.ne_of_lt c8q7.2.1) | exact absurd e9q7 (Nat.ne_of_lt c8q7.2.2.1) | exact absurd e9q7 (Nat.ne_of_lt c8q7.2.2.2.1) | exact absurd e9q7 (Nat.ne_of_lt c8q7.2.2.2.2.1) | exact absurd e9q7 (Nat.ne_of_lt c8q7.2.2.2.2.2.1) | exact absurd e9q7 (Nat.ne_of_lt c8q7.2.2.2.2.2.2.1) | exact absurd e9q7 (Nat.ne_of_lt c8q7.2.2.2.2.2.2.2.1) | exact absurd e9q7 (Nat.ne_of_lt c8q7.2.2.2.2.2.2.2.2.1) | exact absurd e9q7 (Nat.ne_of_lt c8q7.2) | exact absurd e9q7 (Nat.ne_of_lt c8q7.2.2) | exact absurd e9q7 (Nat.ne_of_lt c8q7.2.2.2) | exact absurd e9q7 (Nat.ne_of_lt c8q7.2.2.2.2) | exact absurd e9q7 (Nat.ne_of_lt c8q7.2.2.2.2.2) | exact absurd e9q7 (Nat.ne_of_lt c8q7.2.2.2.2.2.2) | exact absurd e9q7 (Nat.ne_of_lt c8q7.2.2.2.2.2.2.2) | exact absurd e9q7 (Nat.ne_of_lt c8q7.2.2.2.2.2.2.2.2) | exact absurd e9q7 (Nat.ne_of_lt c8q7.2.2.2.2.2.2.2.2.2) | exact absurd e9q7.symm (Nat.ne_of_lt c8q7.1) | exact absurd e9q7.symm (Nat.ne_of_lt c8q7.2.1) | exact absurd e9q7.symm (Nat.ne_of_lt c8q7.2.2.1) | exact absurd e9q7.symm (Nat.ne_of_lt c8q7.2.2.2.1) | exact absurd e9q7.symm (Nat.ne_of_lt c8q7.2.2.2.2.1) | exact absurd e9q7.symm (Nat.ne_of_lt c8q7.2.2.2.2.2.1) | exact absurd e9q7.symm (Nat.ne_of_lt c8q7.2.2.2.2.2.2.1) | exact absurd e9q7.symm (Nat.ne_of_lt c8q7.2.2.2.2.2.2.2.1) | exact absurd e9q7.symm (Nat.ne_of_lt c8q7.2.2.2.2.2.2.2.2.1) | exact absurd e9q7.symm (Nat.ne_of_lt c8q7.2) | exact absurd e9q7.symm (Nat.ne_of_lt c8q7.2.2) | exact absurd e9q7.symm (Nat.ne_of_lt c8q7.2.2.2) | exact absurd e9q7.symm (Nat.ne_of_lt c8q7.2.2.2.2) | exact absurd e9q7.symm (Nat.ne_of_lt c8q7.2.2.2.2.2) | exact absurd e9q7.symm (Nat.ne_of_lt c8q7.2.2.2.2.2.2) | exact absurd e9q7.symm (Nat.ne_of_lt c8q7.2.2.2.2.2.2.2) | exact absurd e9q7.symm (Nat.ne_of_lt c8q7.2.2.2.2.2.2.2.2) | exact absurd e9q7.symm (Nat.ne_of_lt c8q7.2.2.2.2.2.2.2.2.2))))
    k_with "x52" => (((repeat (rename And _ _ => c9q7; clear c9q7)); omega))
    k_with "x53" => ((k_here; (with_reducible show wpAny _ _ (eval (Expr.ListComp _ [PySem.Comprehension.mk _ _ [] _] _ _) _) _ _ _); k_dflt (refine lcU (by k_asm) (by with_unfolding_all rfl) (by decide) (by rfl) (by decide) (by rfl) ?_)))
    k_with "x54" => ((k_here; (with_reducible show wpAny _ _ (eval (Expr.ListComp _ [PySem.Comprehension.mk _ _ [_] _] _ _) _) _ _ _); k_dflt (refine lcT (by k_asm) (by with_unfolding_all rfl) (by decide) (by rfl) (by decide) (by rfl) ?_)))
    k_with "x55" => ((k_here; k_dflt (refine lcAU (by k_asm) (by rfl) (by with_unfolding_all rfl) (by with_unfolding_all rfl) (by decide) (by rfl) (by decide) (by rfl) (by rfl) (by rfl) ?_)))
    k_with "x56" => ((k_here; (with_reducible show wpAny _ _ (call (Value.ref 147) _) _ _ _); k_dflt (refine' pd_use (c_draw _ _ _ ?h1x56 ?h2x56) ?k1x56 ?k2x56 ?k3x56 ?k4x56 ?kKx56 ?k5x56 ?kdx56 ?kux56 ?m1x56 ?m2x56 ?pqx56 ?hIx56 ?hlx56 ?hxx56 ?hx2x56 ?hyx56 ?_; (case k1x56 => k_asm); (case k2x56 => k_asm); (case k3x56 => k_asm); (case k4x56 => k_asm); (case kKx56 => first | exact rfl | assumption); (case k5x56 => k_asm); (case kdx56 => ktr_room); (case kux56 => ktr_units); (case m1x56 => k_mem); (case m2x56 => k_mem); (case pqx56 => first | assumption | walk_at "a ne"); (case hIx56 => assumption); (case hlx56 => first | assumption | walk_at "a om"); (case hxx56 => first | assumption | walk_at "a om"); (case hx2x56 => first | assumption | walk_at "a om"); (case hyx56 => first | assumption | walk_at "a om"); (case h1x56 => walk_at "a om"); (case h2x56 => walk_at "a om")); (rintro r9q7 v9q7 x9q7 tx9q7 y9q7 ty9q7 h9q7 tk9q7 F9q7 N9q7 r1q7 r2q7 x1q7 x2q7 y1q7 ⟨t9q7, e9q7⟩); (subst e9q7); (simp only [List.map_cons, List.map_nil] at N9q7); (repeat (first | rw [if_pos trivial] at N9q7 | rw [if_pos rfl] at N9q7 | rw [if_neg (by walk_at "a ne")] at N9q7)); (try dsimp only)))
    k_with "x57" => ((k_here; (with_reducible show wpAny _ _ (call (Value.ref 154) _) _ _ _); k_dflt (k_extra "my pick")))
    k_with "x58" => ((k_here; (with_reducible refine gm_bjoin ?_)))
    k_with "x59" => ((k_here; k_dflt (refine ne_same (by with_unfolding_all rfl) ?_)))
    k_with "x60" => ((k_here; k_dflt (refine ne_same_b (by with_unfolding_all rfl) ?_)))
    k_with "x61" => (((show GoodW _ _ _ _ _ (.ok (.ret (.bool true))) _); (refine goodW_bool (by assumption) (by assumption) (raisesW_false ?nnx61) ?ppx61); (case nnx61 => wrow_none_raised); (case ppx61 => with_unfolding_all rfl)))
    k_with "x62" => ((intro i9q7 u9q7 I9q7 oI9q7 C9q7 oC9q7 D9q7 m9q7 ys9q7 h9q7 tk9q7 E9q7 hi9q7 hC9q7 hx9q7 F9q7 N9q7 off9q7 ne9q7; (have off9pq7 := off9q7); (simp only [LCg.Off3, and_true] at off9pq7); (try k_fold)))
    k_with "x63" => ((rename News _ _ _ _ => nEq7; exact LCg.CompEnd.intro (by assumption) nEq7 _ (by lcg_sub) (by assumption) (by first | trivial | k_mem) ⟨rfl, _, rfl⟩))
    k_with "my cend" =>
      (walk_at "turn out")
    k_with "my cut" =>
      (refine text_to_N (s := ⟨_, _, _, _, _⟩) (k := i9) (by k_asm) (by k_asm) (lt_1000 hpl0) (by rfl) (Nat.le_of_lt_succ hi9) ?_)
      (intro h9s t9s j9s F9s N9s)
      (try dsimp only)
    intro i9 u9 I9 oI9 C9 oC9 D9 m9 ys9 h9 tk9 E9 hi9 hC9 hx9 F9 N9 off9 ne9
    have off9' := off9
    simp only [LCg.Off3, and_true] at off9'
    try k_fold
    k_steps
  intro gD0 ysD0 hysD0
  replace hysD0 := hysD0.strs
  have hok0 : ∀ x ∈ (List.range (ps0.length + 1)).map fun i => textOf (ps0.take i), PyData.strOk x = true := fun x hx => by
    obtain ⟨i, _, rfl⟩ := List.mem_map.mp hx
    exact textOf_ok fun c hc => (hpA0 c (List.mem_of_mem_take hc)).2
  clear lN lF lR
  k_with_none
  k_with "x1" => ((refine wpAny_call ?_; first   | (refine' code_defG (news := []) ?k1x1 ?k2x1 ?k3x1 News.nil ?k5x1 ?kAx1 ?kFx1 ?kKx1 ?k6x1 ?k7x1 ?k8x1 ?k9x1 ?kBx1 ?_ ?c2x1 ?c3x1 ?c4x1 ?c5x1; (case kAx1 => exact rfl); (case kFx1 => exact rfl); (case kKx1 => assumption); (case k1x1 => k_asm); (case k2x1 => k_asm); (case k3x1 => k_asm); (case k5x1 => k_asm); (case k6x1 => k_is); (case k7x1 => k_is); (case k8x1 => ktr_room); (case k9x1 => exact BindsTo.of_eq rfl); (case c5x1 => decide); (case kBx1 => exact locs rfl); (case c2x1 => exact rfl); (case c3x1 => exact rfl); (case c4x1 => exact rfl); k_whole; intro gpq7 Lpq7 hpq7 FGpq7 Fpq7 Npq7 Bpq7 Xpq7 Tpq7 kGpq7; (try dsimp only); (try k_fold))   | (refine' code_defGC (news := []) ?k1x1 ?k2x1 ?k3x1 News.nil ?k5x1 ?kAx1 ?kFx1 ?kKx1 ?k6x1 ?k7x1 ?k8x1 ?k9x1 ?kBx1 ?kDx1 ?_ ?c2x1 ?c3x1 ?c4x1; (case kAx1 => exact rfl); (case kFx1 => exact rfl); (case kKx1 => assumption); (case k1x1 => k_asm); (case k2x1 => k_asm); (case k3x1 => k_asm); (case k5x1 => k_asm); (case k6x1 => k_is); (case k7x1 => k_is); (case k8x1 => ktr_room); (case k9x1 => exact BindsTo.of_eq rfl); (case kBx1 => exact rfl); (case kDx1 => decide +kernel); (case c2x1 => exact rfl); (case c3x1 => exact rfl); (case c4x1 => exact rfl); k_whole; intro gpq7 Lpq7 hpq7 tkpq7 cellspq7 FGpq7 Fpq7 Npq7 Ypq7 Bpq7 Xpq7 Tpq7 l1q7 kGpq7; clear l1q7; k_cells Ypq7; (try simp only [List.cons_append, List.nil_append] at Npq7); (try dsimp only); (try k_fold))))
  k_with "calls" => (cell_ask (c_need_charset _ _ _ (by assumption)))
  k_with "calls" => (cell_ask (c_has_sign _ _ _ _ _ (by assumption)))
  k_with "calls" => (cell_ask (c_utf8_octets _ _ _ (by assumption)))
  k_with "calls" => (cell_ask (c_utf8_sign _ _ _ _ _ (by first | assumption | omega) (by first | assumption | omega) (by first | assumption | omega)))
  k_with "calls" => (cell_ask (c_sign_at' _ _ _ _ _ _ _ (by assumption) (by first | assumption | omega) (by first | assumption | omega) (by first | assumption | omega)))
  k_with "x15" => ((intro zq7 h2q7 h3q7; (simp only [List.forall_mem_cons, List.not_mem_nil, false_implies, implies_true, and_true, ne_eq] at h2q7); (simp only [List.contains_cons, List.contains_nil, Bool.or_false, Bool.or_eq_false_iff, beq_eq_false_iff_ne, ne_eq] at h3q7); simp [kstB, h2q7, h3q7]))
  k_with "calls" => (cell_ask (c_text_in _ _ _ _ _ (by assumption) (by assumption)))
  k_with "calls" => (cell_ask (c_strict_text _ _ _ _ _ (by assumption) (by assumption) (by assumption)))
  k_with "x18" => ((k_here; k_dflt (refine item_text (by first | assumption | omega) (by first | assumption | omega) (by first | assumption | omega) ?_)))
  k_with "x19" => ((k_here; k_dflt (refine len_text (by first | assumption | omega) ?_)))
  k_with "x20" => ((k_here; k_dflt (refine ord_one (by first | assumption | omega) ?_)))
  k_with "calls" => (cell_ask (c_has_sign_true _ _ _ _ _ (by assumption) (by assumption)))
  k_with "x22" => ((intro zq7 h1q7 h2q7 h3q7; (simp only [List.forall_mem_cons, List.not_mem_nil, false_implies, implies_true, and_true, ne_eq] at h2q7); (simp only [List.contains_cons, List.contains_nil, Bool.or_false, Bool.or_eq_false_iff, beq_eq_false_iff_ne, ne_eq] at h3q7); simp [kstB, h1q7, h2q7, h3q7]))
  k_with "calls" => (cell_ask (c_octets_in0 _ _ _ _ _ (by assumption) (by first | assumption | omega) (by assumption)))
  k_with "calls" => (cell_ask (c_best_charset _ _ _ (by first | assumption | omega) (by assumption)))
  k_with "x50" => ((k_dflt ((show ¬ @Eq Nat _ _); intro e9q7; (repeat (rename And _ _ => c9q7; obtain ⟨_, _⟩ := c9q7)); first | exact absurd e9q7 (by assumption) | exact absurd e9q7.symm (by assumption) | exact absurd e9q7 (Nat.ne_of_lt (by assumption)) | exact absurd e9q7.symm (Nat.ne_of_lt (by assumption)) | omega)))
  k_with "x51" => ((refine neN ?_; (try dsimp only); intro e9q7; (rename And _ _ => c9q7); first | exact absurd e9q7 c9q7.1 | exact absurd e9q7 c9q7.2.1 | exact absurd e9q7 c9q7.2.2.1 | exact absurd e9q7 c9q7.2.2.2.1 | exact absurd e9q7 c9q7.2.2.2.2.1 | exact absurd e9q7 c9q7.2.2.2.2.2.1 | exact absurd e9q7 c9q7.2.2.2.2.2.2.1 | exact absurd e9q7 c9q7.2.2.2.2.2.2.2.1 | exact absurd e9q7 c9q7.2.2.2.2.2.2.2.2.1 | exact absurd e9q7 c9q7.2 | exact absurd e9q7 c9q7.2.2 | exact absurd e9q7 c9q7.2.2.2 | exact absurd e9q7 c9q7.2.2.2.2 | exact absurd e9q7 c9q7.2.2.2.2.2 | exact absurd e9q7 c9q7.2.2.2.2.2.2 | exact absurd e9q7 c9q7.2.2.2.2.2.2.2 | exact absurd e9q7 c9q7.2.2.2.2.2.2.2.2 | exact absurd e9q7 c9q7.2.2.2.2.2.2.2.2.2 | exact absurd e9q7.symm c9q7.1 | exact absurd e9q7.symm c9q7.2.1 | exact absurd e9q7.symm c9q7.2.2.1 | exact absurd e9q7.symm c9q7.2.2.2.1 | exact absurd e9q7.symm c9q7.2.2.2.2.1 | exact absurd e9q7.symm c9q7.2.2.2.2.2.1 | exact absurd e9q7.symm c9q7.2.2.2.2.2.2.1 | exact absurd e9q7.symm c9q7.2.2.2.2.2.2.2.1 | exact absurd e9q7.symm c9q7.2.2.2.2.2.2.2.2.1 | exact absurd e9q7.symm c9q7.2 | exact absurd e9q7.symm c9q7.2.2 | exact absurd e9q7.symm c9q7.2.2.2 | exact absurd e9q7.symm c9q7.2.2.2.2 | exact absurd e9q7.symm c9q7.2.2.2.2.2 | exact absurd e9q7.symm c9q7.2.2.2.2.2.2 | exact absurd e9q7.symm c9q7.2.2.2.2.2.2.2 | exact absurd e9q7.symm c9q7.2.2.2.2.2.2.2.2 | exact absurd e9q7.symm c9q7.2.2.2.2.2.2.2.2.2 | exact absurd e9q7 (Nat.ne_of_lt c9q7.1) | exact absurd e9q7 (Nat.ne_of_lt c9q7.2.1) | exact absurd e9q7 (Nat.ne_of_lt c9q7.2.2.1) | exact absurd e9q7 (Nat.ne_of_lt c9q7.2.2.2.1) | exact absurd e9q7 (Nat.ne_of_lt c9q7.2.2.2.2.1) | exact absurd e9q7 (Nat.ne_of_lt c9q7.2.2.2.2.2.1) | exact absurd e9q7 (Nat.ne_of_lt c9q7.2.2.2.2.2.2.1) | exact absurd e9q7 (Nat.ne_of_lt c9q7.2.2.2.2.2.2.2.1) | exact absurd e9q7 (Nat.ne_of_lt c9q7.2.2.2.2.2.2.2.2.1) | exact absurd e9q7 (Nat.ne_of_lt c9q7.2) | exact absurd e9q7 (Nat.ne_of_lt c9q7.2.2) | exact absurd e9q7 (Nat.ne_of_lt c9q7.2.2.2) | exact absurd e9q7 (Nat.ne_of_lt c9q7.2.2.2.2) | exact absurd e9q7 (Nat.ne_of_lt c9q7.2.2.2.2.2) | exact absurd e9q7 (Nat.ne_of_lt c9q7.2.2.2.2.2.2) | exact absurd e9q7 (Nat.ne_of_lt c9q7.2.2.2.2.2.2.2) | exact absurd e9q7 (Nat.ne_of_lt c9q7.2.2.2.2.2.2.2.2) | exact absurd e9q7 (Nat.ne_of_lt c9q7.2.2.2.2.2.2.2.2.2) | exact absurd e9q7.symm (Nat.ne_of_lt c9q7.1) | exact absurd e9q7.symm (Nat.ne_of_lt c9q7.2.1) | exact absurd e9q7.symm (Nat.ne_of_lt c9q7.2.2.1) | exact absurd e9q7.symm (Nat.ne_of_lt c9q7.2.2.2.1) | exact absurd e9q7.symm (Nat.ne_of_lt c9q7.2.2.2.2.1) | exact absurd e9q7.symm (Nat.ne_of_lt c9q7.2.2.2.2.2.1) | exact absurd e9q7.symm (Nat.ne_of_lt c9q7.2.2.2.2.2.2.1) | exact absurd e9q7.symm (Nat.ne_of_lt c9q7.2.2.2.2.2.2.2.1) | exact absurd e9q7.symm (Nat.ne_of_lt c9q7.2.2.2.2.2.2.2.2.1) | exact absurd e9q7.symm (Nat.ne_of_lt c9q7.2) | exact absurd e9q7.symm (Nat.ne_of_lt c9q7.2.2) | exact absurd e9q7.symm (Nat.ne_of_lt c9q7.2.2.2) | exact absurd e9q7.symm (Nat.ne_of_lt c9q7.2.2.2.2) | exact absurd e9q7.symm (Nat.ne_of_lt c9q7.2.2.2.2.2) | exact absurd e9q7.symm (Nat.ne_of_lt c9q7.2.2.2.2.2.2) | exact absurd e9q7.symm (Nat.ne_of_lt c9q7.2.2.2.2.2.2.2) | exact absurd e9q7.symm (Nat.ne_of_lt c9q7.2.2.2.2.2.2.2.2) | exact absurd e9q7.symm (Nat.ne_of_lt c9q7.2.2.2.2.2.2.2.2.2) | (clear c9q7; (rename And _ _ => c8q7); first | exact absurd e9q7 c8q7.1 | exact absurd e9q7 c8q7.2.1 | exact absurd e9q7 c8q7.2.2.1 | exact absurd e9q7 c8q7.2.2.2.1 | exact absurd e9q7 c8q7.2.2.2.2.1 | exact absurd e9q7 c8q7.2.2.2.2.2.1 | exact absurd e9q7 c8q7.2.2.2.2.2.2.1 | exact absurd e9q7 c8q7.2.2.2.2.2.2.2.1 | exact absurd e9q7 c8q7.2.2.2.2.2.2.2.2.1 | exact absurd e9q7 c8q7.2 | exact absurd e9q7 c8q7.2.2 | exact absurd e9q7 c8q7.2.2.2 | exact absurd e9q7 c8q7.2.2.2.2 | exact absurd e9q7 c8q7.2.2.2.2.2 | exact absurd e9q7 c8q7.2.2.2.2.2.2 | exact absurd e9q7 c8q7.2.2.2.2.2.2.2 | exact absurd e9q7 c8q7.2.2.2.2.2.2.2.2 | exact absurd e9q7 c8q7.2.2.2.2.2.2.2.2.2 | exact absurd e9q7.symm c8q7.1 | exact absurd e9q7.symm c8q7.2.1 | exact absurd e9q7.symm c8q7.2.2.1 | exact absurd e9q7.symm c8q7.2.2.2.1 | exact absurd e9q7.symm c8q7.2.2.2.2.1 | exact absurd e9q7.symm c8q7.2.2.2.2.2.1 | exact absurd e9q7.symm c8q7.2.2.2.2.2.2.1 | exact absurd e9q7.symm c8q7.2.2.2.2.2.2.2.1 | exact absurd e9q7.symm c8q7.2.2.2.2.2.2.2.2.1 | exact absurd e9q7.symm c8q7.2 | exact absurd e9q7.symm c8q7.2.2 | exact absurd e9q7.symm c8q7.2.2.2 | exact absurd e9q7.symm c8q7.2.2.2.2 | exact absurd e9q7.symm c8q7.2.2.2.2.2 | exact absurd e9q7.symm c8q7.2.2.2.2.2.2 | exact absurd e9q7.symm c8q7.2.2.2.2.2.2.2 | exact absurd e9q7.symm c8q7.2.2.2.2.2.2.2.2 | exact absurd e9q7.symm c8q7.2.2.2.2.2.2.2.2.2 | exact absurd e9q7 (Nat.ne_of_lt c8q7.1) | exact absurd e9q7 (Nat.ne_of_lt c8q7.2.1) | exact absurd e9q7 (Nat.ne_of_lt c8q7.2.2.1) | exact absurd e9q7 (Nat.ne_of_lt c8q7.2.2.2.1) | exact absurd e9q7 (Nat.ne_of_lt c8q7.2.2.2.2.1) | exact absurd e9q7 (Nat.ne_of_lt c8q7.2.2.2.2.2.1) | exact absurd e9q7 (Nat.ne_of_lt c8q7.2.2.2.2.2.2.1) | exact absurd e9q7 (Nat.ne_of_lt c8q7.2.2.2.2.2.2.2.1) | exact absurd e9q7 (Nat.ne_of_lt c8q7.2.2.2.2.2.2.2.2.1) | exact absurd e9q7 (Nat.ne_of_lt c8q7.2) | exact absurd e9q7 (Nat.ne_of_lt c8q7.2.2) | exact absurd e9q7 (Nat.ne_of_lt c8q7.2.2.2) | exact absurd e9q7 (Nat.ne_of_lt c8q7.2.2.2.2) | exact absurd e9q7 (Nat.ne_of_lt c8q7.2.2.2.2.2) | exact absurd e9q7 (Nat.ne_of_lt c8q7.2.2.2.2.2.2) | exact absurd e9q7 (Nat.ne_of_lt c8q7.2.2.2.2.2.2.2) | exact absurd e9q7 (Nat.ne_of_lt c8q7.2.2.2.2.2.2.2.2) | exact absurd e9q7 (Nat.ne_of_lt c8q7.2.2.2.2.2.2.2.2.2) | exact absurd e9q7.symm (Nat.ne_of_lt c8q7.1) | exact absurd e9q7.symm (Nat.ne_of_lt c8q7.2.1) | exact absurd e9q7.symm (Nat.ne_of_lt c8q7.2.2.1) | exact absurd e9q7.symm (Nat.ne_of_lt c8q7.2.2.2.1) | exact absurd e9q7.symm (Nat.ne_of_lt c8q7.2.2.2.2.1) | exact absurd e9q7.symm (Nat.ne_of_lt c8q7.2.2.2.2.2.1) | exact absurd e9q7.symm (Nat.ne_of_lt c8q7.2.2.2.2.2.2.1) | exact absurd e9q7.symm (Nat.ne_of_lt c8q7.2.2.2.2.2.2.2.1) | exact absurd e9q7.symm (Nat.ne_of_lt c8q7.2.2.2.2.2.2.2.2.1) | exact absurd e9q7.symm (Nat.ne_of_lt c8q7.2) | exact absurd e9q7.symm (Nat.ne_of_lt c8q7.2.2) | exact absurd e9q7.symm (Nat.ne_of_lt c8q7.2.2.2) | exact absurd e9q7.symm (Nat.ne_of_lt c8q7.2.2.2.2) | exact absurd e9q7.symm (Nat.ne_of_lt c8q7.2.2.2.2.2) | exact absurd e9q7.symm (Nat.ne_of_lt c8q7.2.2.2.2.2.2) | exact absurd e9q7.symm (Nat.ne_of_lt c8q7.2.2.2.2.2.2.2) | exact absurd e9q7.symm (Nat.ne_of_lt c8q7.2.2.2.2.2.2.2.2) | exact absurd e9q7.symm (Nat.ne_of_lt c8q7.2.2.2.2.2.2.2.2.2))))
  k_with "x52" => (((repeat (rename And _ _ => c9q7; clear c9q7)); omega))
  k_with "x53" => ((k_here; (with_reducible show wpAny _ _ (eval (Expr.ListComp _ [PySem.Comprehension.mk _ _ [] _] _ _) _) _ _ _); k_dflt (refine lcU (by k_asm) (by with_unfolding_all rfl) (by decide) (by rfl) (by decide) (by rfl) ?_)))
  k_with "x54" => ((k_here; (with_reducible show wpAny _ _ (eval (Expr.ListComp _ [PySem.Comprehension.mk _ _ [_] _] _ _) _) _ _ _); k_dflt (refine lcT (by k_asm) (by with_unfolding_all rfl) (by decide) (by rfl) (by decide) (by rfl) ?_)))
  k_with "x55" => ((k_here; k_dflt (refine lcAU (by k_asm) (by rfl) (by with_unfolding_all rfl) (by with_unfolding_all rfl) (by decide) (by rfl) (by decide) (by rfl) (by rfl) (by rfl) ?_)))
  k_with "x56" => ((k_here; (with_reducible show wpAny _ _ (call (Value.ref 147) _) _ _ _); k_dflt (refine' pd_use (c_draw _ _ _ ?h1x56 ?h2x56) ?k1x56 ?k2x56 ?k3x56 ?k4x56 ?kKx56 ?k5x56 ?kdx56 ?kux56 ?m1x56 ?m2x56 ?pqx56 ?hIx56 ?hlx56 ?hxx56 ?hx2x56 ?hyx56 ?_; (case k1x56 => k_asm); (case k2x56 => k_asm); (case k3x56 => k_asm); (case k4x56 => k_asm); (case kKx56 => first | exact rfl | assumption); (case k5x56 => k_asm); (case kdx56 => ktr_room); (case kux56 => ktr_units); (case m1x56 => k_mem); (case m2x56 => k_mem); (case pqx56 => first | assumption | walk_at "a ne"); (case hIx56 => assumption); (case hlx56 => first | assumption | walk_at "a om"); (case hxx56 => first | assumption | walk_at "a om"); (case hx2x56 => first | assumption | walk_at "a om"); (case hyx56 => first | assumption | walk_at "a om"); (case h1x56 => walk_at "a om"); (case h2x56 => walk_at "a om")); (rintro r9q7 v9q7 x9q7 tx9q7 y9q7 ty9q7 h9q7 tk9q7 F9q7 N9q7 r1q7 r2q7 x1q7 x2q7 y1q7 ⟨t9q7, e9q7⟩); (subst e9q7); (simp only [List.map_cons, List.map_nil] at N9q7); (repeat (first | rw [if_pos trivial] at N9q7 | rw [if_pos rfl] at N9q7 | rw [if_neg (by walk_at "a ne")] at N9q7)); (try dsimp only)))
  k_with "x57" => ((k_here; (with_reducible show wpAny _ _ (call (Value.ref 154) _) _ _ _); k_dflt (k_extra "my pick")))
  k_with "x58" => ((k_here; (with_reducible refine gm_bjoin ?_)))
  k_with "x59" => ((k_here; k_dflt (refine ne_same (by with_unfolding_all rfl) ?_)))
  k_with "x60" => ((k_here; k_dflt (refine ne_same_b (by with_unfolding_all rfl) ?_)))
  k_with "x61" => (((show GoodW _ _ _ _ _ (.ok (.ret (.bool true))) _); (refine goodW_bool (by assumption) (by assumption) (raisesW_false ?nnx61) ?ppx61); (case nnx61 => wrow_none_raised); (case ppx61 => with_unfolding_all rfl)))
  k_with "x62" => ((intro i9q7 u9q7 I9q7 oI9q7 C9q7 oC9q7 D9q7 m9q7 ys9q7 h9q7 tk9q7 E9q7 hi9q7 hC9q7 hx9q7 F9q7 N9q7 off9q7 ne9q7; (have off9pq7 := off9q7); (simp only [LCg.Off3, and_true] at off9pq7); (try k_fold)))
  k_with "x63" => ((rename News _ _ _ _ => nEq7; exact LCg.CompEnd.intro (by assumption) nEq7 _ (by lcg_sub) (by assumption) (by first | trivial | k_mem) ⟨rfl, _, rfl⟩))
  k_with "my ne" =>
    (refine st_ne (News.isList (by k_asm) (by k_mem)) (News.isList (by k_asm) (by k_mem)) hysC0 hysD0 hok0 hok0 (by ke_room) ?_)
    (rw [decide_eq_true rfl, Bool.not_true])
  k_steps
  rename News _ _ _ _ => lN
  rename Fr _ _ _ _ => lF
  replace lN := news_erase 1 lN
  simp only [List.eraseIdx_cons_succ, List.eraseIdx_cons_zero] at lN
  replace lN := news_erase 1 lN
  simp only [List.eraseIdx_cons_succ, List.eraseIdx_cons_zero] at lN
  have isX1 : IsCs (Str.ofString "iso-8859-1") := isCs_L
  refine str_srcT (fun c => decide (c ≤ 255)) lF lN rfl (lt_100 hc8) ?_ ?_
  case refine_1 =>
    clear lN lF
    k_with_none
    k_with "x1" => ((refine wpAny_call ?_; first   | (refine' code_defG (news := []) ?k1x1 ?k2x1 ?k3x1 News.nil ?k5x1 ?kAx1 ?kFx1 ?kKx1 ?k6x1 ?k7x1 ?k8x1 ?k9x1 ?kBx1 ?_ ?c2x1 ?c3x1 ?c4x1 ?c5x1; (case kAx1 => exact rfl); (case kFx1 => exact rfl); (case kKx1 => assumption); (case k1x1 => k_asm); (case k2x1 => k_asm); (case k3x1 => k_asm); (case k5x1 => k_asm); (case k6x1 => k_is); (case k7x1 => k_is); (case k8x1 => ktr_room); (case k9x1 => exact BindsTo.of_eq rfl); (case c5x1 => decide); (case kBx1 => exact locs rfl); (case c2x1 => exact rfl); (case c3x1 => exact rfl); (case c4x1 => exact rfl); k_whole; intro gpq7 Lpq7 hpq7 FGpq7 Fpq7 Npq7 Bpq7 Xpq7 Tpq7 kGpq7; (try dsimp only); (try k_fold))   | (refine' code_defGC (news := []) ?k1x1 ?k2x1 ?k3x1 News.nil ?k5x1 ?kAx1 ?kFx1 ?kKx1 ?k6x1 ?k7x1 ?k8x1 ?k9x1 ?kBx1 ?kDx1 ?_ ?c2x1 ?c3x1 ?c4x1; (case kAx1 => exact rfl); (case kFx1 => exact rfl); (case kKx1 => assumption); (case k1x1 => k_asm); (case k2x1 => k_asm); (case k3x1 => k_asm); (case k5x1 => k_asm); (case k6x1 => k_is); (case k7x1 => k_is); (case k8x1 => ktr_room); (case k9x1 => exact BindsTo.of_eq rfl); (case kBx1 => exact rfl); (case kDx1 => decide +kernel); (case c2x1 => exact rfl); (case c3x1 => exact rfl); (case c4x1 => exact rfl); k_whole; intro gpq7 Lpq7 hpq7 tkpq7 cellspq7 FGpq7 Fpq7 Npq7 Ypq7 Bpq7 Xpq7 Tpq7 l1q7 kGpq7; clear l1q7; k_cells Ypq7; (try simp only [List.cons_append, List.nil_append] at Npq7); (try dsimp only); (try k_fold))))
    k_with "calls" => (cell_ask (c_need_charset _ _ _ (by assumption)))
    k_with "calls" => (cell_ask (c_has_sign _ _ _ _ _ (by assumption)))
    k_with "calls" => (cell_ask (c_utf8_octets _ _ _ (by assumption)))
    k_with "calls" => (cell_ask (c_utf8_sign _ _ _ _ _ (by first | assumption | omega) (by first | assumption | omega) (by first | assumption | omega)))
    k_with "calls" => (cell_ask (c_sign_at' _ _ _ _ _ _ _ (by assumption) (by first | assumption | omega) (by first | assumption | omega) (by first | assumption | omega)))
    k_with "x15" => ((intro zq7 h2q7 h3q7; (simp only [List.forall_mem_cons, List.not_mem_nil, false_implies, implies_true, and_true, ne_eq] at h2q7); (simp only [List.contains_cons, List.contains_nil, Bool.or_false, Bool.or_eq_false_iff, beq_eq_false_iff_ne, ne_eq] at h3q7); simp [kstB, h2q7, h3q7]))
    k_with "calls" => (cell_ask (c_text_in _ _ _ _ _ (by assumption) (by assumption)))
    k_with "calls" => (cell_ask (c_strict_text _ _ _ _ _ (by assumption) (by assumption) (by assumption)))
    k_with "x18" => ((k_here; k_dflt (refine item_text (by first | assumption | omega) (by first | assumption | omega) (by first | assumption | omega) ?_)))
    k_with "x19" => ((k_here; k_dflt (refine len_text (by first | assumption | omega) ?_)))
    k_with "x20" => ((k_here; k_dflt (refine ord_one (by first | assumption | omega) ?_)))
    k_with "calls" => (cell_ask (c_has_sign_true _ _ _ _ _ (by assumption) (by assumption)))
    k_with "x22" => ((intro zq7 h1q7 h2q7 h3q7; (simp only [List.forall_mem_cons, List.not_mem_nil, false_implies, implies_true, and_true, ne_eq] at h2q7); (simp only [List.contains_cons, List.contains_nil, Bool.or_false, Bool.or_eq_false_iff, beq_eq_false_iff_ne, ne_eq] at h3q7); simp [kstB, h1q7, h2q7, h3q7]))
    k_with "calls" => (cell_ask (c_octets_in0 _ _ _ _ _ (by assumption) (by first | assumption | omega) (by assumption)))
    k_with "calls" => (cell_ask (c_best_charset _ _ _ (by first | assumption | omega) (by assumption)))
    k_with "x50" => ((k_dflt ((show ¬ @Eq Nat _ _); intro e9q7; (repeat (rename And _ _ => c9q7; obtain ⟨_, _⟩ := c9q7)); first | exact absurd e9q7 (by assumption) | exact absurd e9q7.symm (by assumption) | exact absurd e9q7 (Nat.ne_of_lt (by assumption)) | exact absurd e9q7.symm (Nat.ne_of_lt (by assumption)) | omega)))
    k_with "x51" => ((refine neN ?_; (try dsimp only); intro e9q7; (rename And _ _ => c9q7); first | exact absurd e9q7 c9q7.1 | exact absurd e9q7 c9q7.2.1 | exact absurd e9q7 c9q7.2.2.1 | exact absurd e9q7 c9q7.2.2.2.1 | exact absurd e9q7 c9q7.2.2.2.2.1 | exact absurd e9q7 c9q7.2.2.2.2.2.1 | exact absurd e9q7 c9q7.2.2.2.2.2.2.1 | exact absurd e9q7 c9q7.2.2.2.2.2.2.2.1 | exact absurd e9q7 c9q7.2.2.2.2.2.2.2.2.1 | exact absurd e9q7 c9q7.2 | exact absurd e9q7 c9q7.2.2 | exact absurd e9q7 c9q7.2.2.2 | exact absurd e9q7 c9q7.2.2.2.2 | exact absurd e9q7 c9q7.2.2.2.2.2 | exact absurd e9q7 c9q7.2.2.2.2.2.2 | exact absurd e9q7 c9q7.2.2.2.2.2.2.2 | exact absurd e9q7 c9q7.2.2.2.2.2.2.2.2 | exact absurd e9q7 c9q7.2.2.2.2.2.2.2.2.2 | exact absurd e9q7.symm c9q7.1 | exact absurd e9q7.symm c9q7.2.1 | exact absurd e9q7.symm c9q7.2.2.1 | exact absurd e9q7.symm c9q7.2.2.2.1 | exact absurd e9q7.symm c9q7.2.2.2.2.1 | exact absurd e9q7.symm c9q7.2.2.2.2.2.1 | exact absurd e9q7.symm c9q7.2.2.2.2.2.2.1 | exact absurd e9q7.symm c9q7.2.2.2.2.2.2.2.1 | exact absurd e9q7.symm c9q7.2.2.2.2.2.2.2.2.1 | exact absurd e9q7.symm c9q7.2 | exact absurd e9q7.symm c9q7.2.2 | exact absurd e9q7.symm c9q7.2.2.2 | exact absurd e9q7.symm c9q7.2.2.2.2 | exact absurd e9q7.symm c9q7.2.2.2.2.2 | exact absurd e9q7.symm c9q7.2.2.2.2.2.2 | exact absurd e9q7.symm c9q7.2.2.2.2.2.2.2 | exact absurd e9q7.symm c9q7.2.2.2.2.2.2.2.2 | exact absurd e9q7.symm c9q7.2.2.2.2.2.2.2.2.2 | exact absurd e9q7 (Nat.ne_of_lt c9q7.1) | exact absurd e9q7 (Nat.ne_of_lt c9q7.2.1) | exact absurd e9q7 (Nat.ne_of_lt c9q7.2.2.1) | exact absurd e9q7 (Nat.ne_of_lt c9q7.2.2.2.1) | exact absurd e9q7 (Nat.ne_of_lt c9q7.2.2.2.2.1) | exact absurd e9q7 (Nat.ne_of_lt c9q7.2.2.2.2.2.1) | exact absurd e9q7 (Nat.ne_of_lt c9q7.2.2.2.2.2.2.1) | exact absurd e9q7 (Nat.ne_of_lt c9q7.2.2.2.2.2.2.2.1) | exact absurd e9q7 (Nat.ne_of_lt c9q7.2.2.2.2.2.2.2.2.1) | exact absurd e9q7 (Nat.ne_of_lt c9q7.2) | exact absurd e9q7 (Nat.ne_of_lt c9q7.2.2) | exact absurd e9q7 (Nat.ne_of_lt c9q7.2.2.2) | exact absurd e9q7 (Nat.ne_of_lt c9q7.2.2.2.2) | exact absurd e9q7 (Nat.ne_of_lt c9q7.2.2.2.2.2) | exact absurd e9q7 (Nat.ne_of_lt c9q7.2.2.2.2.2.2) | exact absurd e9q7 (Nat.ne_of_lt c9q7.2.2.2.2.2.2.2) | exact absurd e9q7 (Nat.ne_of_lt c9q7.2.2.2.2.2.2.2.2) | exact absurd e9q7 (Nat.ne_of_lt c9q7.2.2.2.2.2.2.2.2.2) | exact absurd e9q7.symm (Nat.ne_of_lt c9q7.1) | exact absurd e9q7.symm (Nat.ne_of_lt c9q7.2.1) | exact absurd e9q7.symm (Nat.ne_of_lt c9q7.2.2.1) | exact absurd e9q7.symm (Nat.ne_of_lt c9q7.2.2.2.1) | exact absurd e9q7.symm (Nat.ne_of_lt c9q7.2.2.2.2.1) | exact absurd e9q7.symm (Nat.ne_of_lt c9q7.2.2.2.2.2.1) | exact absurd e9q7.symm (Nat.ne_of_lt c9q7.2.2.2.2.2.2.1) | exact absurd e9q7.symm (Nat.ne_of_lt c9q7.2.2.2.2.2.2.2.1) | exact absurd e9q7.symm (Nat.ne_of_lt c9q7.2.2.2.2.2.2.2.2.1) | exact absurd e9q7.symm (Nat.ne_of_lt c9q7.2) | exact absurd e9q7.symm (Nat.ne_of_lt c9q7.2.2) | exact absurd e9q7.symm (Nat.ne_of_lt c9q7.2.2.2) | exact absurd e9q7.symm (Nat.ne_of_lt c9q7.2.2.2.2) | exact absurd e9q7.symm (Nat.ne_of_lt c9q7.2.2.2.2.2) | exact absurd e9q7.symm (Nat.ne_of_lt c9q7.2.2.2.2.2.2) | exact absurd e9q7.symm (Nat.ne_of_lt c9q7.2.2.2.2.2.2.2) | exact absurd e9q7.symm (Nat.ne_of_lt c9q7.2.2.2.2.2.2.2.2) | exact absurd e9q7.symm (Nat.ne_of_lt c9q7.2.2.2.2.2.2.2.2.2) | (clear c9q7; (rename And _ _ => c8q7); first | exact absurd e9q7 c8q7.1 | exact absurd e9q7 c8q7.2.1 | exact absurd e9q7 c8q7.2.2.1 | exact absurd e9q7 c8q7.2.2.2.1 | exact absurd e9q7 c8q7.2.2.2.2.1 | exact absurd e9q7 c8q7.2.2.2.2.2.1 | exact absurd e9q7 c8q7.2.2.2.2.2.2.1 | exact absurd e9q7 c8q7.2.2.2.2.2.2.2.1 | exact absurd e9q7 c8q7.2.2.2.2.2.2.2.2.1 | exact absurd e9q7 c8q7.2 | exact absurd e9q7 c8q7.2.2 | exact absurd e9q7 c8q7.2.2.2 | exact absurd e9q7 c8q7.2.2.2.2 | exact absurd e9q7 c8q7.2.2.2.2.2 | exact absurd e9q7 c8q7.2.2.2.2.2.2 | exact absurd e9q7 c8q7.2.2.2.2.2.2.2 | exact absurd e9q7 c8q7.2.2.2.2.2.2.2.2 | exact absurd e9q7 c8q7.2.2.2.2.2.2.2.2.2 | exact absurd e9q7.symm c8q7.1 | exact absurd e9q7.symm c8q7.2.1 | exact absurd e9q7.symm c8q7.2.2.1 | exact absurd e9q7.symm c8q7.2.2.2.1 | exact absurd e9q7.symm c8q7.2.2.2.2.1 | exact absurd e9q7.symm c8q7.2.2.2.2.2.1 | exact absurd e9q7.symm c8q7.2.2.2.2.2.2.1 | exact absurd e9q7.symm c8q7.2.2.2.2.2.2.2.1 | exact absurd e9q7.symm c8q7.2.2.2.2.2.2.2.2.1 | exact absurd e9q7.symm c8q7.2 | exact absurd e9q7.symm c8q7.2.2 | exact absurd e9q7.symm c8q7.2.2.2 | exact absurd e9q7.symm c8q7.2.2.2.2 | exact absurd e9q7.symm c8q7.2.2.2.2.2 | exact absurd e9q7.symm c8q7.2.2.2.2.2.2 | exact absurd e9q7.symm c8q7.2.2.2.2.2.2.2 | exact absurd e9q7.symm c8q7.2.2.2.2.2.2.2.2 | exact absurd e9q7.symm c8q7.2.2.2.2.2.2.2.2.2 | exact absurd e9q7 (Nat.ne_of_lt c8q7.1) | exact absurd e9q7 (Nat.ne_of_lt c8q7.2.1) | exact absurd e9q7 (Nat.ne_of_lt c8q7.2.2.1) | exact absurd e9q7 (Nat.ne_of_lt c8q7.2.2.2.1) | exact absurd e9q7 (Nat.ne_of_lt c8q7.2.2.2.2.1) | exact absurd e9q7 (Nat.ne_of_lt c8q7.2.2.2.2.2.1) | exact absurd e9q7 (Nat.ne_of_lt c8q7.2.2.2.2.2.2.1) | exact absurd e9q7 (Nat.ne_of_lt c8q7.2.2.2.2.2.2.2.1) | exact absurd e9q7 (Nat.ne_of_lt c8q7.2.2.2.2.2.2.2.2.1) | exact absurd e9q7 (Nat.ne_of_lt c8q7.2) | exact absurd e9q7 (Nat.ne_of_lt c8q7.2.2) | exact absurd e9q7 (Nat.ne_of_lt c8q7.2.2.2) | exact absurd e9q7 (Nat.ne_of_lt c8q7.2.2.2.2) | exact absurd e9q7 (Nat.ne_of_lt c8q7.2.2.2.2.2) | exact absurd e9q7 (Nat.ne_of_lt c8q7.2.2.2.2.2.2) | exact absurd e9q7 (Nat.ne_of_lt c8q7.2.2.2.2.2.2.2) | exact absurd e9q7 (Nat.ne_of_lt c8q7.2.2.2.2.2.2.2.2) | exact absurd e9q7 (Nat.ne_of_lt c8q7.2.2.2.2.2.2.2.2.2) | exact absurd e9q7.symm (Nat.ne_of_lt c8q7.1) | exact absurd e9q7.symm (Nat.ne_of_lt c8q7.2.1) | exact absurd e9q7.symm (Nat.ne_of_lt c8q7.2.2.1) | exact absurd e9q7.symm (Nat.ne_of_lt c8q7.2.2.2.1) | exact absurd e9q7.symm (Nat.ne_of_lt c8q7.2.2.2.2.1) | exact absurd e9q7.symm (Nat.ne_of_lt c8q7.2.2.2.2.2.1) | exact absurd e9q7.symm (Nat.ne_of_lt c8q7.2.2.2.2.2.2.1) | exact absurd e9q7.symm (Nat.ne_of_lt c8q7.2.2.2.2.2.2.2.1) | exact absurd e9q7.symm (Nat.ne_of_lt c8q7.2.2.2.2.2.2.2.2.1) | exact absurd e9q7.symm (Nat.ne_of_lt c8q7.2) | exact absurd e9q7.symm (Nat.ne_of_lt c8q7.2.2) | exact absurd e9q7.symm (Nat.ne_of_lt c8q7.2.2.2) | exact absurd e9q7.symm (Nat.ne_of_lt c8q7.2.2.2.2) | exact absurd e9q7.symm (Nat.ne_of_lt c8q7.2.2.2.2.2) | exact absurd e9q7.symm (Nat.ne_of_lt c8q7.2.2.2.2.2.2) | exact absurd e9q7.symm (Nat.ne_of_lt c8q7.2.2.2.2.2.2.2) | exact absurd e9q7.symm (Nat.ne_of_lt c8q7.2.2.2.2.2.2.2.2) | exact absurd e9q7.symm (Nat.ne_of_lt c8q7.2.2.2.2.2.2.2.2.2))))
    k_with "x52" => (((repeat (rename And _ _ => c9q7; clear c9q7)); omega))
    k_with "x53" => ((k_here; (with_reducible show wpAny _ _ (eval (Expr.ListComp _ [PySem.Comprehension.mk _ _ [] _] _ _) _) _ _ _); k_dflt (refine lcU (by k_asm) (by with_unfolding_all rfl) (by decide) (by rfl) (by decide) (by rfl) ?_)))
    k_with "x54" => ((k_here; (with_reducible show wpAny _ _ (eval (Expr.ListComp _ [PySem.Comprehension.mk _ _ [_] _] _ _) _) _ _ _); k_dflt (refine lcT (by k_asm) (by with_unfolding_all rfl) (by decide) (by rfl) (by decide) (by rfl) ?_)))
    k_with "x55" => ((k_here; k_dflt (refine lcAU (by k_asm) (by rfl) (by with_unfolding_all rfl) (by with_unfolding_all rfl) (by decide) (by rfl) (by decide) (by rfl) (by rfl) (by rfl) ?_)))
    k_with "x56" => ((k_here; (with_reducible show wpAny _ _ (call (Value.ref 147) _) _ _ _); k_dflt (refine' pd_use (c_draw _ _ _ ?h1x56 ?h2x56) ?k1x56 ?k2x56 ?k3x56 ?k4x56 ?kKx56 ?k5x56 ?kdx56 ?kux56 ?m1x56 ?m2x56 ?pqx56 ?hIx56 ?hlx56 ?hxx56 ?hx2x56 ?hyx56 ?_; (case k1x56 => k_asm); (case k2x56 => k_asm); (case k3x56 => k_asm); (case k4x56 => k_asm); (case kKx56 => first | exact rfl | assumption); (case k5x56 => k_asm); (case kdx56 => ktr_room); (case kux56 => ktr_units); (case m1x56 => k_mem); (case m2x56 => k_mem); (case pqx56 => first | assumption | walk_at "a ne"); (case hIx56 => assumption); (case hlx56 => first | assumption | walk_at "a om"); (case hxx56 => first | assumption | walk_at "a om"); (case hx2x56 => first | assumption | walk_at "a om"); (case hyx56 => first | assumption | walk_at "a om"); (case h1x56 => walk_at "a om"); (case h2x56 => walk_at "a om")); (rintro r9q7 v9q7 x9q7 tx9q7 y9q7 ty9q7 h9q7 tk9q7 F9q7 N9q7 r1q7 r2q7 x1q7 x2q7 y1q7 ⟨t9q7, e9q7⟩); (subst e9q7); (simp only [List.map_cons, List.map_nil] at N9q7); (repeat (first | rw [if_pos trivial] at N9q7 | rw [if_pos rfl] at N9q7 | rw [if_neg (by walk_at "a ne")] at N9q7)); (try dsimp only)))
    k_with "x57" => ((k_here; (with_reducible show wpAny _ _ (call (Value.ref 154) _) _ _ _); k_dflt (k_extra "my pick")))
    k_with "x58" => ((k_here; (with_reducible refine gm_bjoin ?_)))
    k_with "x59" => ((k_here; k_dflt (refine ne_same (by with_unfolding_all rfl) ?_)))
    k_with "x60" => ((k_here; k_dflt (refine ne_same_b (by with_unfolding_all rfl) ?_)))
    k_with "x61" => (((show GoodW _ _ _ _ _ (.ok (.ret (.bool true))) _); (refine goodW_bool (by assumption) (by assumption) (raisesW_false ?nnx61) ?ppx61); (case nnx61 => wrow_none_raised); (case ppx61 => with_unfolding_all rfl)))
    k_with "x62" => ((intro i9q7 u9q7 I9q7 oI9q7 C9q7 oC9q7 D9q7 m9q7 ys9q7 h9q7 tk9q7 E9q7 hi9q7 hC9q7 hx9q7 F9q7 N9q7 off9q7 ne9q7; (have off9pq7 := off9q7); (simp only [LCg.Off3, and_true] at off9pq7); (try k_fold)))
    k_with "x63" => ((rename News _ _ _ _ => nEq7; exact LCg.CompEnd.intro (by assumption) nEq7 _ (by lcg_sub) (by assumption) (by first | trivial | k_mem) ⟨rfl, _, rfl⟩))
    k_with "my cend" =>
      (rename News _ _ _ _ => nE)
      (first
        | exact LCg.CompEnd.intro (by assumption) nE _ (by lcg_sub) (by assumption) trivial ⟨rfl, decide_eq_true (by walk_at "a om"), _, rfl⟩
        | exact LCg.CompEnd.intro (by assumption) nE _ (by lcg_sub) (by assumption) trivial ⟨rfl, decide_eq_false (by walk_at "a om")⟩)
    intro i9 u9 I9 oI9 C9 oC9 D9 m9 ys9 h9 tk9 E9 hi9 hC9 hx9 F9 N9 off9 ne9
    have off9' := off9
    simp only [LCg.Off3, and_true] at off9'
    obtain ⟨hc0, hc1⟩ := hcA _ (getD_mem hi9)
    try k_fold
    k_steps
  intro gA1 ysA1 hysA1
  obtain ⟨ps1, hps1⟩ : ∃ ps, ps = cs.filter (fun c => decide (c ≤ 255)) := ⟨_, rfl⟩
  rw [← hps1] at hysA1
  have hpl1 : ps1.length < 8 := by rw [hps1]; exact Nat.lt_of_le_of_lt (List.length_filter_le _ _) hc8
  have hpm1 : ∀ c ∈ ps1, c ∈ cs ∧ c ≤ 255 := fun c hc => by rw [hps1] at hc; obtain ⟨a, b⟩ := List.mem_filter.mp hc; exact ⟨a, of_decide_eq_true b⟩
  have hpA1 : ∀ c ∈ ps1, 0 ≤ c ∧ c ≤ 1114111 := fun c hc => hcA c (hpm1 c hc).1
  have hpB1 : ∀ c ∈ ps1, 0 ≤ c ∧ hasSign (Str.ofString "iso-8859-1") c = true := fun c hc => ⟨(hpA1 c hc).1, by
    have := (hpm1 c hc).2
    unfold hasSign
    rw [if_neg (by decide)]
    exact decide_eq_true (by rw [if_neg (by decide)]; walk_at "a om")⟩
  have hbl1 := pl_len (x := Str.ofString "iso-8859-1") (.inr rfl) ps1
  clear lN lF
  k_with_none
  k_with "x1" => ((refine wpAny_call ?_; first   | (refine' code_defG (news := []) ?k1x1 ?k2x1 ?k3x1 News.nil ?k5x1 ?kAx1 ?kFx1 ?kKx1 ?k6x1 ?k7x1 ?k8x1 ?k9x1 ?kBx1 ?_ ?c2x1 ?c3x1 ?c4x1 ?c5x1; (case kAx1 => exact rfl); (case kFx1 => exact rfl); (case kKx1 => assumption); (case k1x1 => k_asm); (case k2x1 => k_asm); (case k3x1 => k_asm); (case k5x1 => k_asm); (case k6x1 => k_is); (case k7x1 => k_is); (case k8x1 => ktr_room); (case k9x1 => exact BindsTo.of_eq rfl); (case c5x1 => decide); (case kBx1 => exact locs rfl); (case c2x1 => exact rfl); (case c3x1 => exact rfl); (case c4x1 => exact rfl); k_whole; intro gpq7 Lpq7 hpq7 FGpq7 Fpq7 Npq7 Bpq7 Xpq7 Tpq7 kGpq7; (try dsimp only); (try k_fold))   | (refine' code_defGC (news := []) ?k1x1 ?k2x1 ?k3x1 News.nil ?k5x1 ?kAx1 ?kFx1 ?kKx1 ?k6x1 ?k7x1 ?k8x1 ?k9x1 ?kBx1 ?kDx1 ?_ ?c2x1 ?c3x1 ?c4x1; (case kAx1 => exact rfl); (case kFx1 => exact rfl); (case kKx1 => assumption); (case k1x1 => k_asm); (case k2x1 => k_asm); (case k3x1 => k_asm); (case k5x1 => k_asm); (case k6x1 => k_is); (case k7x1 => k_is); (case k8x1 => ktr_room); (case k9x1 => exact BindsTo.of_eq rfl); (case kBx1 => exact rfl); (case kDx1 => decide +kernel); (case c2x1 => exact rfl); (case c3x1 => exact rfl); (case c4x1 => exact rfl); k_whole; intro gpq7 Lpq7 hpq7 tkpq7 cellspq7 FGpq7 Fpq7 Npq7 Ypq7 Bpq7 Xpq7 Tpq7 l1q7 kGpq7; clear l1q7; k_cells Ypq7; (try simp only [List.cons_append, List.nil_append] at Npq7); (try dsimp only); (try k_fold))))
  k_with "calls" => (cell_ask (c_need_charset _ _ _ (by assumption)))
  k_with "calls" => (cell_ask (c_has_sign _ _ _ _ _ (by assumption)))
  k_with "calls" => (cell_ask (c_utf8_octets _ _ _ (by assumption)))
  k_with "calls" => (cell_ask (c_utf8_sign _ _ _ _ _ (by first | assumption | omega) (by first | assumption | omega) (by first | assumption | omega)))
  k_with "calls" => (cell_ask (c_sign_at' _ _ _ _ _ _ _ (by assumption) (by first | assumption | omega) (by first | assumption | omega) (by first | assumption | omega)))
  k_with "x15" => ((intro zq7 h2q7 h3q7; (simp only [List.forall_mem_cons, List.not_mem_nil, false_implies, implies_true, and_true, ne_eq] at h2q7); (simp only [List.contains_cons, List.contains_nil, Bool.or_false, Bool.or_eq_false_iff, beq_eq_false_iff_ne, ne_eq] at h3q7); simp [kstB, h2q7, h3q7]))
  k_with "calls" => (cell_ask (c_text_in _ _ _ _ _ (by assumption) (by assumption)))
  k_with "calls" => (cell_ask (c_strict_text _ _ _ _ _ (by assumption) (by assumption) (by assumption)))
  k_with "x18" => ((k_here; k_dflt (refine item_text (by first | assumption | omega) (by first | assumption | omega) (by first | assumption | omega) ?_)))
  k_with "x19" => ((k_here; k_dflt (refine len_text (by first | assumption | omega) ?_)))
  k_with "x20" => ((k_here; k_dflt (refine ord_one (by first | assumption | omega) ?_)))
  k_with "calls" => (cell_ask (c_has_sign_true _ _ _ _ _ (by assumption) (by assumption)))
  k_with "x22" => ((intro zq7 h1q7 h2q7 h3q7; (simp only [List.forall_mem_cons, List.not_mem_nil, false_implies, implies_true, and_true, ne_eq] at h2q7); (simp only [List.contains_cons, List.contains_nil, Bool.or_false, Bool.or_eq_false_iff, beq_eq_false_iff_ne, ne_eq] at h3q7); simp [kstB, h1q7, h2q7, h3q7]))
  k_with "calls" => (cell_ask (c_octets_in0 _ _ _ _ _ (by assumption) (by first | assumption | omega) (by assumption)))
  k_with "calls" => (cell_ask (c_best_charset _ _ _ (by first | assumption | omega) (by assumption)))
  k_with "x50" => ((k_dflt ((show ¬ @Eq Nat _ _); intro e9q7; (repeat (rename And _ _ => c9q7; obtain ⟨_, _⟩ := c9q7)); first | exact absurd e9q7 (by assumption) | exact absurd e9q7.symm (by assumption) | exact absurd e9q7 (Nat.ne_of_lt (by assumption)) | exact absurd e9q7.symm (Nat.ne_of_lt (by assumption)) | omega)))
  k_with "x51" => ((refine neN ?_; (try dsimp only); intro e9q7; (rename And _ _ => c9q7); first | exact absurd e9q7 c9q7.1 | exact absurd e9q7 c9q7.2.1 | exact absurd e9q7 c9q7.2.2.1 | exact absurd e9q7 c9q7.2.2.2.1 | exact absurd e9q7 c9q7.2.2.2.2.1 | exact absurd e9q7 c9q7.2.2.2.2.2.1 | exact absurd e9q7 c9q7.2.2.2.2.2.2.1 | exact absurd e9q7 c9q7.2.2.2.2.2.2.2.1 | exact absurd e9q7 c9q7.2.2.2.2.2.2.2.2.1 | exact absurd e9q7 c9q7.2 | exact absurd e9q7 c9q7.2.2 | exact absurd e9q7 c9q7.2.2.2 | exact absurd e9q7 c9q7.2.2.2.2 | exact absurd e9q7 c9q7.2.2.2.2.2 | exact absurd e9q7 c9q7.2.2.2.2.2.2 | exact absurd e9q7 c9q7.2.2.2.2.2.2.2 | exact absurd e9q7 c9q7.2.2.2.2.2.2.2.2 | exact absurd e9q7 c9q7.2.2.2.2.2.2.2.2.2 | exact absurd e9q7.symm c9q7.1 | exact absurd e9q7.symm c9q7.2.1 | exact absurd e9q7.symm c9q7.2.2.1 | exact absurd e9q7.symm c9q7.2.2.2.1 | exact absurd e9q7.symm c9q7.2.2.2.2.1 | exact absurd e9q7.symm c9q7.2.2.2.2.2.1 | exact absurd e9q7.symm c9q7.2.2.2.2.2.2.1 | exact absurd e9q7.symm c9q7.2.2.2.2.2.2.2.1 | exact absurd e9q7.symm c9q7.2.2.2.2.2.2.2.2.1 | exact absurd e9q7.symm c9q7.2 | exact absurd e9q7.symm c9q7.2.2 | exact absurd e9q7.symm c9q7.2.2.2 | exact absurd e9q7.symm c9q7.2.2.2.2 | exact absurd e9q7.symm c9q7.2.2.2.2.2 | exact absurd e9q7.symm c9q7.2.2.2.2.2.2 | exact absurd e9q7.symm c9q7.2.2.2.2.2.2.2 | exact absurd e9q7.symm c9q7.2.2.2.2.2.2.2.2 | exact absurd e9q7.symm c9q7.2.2.2.2.2.2.2.2.2 | exact absurd e9q7 (Nat.ne_of_lt c9q7.1) | exact absurd e9q7 (Nat.ne_of_lt c9q7.2.1) | exact absurd e9q7 (Nat.ne_of_lt c9q7.2.2.1) | exact absurd e9q7 (Nat.ne_of_lt c9q7.2.2.2.1) | exact absurd e9q7 (Nat.ne_of_lt c9q7.2.2.2.2.1) | exact absurd e9q7 (Nat.ne_of_lt c9q7.2.2.2.2.2.1) | exact absurd e9q7 (Nat.ne_of_lt c9q7.2.2.2.2.2.2.1) | exact absurd e9q7 (Nat.ne_of_lt c9q7.2.2.2.2.2.2.2.1) | exact absurd e9q7 (Nat.ne_of_lt c9q7.2.2.2.2.2.2.2.2.1) | exact absurd e9q7 (Nat.ne_of_lt c9q7.2) | exact absurd e9q7 (Nat.ne_of_lt c9q7.2.2) | exact absurd e9q7 (Nat.ne_of_lt c9q7.2.2.2) | exact absurd e9q7 (Nat.ne_of_lt c9q7.2.2.2.2) | exact absurd e9q7 (Nat.ne_of_lt c9q7.2.2.2.2.2) | exact absurd e9q7 (Nat.ne_of_lt c9q7.2.2.2.2.2.2) | exact absurd e9q7 (Nat.ne_of_lt c9q7.2.2.2.2.2.2.2) | exact absurd e9q7 (Nat.ne_of_lt c9q7.2.2.2.2.2.2.2.2) | exact absurd e9q7 (Nat.ne_of_lt c9q7.2.2.2.2.2.2.2.2.2) | exact absurd e9q7.symm (Nat.ne_of_lt c9q7.1) | exact absurd e9q7.symm (Nat.ne_of_lt c9q7.2.1) | exact absurd e9q7.symm (Nat.ne_of_lt c9q7.2.2.1) | exact absurd e9q7.symm (Nat.ne_of_lt c9q7.2.2.2.1) | exact absurd e9q7.symm (Nat.ne_of_lt c9q7.2.2.2.2.1) | exact absurd e9q7.symm (Nat.ne_of_lt c9q7.2.2.2.2.2.1) | exact absurd e9q7.symm (Nat.ne_of_lt c9q7.2.2.2.2.2.2.1) | exact absurd e9q7.symm (Nat.ne_of_lt c9q7.2.2.2.2.2.2.2.1) | exact absurd e9q7.symm (Nat.ne_of_lt c9q7.2.2.2.2.2.2.2.2.1) | exact absurd e9q7.symm (Nat.ne_of_lt c9q7.2) | exact absurd e9q7.symm (Nat.ne_of_lt c9q7.2.2) | exact absurd e9q7.symm (Nat.ne_of_lt c9q7.2.2.2) | exact absurd e9q7.symm (Nat.ne_of_lt c9q7.2.2.2.2) | exact absurd e9q7.symm (Nat.ne_of_lt c9q7.2.2.2.2.2) | exact absurd e9q7.symm (Nat.ne_of_lt c9q7.2.2.2.2.2.2) | exact absurd e9q7.symm (Nat.ne_of_lt c9q7.2.2.2.2.2.2.2) | exact absurd e9q7.symm (Nat.ne_of_lt c9q7.2.2.2.2.2.2.2.2) | exact absurd e9q7.symm (Nat.ne_of_lt c9q7.2.2.2.2.2.2.2.2.2) | (clear c9q7; (rename And _ _ => c8q7); first | exact absurd e9q7 c8q7.1 | exact absurd e9q7 c8q7.2.1 | exact absurd e9q7 c8q7.2.2.1 | exact absurd e9q7 c8q7.2.2.2.1 | exact absurd e9q7 c8q7.2.2.2.2.1 | exact absurd e9q7 c8q7.2.2.2.2.2.1 | exact absurd e9q7 c8q7.2.2.2.2.2.2.1 | exact absurd e9q7 c8q7.2.2.2.2.2.2.2.1 | exact absurd e9q7 c8q7.2.2.2.2.2.2.2.2.1 | exact absurd e9q7 c8q7.2 | exact absurd e9q7 c8q7.2.2 | exact absurd e9q7 c8q7.2.2.2 | exact absurd e9q7 c8q7.2.2.2.2 | exact absurd e9q7 c8q7.2.2.2.2.2 | exact absurd e9q7 c8q7.2.2.2.2.2.2 | exact absurd e9q7 c8q7.2.2.2.2.2.2.2 | exact absurd e9q7 c8q7.2.2.2.2.2.2.2.2 | exact absurd e9q7 c8q7.2.2.2.2.2.2.2.2.2 | exact absurd e9q7.symm c8q7.1 | exact absurd e9q7.symm c8q7.2.1 | exact absurd e9q7.symm c8q7.2.2.1 | exact absurd e9q7.symm c8q7.2.2.2.1 | exact absurd e9q7.symm c8q7.2.2.2.2.1 | exact absurd e9q7.symm c8q7.2.2.2.2.2.1 | exact absurd e9q7.symm c8q7.2.2.2.2.2.2.1 | exact absurd e9q7.symm c8q7.2.2.2.2.2.2.2.1 | exact absurd e9q7.symm c8q7.2.2.2.2.2.2.2.2.1 | exact absurd e9q7.symm c8q7.2 | exact absurd e9q7.symm c8q7.2.2 | exact absurd e9q7.symm c8q7.2.2.2 | exact absurd e9q7.symm c8q7.2.2.2.2 | exact absurd e9q7.symm c8q7.2.2.2.2.2 | exact absurd e9q7.symm c8q7.2.2.2.2.2.2 | exact absurd e9q7.symm c8q7.2.2.2.2.2.2.2 | exact absurd e9q7.symm c8q7.2.2.2.2.2.2.2.2 | exact absurd e9q7.symm c8q7.2.2.2.2.2.2.2.2.2 | exact absurd e9q7 (Nat.ne_of_lt c8q7.1) | exact absurd e9q7 (Nat.ne_of_lt c8q7.2.1) | exact absurd e9q7 (Nat.ne_of_lt c8q7.2.2.1) | exact absurd e9q7 (Nat.ne_of_lt c8q7.2.2.2.1) | exact absurd e9q7 (Nat.ne_of_lt c8q7.2.2.2.2.1) | exact absurd e9q7 (Nat.ne_of_lt c8q7.2.2.2.2.2.1) | exact absurd e9q7 (Nat.ne_of_lt c8q7.2.2.2.2.2.2.1) | exact absurd e9q7 (Nat.ne_of_lt c8q7.2.2.2.2.2.2.2.1) | exact absurd e9q7 (Nat.ne_of_lt c8q7.2.2.2.2.2.2.2.2.1) | exact absurd e9q7 (Nat.ne_of_lt c8q7.2) | exact absurd e9q7 (Nat.ne_of_lt c8q7.2.2) | exact absurd e9q7 (Nat.ne_of_lt c8q7.2.2.2) | exact absurd e9q7 (Nat.ne_of_lt c8q7.2.2.2.2) | exact absurd e9q7 (Nat.ne_of_lt c8q7.2.2.2.2.2) | exact absurd e9q7 (Nat.ne_of_lt c8q7.2.2.2.2.2.2) | exact absurd e9q7 (Nat.ne_of_lt c8q7.2.2.2.2.2.2.2) | exact absurd e9q7 (Nat.ne_of_lt c8q7.2.2.2.2.2.2.2.2) | exact absurd e9q7 (Nat.ne_of_lt c8q7.2.2.2.2.2.2.2.2.2) | exact absurd e9q7.symm (Nat.ne_of_lt c8q7.1) | exact absurd e9q7.symm (Nat.ne_of_lt c8q7.2.1) | exact absurd e9q7.symm (Nat.ne_of_lt c8q7.2.2.1) | exact absurd e9q7.symm (Nat.ne_of_lt c8q7.2.2.2.1) | exact absurd e9q7.symm (Nat.ne_of_lt c8q7.2.2.2.2.1) | exact absurd e9q7.symm (Nat.ne_of_lt c8q7.2.2.2.2.2.1) | exact absurd e9q7.symm (Nat.ne_of_lt c8q7.2.2.2.2.2.2.1) | exact absurd e9q7.symm (Nat.ne_of_lt c8q7.2.2.2.2.2.2.2.1) | exact absurd e9q7.symm (Nat.ne_of_lt c8q7.2.2.2.2.2.2.2.2.1) | exact absurd e9q7.symm (Nat.ne_of_lt c8q7.2) | exact absurd e9q7.symm (Nat.ne_of_lt c8q7.2.2) | exact absurd e9q7.symm (Nat.ne_of_lt c8q7.2.2.2) | exact absurd e9q7.symm (Nat.ne_of_lt c8q7.2.2.2.2) | exact absurd e9q7.symm (Nat.ne_of_lt c8q7.2.2.2.2.2) | exact absurd e9q7.symm (Nat.ne_of_lt c8q7.2.2.2.2.2.2) | exact absurd e9q7.symm (Nat.ne_of_lt c8q7.2.2.2.2.2.2.2) | exact absurd e9q7.symm (Nat.ne_of_lt c8q7.2.2.2.2.2.2.2.2) | exact absurd e9q7.symm (Nat.ne_of_lt c8q7.2.2.2.2.2.2.2.2.2))))
  k_with "x52" => (((repeat (rename And _ _ => c9q7; clear c9q7)); omega))
  k_with "x53" => ((k_here; (with_reducible show wpAny _ _ (eval (Expr.ListComp _ [PySem.Comprehension.mk _ _ [] _] _ _) _) _ _ _); k_dflt (refine lcU (by k_asm) (by with_unfolding_all rfl) (by decide) (by rfl) (by decide) (by rfl) ?_)))
  k_with "x54" => ((k_here; (with_reducible show wpAny _ _ (eval (Expr.ListComp _ [PySem.Comprehension.mk _ _ [_] _] _ _) _) _ _ _); k_dflt (refine lcT (by k_asm) (by with_unfolding_all rfl) (by decide) (by rfl) (by decide) (by rfl) ?_)))
  k_with "x55" => ((k_here; k_dflt (refine lcAU (by k_asm) (by rfl) (by with_unfolding_all rfl) (by with_unfolding_all rfl) (by decide) (by rfl) (by decide) (by rfl) (by rfl) (by rfl) ?_)))
  k_with "x56" => ((k_here; (with_reducible show wpAny _ _ (call (Value.ref 147) _) _ _ _); k_dflt (refine' pd_use (c_draw _ _ _ ?h1x56 ?h2x56) ?k1x56 ?k2x56 ?k3x56 ?k4x56 ?kKx56 ?k5x56 ?kdx56 ?kux56 ?m1x56 ?m2x56 ?pqx56 ?hIx56 ?hlx56 ?hxx56 ?hx2x56 ?hyx56 ?_; (case k1x56 => k_asm); (case k2x56 => k_asm); (case k3x56 => k_asm); (case k4x56 => k_asm); (case kKx56 => first | exact rfl | assumption); (case k5x56 => k_asm); (case kdx56 => ktr_room); (case kux56 => ktr_units); (case m1x56 => k_mem); (case m2x56 => k_mem); (case pqx56 => first | assumption | walk_at "a ne"); (case hIx56 => assumption); (case hlx56 => first | assumption | walk_at "a om"); (case hxx56 => first | assumption | walk_at "a om"); (case hx2x56 => first | assumption | walk_at "a om"); (case hyx56 => first | assumption | walk_at "a om"); (case h1x56 => walk_at "a om"); (case h2x56 => walk_at "a om")); (rintro r9q7 v9q7 x9q7 tx9q7 y9q7 ty9q7 h9q7 tk9q7 F9q7 N9q7 r1q7 r2q7 x1q7 x2q7 y1q7 ⟨t9q7, e9q7⟩); (subst e9q7); (simp only [List.map_cons, List.map_nil] at N9q7); (repeat (first | rw [if_pos trivial] at N9q7 | rw [if_pos rfl] at N9q7 | rw [if_neg (by walk_at "a ne")] at N9q7)); (try dsimp only)))
  k_with "x57" => ((k_here; (with_reducible show wpAny _ _ (call (Value.ref 154) _) _ _ _); k_dflt (k_extra "my pick")))
  k_with "x58" => ((k_here; (with_reducible refine gm_bjoin ?_)))
  k_with "x59" => ((k_here; k_dflt (refine ne_same (by with_unfolding_all rfl) ?_)))
  k_with "x60" => ((k_here; k_dflt (refine ne_same_b (by with_unfolding_all rfl) ?_)))
  k_with "x61" => (((show GoodW _ _ _ _ _ (.ok (.ret (.bool true))) _); (refine goodW_bool (by assumption) (by assumption) (raisesW_false ?nnx61) ?ppx61); (case nnx61 => wrow_none_raised); (case ppx61 => with_unfolding_all rfl)))
  k_with "x62" => ((intro i9q7 u9q7 I9q7 oI9q7 C9q7 oC9q7 D9q7 m9q7 ys9q7 h9q7 tk9q7 E9q7 hi9q7 hC9q7 hx9q7 F9q7 N9q7 off9q7 ne9q7; (have off9pq7 := off9q7); (simp only [LCg.Off3, and_true] at off9pq7); (try k_fold)))
  k_with "x63" => ((rename News _ _ _ _ => nEq7; exact LCg.CompEnd.intro (by assumption) nEq7 _ (by lcg_sub) (by assumption) (by first | trivial | k_mem) ⟨rfl, _, rfl⟩))
  k_with "my join" =>
    (refine join_ones (News.isList (by k_asm) (by k_mem)) hysA1 (le_2000 hpl1) ?_)
    (intro t9 k9)
    (try dsimp only)
  k_with "my call" =>
    (cell_ask (c_octets_in0 _ (Str.ofString "iso-8859-1") ps1 _ _ isX1 (lt_100 hpl1) hpB1))
  k_steps
  rename News _ _ _ _ => lN
  rename Fr _ _ _ _ => lF
  replace lN := news_erase 0 lN
  simp only [List.eraseIdx_cons_succ, List.eraseIdx_cons_zero] at lN
  refine map_text (fun i v => ∃ u, v = .int (ps1.getD i 0) u) lF lN rfl (lt_1000 hpl1) ?_ ?_
  case refine_1 =>
    clear lN lF
    k_with_none
    k_with "x1" => ((refine wpAny_call ?_; first   | (refine' code_defG (news := []) ?k1x1 ?k2x1 ?k3x1 News.nil ?k5x1 ?kAx1 ?kFx1 ?kKx1 ?k6x1 ?k7x1 ?k8x1 ?k9x1 ?kBx1 ?_ ?c2x1 ?c3x1 ?c4x1 ?c5x1; (case kAx1 => exact rfl); (case kFx1 => exact rfl); (case kKx1 => assumption); (case k1x1 => k_asm); (case k2x1 => k_asm); (case k3x1 => k_asm); (case k5x1 => k_asm); (case k6x1 => k_is); (case k7x1 => k_is); (case k8x1 => ktr_room); (case k9x1 => exact BindsTo.of_eq rfl); (case c5x1 => decide); (case kBx1 => exact locs rfl); (case c2x1 => exact rfl); (case c3x1 => exact rfl); (case c4x1 => exact rfl); k_whole; intro gpq7 Lpq7 hpq7 FGpq7 Fpq7 Npq7 Bpq7 Xpq7 Tpq7 kGpq7; (try dsimp only); (try k_fold))   | (refine' code_defGC (news := []) ?k1x1 ?k2x1 ?k3x1 News.nil ?k5x1 ?kAx1 ?kFx1 ?kKx1 ?k6x1 ?k7x1 ?k8x1 ?k9x1 ?kBx1 ?kDx1 ?_ ?c2x1 ?c3x1 ?c4x1; (case kAx1 => exact rfl); (case kFx1 => exact rfl); (case kKx1 => assumption); (case k1x1 => k_asm); (case k2x1 => k_asm); (case k3x1 => k_asm); (case k5x1 => k_asm); (case k6x1 => k_is); (case k7x1 => k_is); (case k8x1 => ktr_room); (case k9x1 => exact BindsTo.of_eq rfl); (case kBx1 => exact rfl); (case kDx1 => decide +kernel); (case c2x1 => exact rfl); (case c3x1 => exact rfl); (case c4x1 => exact rfl); k_whole; intro gpq7 Lpq7 hpq7 tkpq7 cellspq7 FGpq7 Fpq7 Npq7 Ypq7 Bpq7 Xpq7 Tpq7 l1q7 kGpq7; clear l1q7; k_cells Ypq7; (try simp only [List.cons_append, List.nil_append] at Npq7); (try dsimp only); (try k_fold))))
    k_with "calls" => (cell_ask (c_need_charset _ _ _ (by assumption)))
    k_with "calls" => (cell_ask (c_has_sign _ _ _ _ _ (by assumption)))
    k_with "calls" => (cell_ask (c_utf8_octets _ _ _ (by assumption)))
    k_with "calls" => (cell_ask (c_utf8_sign _ _ _ _ _ (by first | assumption | omega) (by first | assumption | omega) (by first | assumption | omega)))
    k_with "calls" => (cell_ask (c_sign_at' _ _ _ _ _ _ _ (by assumption) (by first | assumption | omega) (by first | assumption | omega) (by first | assumption | omega)))
    k_with "x15" => ((intro zq7 h2q7 h3q7; (simp only [List.forall_mem_cons, List.not_mem_nil, false_implies, implies_true, and_true, ne_eq] at h2q7); (simp only [List.contains_cons, List.contains_nil, Bool.or_false, Bool.or_eq_false_iff, beq_eq_false_iff_ne, ne_eq] at h3q7); simp [kstB, h2q7, h3q7]))
    k_with "calls" => (cell_ask (c_text_in _ _ _ _ _ (by assumption) (by assumption)))
    k_with "calls" => (cell_ask (c_strict_text _ _ _ _ _ (by assumption) (by assumption) (by assumption)))
    k_with "x18" => ((k_here; k_dflt (refine item_text (by first | assumption | omega) (by first | assumption | omega) (by first | assumption | omega) ?_)))
    k_with "x19" => ((k_here; k_dflt (refine len_text (by first | assumption | omega) ?_)))
    k_with "x20" => ((k_here; k_dflt (refine ord_one (by first | assumption | omega) ?_)))
    k_with "calls" => (cell_ask (c_has_sign_true _ _ _ _ _ (by assumption) (by assumption)))
    k_with "x22" => ((intro zq7 h1q7 h2q7 h3q7; (simp only [List.forall_mem_cons, List.not_mem_nil, false_implies, implies_true, and_true, ne_eq] at h2q7); (simp only [List.contains_cons, List.contains_nil, Bool.or_false, Bool.or_eq_false_iff, beq_eq_false_iff_ne, ne_eq] at h3q7); simp [kstB, h1q7, h2q7, h3q7]))
    k_with "calls" => (cell_ask (c_octets_in0 _ _ _ _ _ (by assumption) (by first | assumption | omega) (by assumption)))
    k_with "calls" => (cell_ask (c_best_charset _ _ _ (by first | assumption | omega) (by assumption)))
    k_with "x50" => ((k_dflt ((show ¬ @Eq Nat _ _); intro e9q7; (repeat (rename And _ _ => c9q7; obtain ⟨_, _⟩ := c9q7)); first | exact absurd e9q7 (by assumption) | exact absurd e9q7.symm (by assumption) | exact absurd e9q7 (Nat.ne_of_lt (by assumption)) | exact absurd e9q7.symm (Nat.ne_of_lt (by assumption)) | omega)))
    k_with "x51" => ((refine neN ?_; (try dsimp only); intro e9q7; (rename And _ _ => c9q7); first | exact absurd e9q7 c9q7.1 | exact absurd e9q7 c9q7.2.1 | exact absurd e9q7 c9q7.2.2.1 | exact absurd e9q7 c9q7.2.2.2.1 | exact absurd e9q7 c9q7.2.2.2.2.1 | exact absurd e9q7 c9q7.2.2.2.2.2.1 | exact absurd e9q7 c9q7.2.2.2.2.2.2.1 | exact absurd e9q7 c9q7.2.2.2.2.2.2.2.1 | exact absurd e9q7 c9q7.2.2.2.2.2.2.2.2.1 | exact absurd e9q7 c9q7.2 | exact absurd e9q7 c9q7.2.2 | exact absurd e9q7 c9q7.2.2.2 | exact absurd e9q7 c9q7.2.2.2.2 | exact absurd e9q7 c9q7.2.2.2.2.2 | exact absurd e9q7 c9q7.2.2.2.2.2.2 | exact absurd e9q7 c9q7.2.2.2.2.2.2.2 | exact absurd e9q7 c9q7.2.2.2.2.2.2.2.2 | exact absurd e9q7 c9q7.2.2.2.2.2.2.2.2.2 | exact absurd e9q7.symm c9q7.1 | exact absurd e9q7.symm c9q7.2.1 | exact absurd e9q7.symm c9q7.2.2.1 | exact absurd e9q7.symm c9q7.2.2.2.1 | exact absurd e9q7.symm c9q7.2.2.2.2.1 | exact absurd e9q7.symm c9q7.2.2.2.2.2.1 | exact absurd e9q7.symm c9q7.2.2.2.2.2.2.1 | exact absurd e9q7.symm c9q7.2.2.2.2.2.2.2.1 | exact absurd e9q7.symm c9q7.2.2.2.2.2.2.2.2.1 | exact absurd e9q7.symm c9q7.2 | exact absurd e9q7.symm c9q7.2.2 | exact absurd e9q7.symm c9q7.2.2.2 | exact absurd e9q7.symm c9q7.2.2.2.2 | exact absurd e9q7.symm c9q7.2.2.2.2.2 | exact absurd e9q7.symm c9q7.2.2.2.2.2.2 | exact absurd e9q7.symm c9q7.2.2.2.2.2.2.2 | exact absurd e9q7.symm c9q7.2.2.2.2.2.2.2.2 | exact absurd e9q7.symm c9q7.2.2.2.2.2.2.2.2.2 | exact absurd e9q7 (Nat.ne_of_lt c9q7.1) | exact absurd e9q7 (Nat.ne_of_lt c9q7.2.1) | exact absurd e9q7 (Nat.ne_of_lt c9q7.2.2.1) | exact absurd e9q7 (Nat.ne_of_lt c9q7.2.2.2.1) | exact absurd e9q7 (Nat.ne_of_lt c9q7.2.2.2.2.1) | exact absurd e9q7 (Nat.ne_of_lt c9q7.2.2.2.2.2.1) | exact absurd e9q7 (Nat.ne_of_lt c9q7.2.2.2.2.2.2.1) | exact absurd e9q7 (Nat.ne_of_lt c9q7.2.2.2.2.2.2.2.1) | exact absurd e9q7 (Nat.ne_of_lt c9q7.2.2.2.2.2.2.2.2.1) | exact absurd e9q7 (Nat.ne_of_lt c9q7.2) | exact absurd e9q7 (Nat.ne_of_lt c9q7.2.2) | exact absurd e9q7 (Nat.ne_of_lt c9q7.2.2.2) | exact absurd e9q7 (Nat.ne_of_lt c9q7.2.2.2.2) | exact absurd e9q7 (Nat.ne_of_lt c9q7.2.2.2.2.2) | exact absurd e9q7 (Nat.ne_of_lt c9q7.2.2.2.2.2.2) | exact absurd e9q7 (Nat.ne_of_lt c9q7.2.2.2.2.2.2.2) | exact absurd e9q7 (Nat.ne_of_lt c9q7.2.2.2.2.2.2.2.2) | exact absurd e9q7 (Nat.ne_of_lt c9q7.2.2.2.2.2.2.2.2.2) | exact absurd e9q7.symm (Nat.ne_of_lt c9q7.1) | exact absurd e9q7.symm (Nat.ne_of_lt c9q7.2.1) | exact absurd e9q7.symm (Nat.ne_of_lt c9q7.2.2.1) | exact absurd e9q7.symm (Nat.ne_of_lt c9q7.2.2.2.1) | exact absurd e9q7.symm (Nat.ne_of_lt c9q7.2.2.2.2.1) | exact absurd e9q7.symm (Nat.ne_of_lt c9q7.2.2.2.2.2.1) | exact absurd e9q7.symm (Nat.ne_of_lt c9q7.2.2.2.2.2.2.1) | exact absurd e9q7.symm (Nat.ne_of_lt c9q7.2.2.2.2.2.2.2.1) | exact absurd e9q7.symm (Nat.ne_of_lt c9q7.2.2.2.2.2.2.2.2.1) | exact absurd e9q7.symm (Nat.ne_of_lt c9q7.2) | exact absurd e9q7.symm (Nat.ne_of_lt c9q7.2.2) | exact absurd e9q7.symm (Nat.ne_of_lt c9q7.2.2.2) | exact absurd e9q7.symm (Nat.ne_of_lt c9q7.2.2.2.2) | exact absurd e9q7.symm (Nat.ne_of_lt c9q7.2.2.2.2.2) | exact absurd e9q7.symm (Nat.ne_of_lt c9q7.2.2.2.2.2.2) | exact absurd e9q7.symm (Nat.ne_of_lt c9q7.2.2.2.2.2.2.2) | exact absurd e9q7.symm (Nat.ne_of_lt c9q7.2.2.2.2.2.2.2.2) | exact absurd e9q7.symm (Nat.ne_of_lt c9q7.2.2.2.2.2.2.2.2.2) | (clear c9q7; (rename And _ _ => c8q7); first | exact absurd e9q7 c8q7.1 | exact absurd e9q7 c8q7.2.1 | exact absurd e9q7 c8q7.2.2.1 | exact absurd e9q7 c8q7.2.2.2.1 | exact absurd e9q7 c8q7.2.2.2.2.1 | exact absurd e9q7 c8q7.2.2.2.2.2.1 | exact absurd e9q7 c8q7.2.2.2.2.2.2.1 | exact absurd e9q7 c8q7.2.2.2.2.2.2.2.1 | exact absurd e9q7 c8q7.2.2.2.2.2.2.2.2.1 | exact absurd e9q7 c8q7.2 | exact absurd e9q7 c8q7.2.2 | exact absurd e9q7 c8q7.2.2.2 | exact absurd e9q7 c8q7.2.2.2.2 | exact absurd e9q7 c8q7.2.2.2.2.2 | exact absurd e9q7 c8q7.2.2.2.2.2.2 | exact absurd e9q7 c8q7.2.2.2.2.2.2.2 | exact absurd e9q7 c8q7.2.2.2.2.2.2.2.2 | exact absurd e9q7 c8q7.2.2.2.2.2.2.2.2.2 | exact absurd e9q7.symm c8q7.1 | exact absurd e9q7.symm c8q7.2.1 | exact absurd e9q7.symm c8q7.2.2.1 | exact absurd e9q7.symm c8q7.2.2.2.1 | exact absurd e9q7.symm c8q7.2.2.2.2.1 | exact absurd e9q7.symm c8q7.2.2.2.2.2.1 | exact absurd e9q7.symm c8q7.2.2.2.2.2.2.1 | exact absurd e9q7.symm c8q7.2.2.2.2.2.2.2.1 | exact absurd e9q7.symm c8q7.2.2.2.2.2.2.2.2.1 | exact absurd e9q7.symm c8q7.2 | exact absurd e9q7.symm c8q7.2.2 | exact absurd e9q7.symm c8q7.2.2.2 | exact absurd e9q7.symm c8q7.2.2.2.2 | exact absurd e9q7.symm c8q7.2.2.2.2.2 | exact absurd e9q7.symm c8q7.2.2.2.2.2.2 | exact absurd e9q7.symm c8q7.2.2.2.2.2.2.2 | exact absurd e9q7.symm c8q7.2.2.2.2.2.2.2.2 | exact absurd e9q7.symm c8q7.2.2.2.2.2.2.2.2.2 | exact absurd e9q7 (Nat.ne_of_lt c8q7.1) | exact absurd e9q7 (Nat.ne_of_lt c8q7.2.1) | exact absurd e9q7 (Nat.ne_of_lt c8q7.2.2.1) | exact absurd e9q7 (Nat.ne_of_lt c8q7.2.2.2.1) | exact absurd e9q7 (Nat.ne_of_lt c8q7.2.2.2.2.1) | exact absurd e9q7 (Nat.ne_of_lt c8q7.2.2.2.2.2.1) | exact absurd e9q7 (Nat.ne_of_lt c8q7.2.2.2.2.2.2.1) | exact absurd e9q7 (Nat.ne_of_lt c8q7.2.2.2.2.2.2.2.1) | exact absurd e9q7 (Nat.ne_of_lt c8q7.2.2.2.2.2.2.2.2.1) | exact absurd e9q7 (Nat.ne_of_lt c8q7.2) | exact absurd e9q7 (Nat.ne_of_lt c8q7.2.2) | exact absurd e9q7 (Nat.ne_of_lt c8q7.2.2.2) | exact absurd e9q7 (Nat.ne_of_lt c8q7.2.2.2.2) | exact absurd e9q7 (Nat.ne_of_lt c8q7.2.2.2.2.2) | exact absurd e9q7 (Nat.ne_of_lt c8q7.2.2.2.2.2.2) | exact absurd e9q7 (Nat.ne_of_lt c8q7.2.2.2.2.2.2.2) | exact absurd e9q7 (Nat.ne_of_lt c8q7.2.2.2.2.2.2.2.2) | exact absurd e9q7 (Nat.ne_of_lt c8q7.2.2.2.2.2.2.2.2.2) | exact absurd e9q7.symm (Nat.ne_of_lt c8q7.1) | exact absurd e9q7.symm (Nat.ne_of_lt c8q7.2.1) | exact absurd e9q7.symm (Nat.ne_of_lt c8q7.2.2.1) | exact absurd e9q7.symm (Nat.ne_of_lt c8q7.2.2.2.1) | exact absurd e9q7.symm (Nat.ne_of_lt c8q7.2.2.2.2.1) | exact absurd e9q7.symm (Nat.ne_of_lt c8q7.2.2.2.2.2.1) | exact absurd e9q7.symm (Nat.ne_of_lt c8q7.2.2.2.2.2.2.1) | exact absurd e9q7.symm (Nat.ne_of_lt c8q7.2.2.2.2.2.2.2.1) | exact absurd e9q7.symm (Nat.ne_of_lt c8q7.2.2.2.2.2.2.2.2.1) | exact absurd e9q7.symm (Nat.ne_of_lt c8q7.2) | exact absurd e9q7.symm (Nat.ne_of_lt c8q7.2.2) | exact absurd e9q7.symm (Nat.ne_of_lt c8q7.2.2.2) | exact absurd e9q7.symm (Nat.ne_of_lt c8q7.2.2.2.2) | exact absurd e9q7.symm (Nat.ne_of_lt c8q7.2.2.2.2.2) | exact absurd e9q7.symm (Nat.ne_of_lt c8q7.2.2.2.2.2.2) | exact absurd e9q7.symm (Nat.ne_of_lt c8q7.2.2.2.2.2.2.2) | exact absurd e9q7.symm (Nat.ne_of_lt c8q7.2.2.2.2.2.2.2.2) | exact absurd e9q7.symm (Nat.ne_of_lt c8q7.2.2.2.2.2.2.2.2.2))))
    k_with "x52" => (((repeat (rename And _ _ => c9q7; clear c9q7)); omega))
    k_with "x53" => ((k_here; (with_reducible show wpAny _ _ (eval (Expr.ListComp _ [PySem.Comprehension.mk _ _ [] _] _ _) _) _ _ _); k_dflt (refine lcU (by k_asm) (by with_unfolding_all rfl) (by decide) (by rfl) (by decide) (by rfl) ?_)))
    k_with "x54" => ((k_here; (with_reducible show wpAny _ _ (eval (Expr.ListComp _ [PySem.Comprehension.mk _ _ [_] _] _ _) _) _ _ _); k_dflt (refine lcT (by k_asm) (by with_unfolding_all rfl) (by decide) (by rfl) (by decide) (by rfl) ?_)))
    k_with "x55" => ((k_here; k_dflt (refine lcAU (by k_asm) (by rfl) (by with_unfolding_all rfl) (by with_unfolding_all rfl) (by decide) (by rfl) (by decide) (by rfl) (by rfl) (by rfl) ?_)))
    k_with "x56" => ((k_here; (with_reducible show wpAny _ _ (call (Value.ref 147) _) _ _ _); k_dflt (refine' pd_use (c_draw _ _ _ ?h1x56 ?h2x56) ?k1x56 ?k2x56 ?k3x56 ?k4x56 ?kKx56 ?k5x56 ?kdx56 ?kux56 ?m1x56 ?m2x56 ?pqx56 ?hIx56 ?hlx56 ?hxx56 ?hx2x56 ?hyx56 ?_; (case k1x56 => k_asm); (case k2x56 => k_asm); (case k3x56 => k_asm); (case k4x56 => k_asm); (case kKx56 => first | exact rfl | assumption); (case k5x56 => k_asm); (case kdx56 => ktr_room); (case kux56 => ktr_units); (case m1x56 => k_mem); (case m2x56 => k_mem); (case pqx56 => first | assumption | walk_at "a ne"); (case hIx56 => assumption); (case hlx56 => first | assumption | walk_at "a om"); (case hxx56 => first | assumption | walk_at "a om"); (case hx2x56 => first | assumption | walk_at "a om"); (case hyx56 => first | assumption | walk_at "a om"); (case h1x56 => walk_at "a om"); (case h2x56 => walk_at "a om")); (rintro r9q7 v9q7 x9q7 tx9q7 y9q7 ty9q7 h9q7 tk9q7 F9q7 N9q7 r1q7 r2q7 x1q7 x2q7 y1q7 ⟨t9q7, e9q7⟩); (subst e9q7); (simp only [List.map_cons, List.map_nil] at N9q7); (repeat (first | rw [if_pos trivial] at N9q7 | rw [if_pos rfl] at N9q7 | rw [if_neg (by walk_at "a ne")] at N9q7)); (try dsimp only)))
    k_with "x57" => ((k_here; (with_reducible show wpAny _ _ (call (Value.ref 154) _) _ _ _); k_dflt (k_extra "my pick")))
    k_with "x58" => ((k_here; (with_reducible refine gm_bjoin ?_)))
    k_with "x59" => ((k_here; k_dflt (refine ne_same (by with_unfolding_all rfl) ?_)))
    k_with "x60" => ((k_here; k_dflt (refine ne_same_b (by with_unfolding_all rfl) ?_)))
    k_with "x61" => (((show GoodW _ _ _ _ _ (.ok (.ret (.bool true))) _); (refine goodW_bool (by assumption) (by assumption) (raisesW_false ?nnx61) ?ppx61); (case nnx61 => wrow_none_raised); (case ppx61 => with_unfolding_all rfl)))
    k_with "x62" => ((intro i9q7 u9q7 I9q7 oI9q7 C9q7 oC9q7 D9q7 m9q7 ys9q7 h9q7 tk9q7 E9q7 hi9q7 hC9q7 hx9q7 F9q7 N9q7 off9q7 ne9q7; (have off9pq7 := off9q7); (simp only [LCg.Off3, and_true] at off9pq7); (try k_fold)))
    k_with "x63" => ((rename News _ _ _ _ => nEq7; exact LCg.CompEnd.intro (by assumption) nEq7 _ (by lcg_sub) (by assumption) (by first | trivial | k_mem) ⟨rfl, _, rfl⟩))
    k_with "my cend" =>
      (walk_at "turn out")
    intro i9 u9 I9 oI9 C9 oC9 D9 m9 ys9 h9 tk9 E9 hi9 hC9 hx9 F9 N9 off9 ne9
    have off9' := off9
    simp only [LCg.Off3, and_true] at off9'
    obtain ⟨hc0, hc1⟩ := hpA1 _ (getD_mem hi9)
    try k_fold
    k_steps
  intro gB1 ysB1 hysB1
  replace hysB1 := hysB1.ints
  rw [range_getD _ _ fun c => c, List.map_id'] at hysB1
  clear lN lF
  k_with_none
  k_with "x1" => ((refine wpAny_call ?_; first   | (refine' code_defG (news := []) ?k1x1 ?k2x1 ?k3x1 News.nil ?k5x1 ?kAx1 ?kFx1 ?kKx1 ?k6x1 ?k7x1 ?k8x1 ?k9x1 ?kBx1 ?_ ?c2x1 ?c3x1 ?c4x1 ?c5x1; (case kAx1 => exact rfl); (case kFx1 => exact rfl); (case kKx1 => assumption); (case k1x1 => k_asm); (case k2x1 => k_asm); (case k3x1 => k_asm); (case k5x1 => k_asm); (case k6x1 => k_is); (case k7x1 => k_is); (case k8x1 => ktr_room); (case k9x1 => exact BindsTo.of_eq rfl); (case c5x1 => decide); (case kBx1 => exact locs rfl); (case c2x1 => exact rfl); (case c3x1 => exact rfl); (case c4x1 => exact rfl); k_whole; intro gpq7 Lpq7 hpq7 FGpq7 Fpq7 Npq7 Bpq7 Xpq7 Tpq7 kGpq7; (try dsimp only); (try k_fold))   | (refine' code_defGC (news := []) ?k1x1 ?k2x1 ?k3x1 News.nil ?k5x1 ?kAx1 ?kFx1 ?kKx1 ?k6x1 ?k7x1 ?k8x1 ?k9x1 ?kBx1 ?kDx1 ?_ ?c2x1 ?c3x1 ?c4x1; (case kAx1 => exact rfl); (case kFx1 => exact rfl); (case kKx1 => assumption); (case k1x1 => k_asm); (case k2x1 => k_asm); (case k3x1 => k_asm); (case k5x1 => k_asm); (case k6x1 => k_is); (case k7x1 => k_is); (case k8x1 => ktr_room); (case k9x1 => exact BindsTo.of_eq rfl); (case kBx1 => exact rfl); (case kDx1 => decide +kernel); (case c2x1 => exact rfl); (case c3x1 => exact rfl); (case c4x1 => exact rfl); k_whole; intro gpq7 Lpq7 hpq7 tkpq7 cellspq7 FGpq7 Fpq7 Npq7 Ypq7 Bpq7 Xpq7 Tpq7 l1q7 kGpq7; clear l1q7; k_cells Ypq7; (try simp only [List.cons_append, List.nil_append] at Npq7); (try dsimp only); (try k_fold))))
  k_with "calls" => (cell_ask (c_need_charset _ _ _ (by assumption)))
  k_with "calls" => (cell_ask (c_has_sign _ _ _ _ _ (by assumption)))
  k_with "calls" => (cell_ask (c_utf8_octets _ _ _ (by assumption)))
  k_with "calls" => (cell_ask (c_utf8_sign _ _ _ _ _ (by first | assumption | omega) (by first | assumption | omega) (by first | assumption | omega)))
  k_with "calls" => (cell_ask (c_sign_at' _ _ _ _ _ _ _ (by assumption) (by first | assumption | omega) (by first | assumption | omega) (by first | assumption | omega)))
  k_with "x15" => ((intro zq7 h2q7 h3q7; (simp only [List.forall_mem_cons, List.not_mem_nil, false_implies, implies_true, and_true, ne_eq] at h2q7); (simp only [List.contains_cons, List.contains_nil, Bool.or_false, Bool.or_eq_false_iff, beq_eq_false_iff_ne, ne_eq] at h3q7); simp [kstB, h2q7, h3q7]))
  k_with "calls" => (cell_ask (c_text_in _ _ _ _ _ (by assumption) (by assumption)))
  k_with "calls" => (cell_ask (c_strict_text _ _ _ _ _ (by assumption) (by assumption) (by assumption)))
  k_with "x18" => ((k_here; k_dflt (refine item_text (by first | assumption | omega) (by first | assumption | omega) (by first | assumption | omega) ?_)))
  k_with "x19" => ((k_here; k_dflt (refine len_text (by first | assumption | omega) ?_)))
  k_with "x20" => ((k_here; k_dflt (refine ord_one (by first | assumption | omega) ?_)))
  k_with "calls" => (cell_ask (c_has_sign_true _ _ _ _ _ (by assumption) (by assumption)))
  k_with "x22" => ((intro zq7 h1q7 h2q7 h3q7; (simp only [List.forall_mem_cons, List.not_mem_nil, false_implies, implies_true, and_true, ne_eq] at h2q7); (simp only [List.contains_cons, List.contains_nil, Bool.or_false, Bool.or_eq_false_iff, beq_eq_false_iff_ne, ne_eq] at h3q7); simp [kstB, h1q7, h2q7, h3q7]))
  k_with "calls" => (cell_ask (c_octets_in0 _ _ _ _ _ (by assumption) (by first | assumption | omega) (by assumption)))
  k_with "calls" => (cell_ask (c_best_charset _ _ _ (by first | assumption | omega) (by assumption)))
  k_with "x50" => ((k_dflt ((show ¬ @Eq Nat _ _); intro e9q7; (repeat (rename And _ _ => c9q7; obtain ⟨_, _⟩ := c9q7)); first | exact absurd e9q7 (by assumption) | exact absurd e9q7.symm (by assumption) | exact absurd e9q7 (Nat.ne_of_lt (by assumption)) | exact absurd e9q7.symm (Nat.ne_of_lt (by assumption)) | omega)))
  k_with "x51" => ((refine neN ?_; (try dsimp only); intro e9q7; (rename And _ _ => c9q7); first | exact absurd e9q7 c9q7.1 | exact absurd e9q7 c9q7.2.1 | exact absurd e9q7 c9q7.2.2.1 | exact absurd e9q7 c9q7.2.2.2.1 | exact absurd e9q7 c9q7.2.2.2.2.1 | exact absurd e9q7 c9q7.2.2.2.2.2.1 | exact absurd e9q7 c9q7.2.2.2.2.2.2.1 | exact absurd e9q7 c9q7.2.2.2.2.2.2.2.1 | exact absurd e9q7 c9q7.2.2.2.2.2.2.2.2.1 | exact absurd e9q7 c9q7.2 | exact absurd e9q7 c9q7.2.2 | exact absurd e9q7 c9q7.2.2.2 | exact absurd e9q7 c9q7.2.2.2.2 | exact absurd e9q7 c9q7.2.2.2.2.2 | exact absurd e9q7 c9q7.2.2.2.2.2.2 | exact absurd e9q7 c9q7.2.2.2.2.2.2.2 | exact absurd e9q7 c9q7.2.2.2.2.2.2.2.2 | exact absurd e9q7 c9q7.2.2.2.2.2.2.2.2.2 | exact absurd e9q7.symm c9q7.1 | exact absurd e9q7.symm c9q7.2.1 | exact absurd e9q7.symm c9q7.2.2.1 | exact absurd e9q7.symm c9q7.2.2.2.1 | exact absurd e9q7.symm c9q7.2.2.2.2.1 | exact absurd e9q7.symm c9q7.2.2.2.2.2.1 | exact absurd e9q7.symm c9q7.2.2.2.2.2.2.1 | exact absurd e9q7.symm c9q7.2.2.2.2.2.2.2.1 | exact absurd e9q7.symm c9q7.2.2.2.2.2.2.2.2.1 | exact absurd e9q7.symm c9q7.2 | exact absurd e9q7.symm c9q7.2.2 | exact absurd e9q7.symm c9q7.2.2.2 | exact absurd e9q7.symm c9q7.2.2.2.2 | exact absurd e9q7.symm c9q7.2.2.2.2.2 | exact absurd e9q7.symm c9q7.2.2.2.2.2.2 | exact absurd e9q7.symm c9q7.2.2.2.2.2.2.2 | exact absurd e9q7.symm c9q7.2.2.2.2.2.2.2.2 | exact absurd e9q7.symm c9q7.2.2.2.2.2.2.2.2.2 | exact absurd e9q7 (Nat.ne_of_lt c9q7.1) | exact absurd e9q7 (Nat.ne_of_lt c9q7.2.1) | exact absurd e9q7 (Nat.ne_of_lt c9q7.2.2.1) | exact absurd e9q7 (Nat.ne_of_lt c9q7.2.2.2.1) | exact absurd e9q7 (Nat.ne_of_lt c9q7.2.2.2.2.1) | exact absurd e9q7 (Nat.ne_of_lt c9q7.2.2.2.2.2.1) | exact absurd e9q7 (Nat.ne_of_lt c9q7.2.2.2.2.2.2.1) | exact absurd e9q7 (Nat.ne_of_lt c9q7.2.2.2.2.2.2.2.1) | exact absurd e9q7 (Nat.ne_of_lt c9q7.2.2.2.2.2.2.2.2.1) | exact absurd e9q7 (Nat.ne_of_lt c9q7.2) | exact absurd e9q7 (Nat.ne_of_lt c9q7.2.2) | exact absurd e9q7 (Nat.ne_of_lt c9q7.2.2.2) | exact absurd e9q7 (Nat.ne_of_lt c9q7.2.2.2.2) | exact absurd e9q7 (Nat.ne_of_lt c9q7.2.2.2.2.2) | exact absurd e9q7 (Nat.ne_of_lt c9q7.2.2.2.2.2.2) | exact absurd e9q7 (Nat.ne_of_lt c9q7.2.2.2.2.2.2.2) | exact absurd e9q7 (Nat.ne_of_lt c9q7.2.2.2.2.2.2.2.2) | exact absurd e9q7 (Nat.ne_of_lt c9q7.2.2.2.2.2.2.2.2.2) | exact absurd e9q7.symm (Nat.ne_of_lt c9q7.1) | exact absurd e9q7.symm (Nat.ne_of_lt c9q7.2.1) | exact absurd e9q7.symm (Nat.ne_of_lt c9q7.2.2.1) | exact absurd e9q7.symm (Nat.ne_of_lt c9q7.2.2.2.1) | exact absurd e9q7.symm (Nat.ne_of_lt c9q7.2.2.2.2.1) | exact absurd e9q7.symm (Nat.ne_of_lt c9q7.2.2.2.2.2.1) | exact absurd e9q7.symm (Nat.ne_of_lt c9q7.2.2.2.2.2.2.1) | exact absurd e9q7.symm (Nat.ne_of_lt c9q7.2.2.2.2.2.2.2.1) | exact absurd e9q7.symm (Nat.ne_of_lt c9q7.2.2.2.2.2.2.2.2.1) | exact absurd e9q7.symm (Nat.ne_of_lt c9q7.2) | exact absurd e9q7.symm (Nat.ne_of_lt c9q7.2.2) | exact absurd e9q7.symm (Nat.ne_of_lt c9q7.2.2.2) | exact absurd e9q7.symm (Nat.ne_of_lt c9q7.2.2.2.2) | exact absurd e9q7.symm (Nat.ne_of_lt c9q7.2.2.2.2.2) | exact absurd e9q7.symm (Nat.ne_of_lt c9q7.2.2.2.2.2.2) | exact absurd e9q7.symm (Nat.ne_of_lt c9q7.2.2.2.2.2.2.2) | exact absurd e9q7.symm (Nat.ne_of_lt c9q7.2.2.2.2.2.2.2.2) | exact absurd e9q7.symm (Nat.ne_of_lt c9q7.2.2.2.2.2.2.2.2.2) | (clear c9q7; (rename And _ _ => c8q7); first | exact absurd e9q7 c8q7.1 | exact absurd e9q7 c8q7.2.1 | exact absurd e9q7 c8q7.2.2.1 | exact absurd e9q7 c8q7.2.2.2.1 | exact absurd e9q7 c8q7.2.2.2.2.1 | exact absurd e9q7 c8q7.2.2.2.2.2.1 | exact absurd e9q7 c8q7.2.2.2.2.2.2.1 | exact absurd e9q7 c8q7.2.2.2.2.2.2.2.1 | exact absurd e9q7 c8q7.2.2.2.2.2.2.2.2.1 | exact absurd e9q7 c8q7.2 | exact absurd e9q7 c8q7.2.2 | exact absurd e9q7 c8q7.2.2.2 | exact absurd e9q7 c8q7.2.2.2.2 | exact absurd e9q7 c8q7.2.2.2.2.2 | exact absurd e9q7 c8q7.2.2.2.2.2.2 | exact absurd e9q7 c8q7.2.2.2.2.2.2.2 | exact absurd e9q7 c8q7.2.2.2.2.2.2.2.2 | exact absurd e9q7 c8q7.2.2.2.2.2.2.2.2.2 | exact absurd e9q7.symm c8q7.1 | exact absurd e9q7.symm c8q7.2.1 | exact absurd e9q7.symm c8q7.2.2.1 | exact absurd e9q7.symm c8q7.2.2.2.1 | exact absurd e9q7.symm c8q7.2.2.2.2.1 | exact absurd e9q7.symm c8q7.2.2.2.2.2.1 | exact absurd e9q7.symm c8q7.2.2.2.2.2.2.1 | exact absurd e9q7.symm c8q7.2.2.2.2.2.2.2.1 | exact absurd e9q7.symm c8q7.2.2.2.2.2.2.2.2.1 | exact absurd e9q7.symm c8q7.2 | exact absurd e9q7.symm c8q7.2.2 | exact absurd e9q7.symm c8q7.2.2.2 | exact absurd e9q7.symm c8q7.2.2.2.2 | exact absurd e9q7.symm c8q7.2.2.2.2.2 | exact absurd e9q7.symm c8q7.2.2.2.2.2.2 | exact absurd e9q7.symm c8q7.2.2.2.2.2.2.2 | exact absurd e9q7.symm c8q7.2.2.2.2.2.2.2.2 | exact absurd e9q7.symm c8q7.2.2.2.2.2.2.2.2.2 | exact absurd e9q7 (Nat.ne_of_lt c8q7.1) | exact absurd e9q7 (Nat.ne_of_lt c8q7.2.1) | exact absurd e9q7 (Nat.ne_of_lt c8q7.2.2.1) | exact absurd e9q7 (Nat.ne_of_lt c8q7.2.2.2.1) | exact absurd e9q7 (Nat.ne_of_lt c8q7.2.2.2.2.1) | exact absurd e9q7 (Nat.ne_of_lt c8q7.2.2.2.2.2.1) | exact absurd e9q7 (Nat.ne_of_lt c8q7.2.2.2.2.2.2.1) | exact absurd e9q7 (Nat.ne_of_lt c8q7.2.2.2.2.2.2.2.1) | exact absurd e9q7 (Nat.ne_of_lt c8q7.2.2.2.2.2.2.2.2.1) | exact absurd e9q7 (Nat.ne_of_lt c8q7.2) | exact absurd e9q7 (Nat.ne_of_lt c8q7.2.2) | exact absurd e9q7 (Nat.ne_of_lt c8q7.2.2.2) | exact absurd e9q7 (Nat.ne_of_lt c8q7.2.2.2.2) | exact absurd e9q7 (Nat.ne_of_lt c8q7.2.2.2.2.2) | exact absurd e9q7 (Nat.ne_of_lt c8q7.2.2.2.2.2.2) | exact absurd e9q7 (Nat.ne_of_lt c8q7.2.2.2.2.2.2.2) | exact absurd e9q7 (Nat.ne_of_lt c8q7.2.2.2.2.2.2.2.2) | exact absurd e9q7 (Nat.ne_of_lt c8q7.2.2.2.2.2.2.2.2.2) | exact absurd e9q7.symm (Nat.ne_of_lt c8q7.1) | exact absurd e9q7.symm (Nat.ne_of_lt c8q7.2.1) | exact absurd e9q7.symm (Nat.ne_of_lt c8q7.2.2.1) | exact absurd e9q7.symm (Nat.ne_of_lt c8q7.2.2.2.1) | exact absurd e9q7.symm (Nat.ne_of_lt c8q7.2.2.2.2.1) | exact absurd e9q7.symm (Nat.ne_of_lt c8q7.2.2.2.2.2.1) | exact absurd e9q7.symm (Nat.ne_of_lt c8q7.2.2.2.2.2.2.1) | exact absurd e9q7.symm (Nat.ne_of_lt c8q7.2.2.2.2.2.2.2.1) | exact absurd e9q7.symm (Nat.ne_of_lt c8q7.2.2.2.2.2.2.2.2.1) | exact absurd e9q7.symm (Nat.ne_of_lt c8q7.2) | exact absurd e9q7.symm (Nat.ne_of_lt c8q7.2.2) | exact absurd e9q7.symm (Nat.ne_of_lt c8q7.2.2.2) | exact absurd e9q7.symm (Nat.ne_of_lt c8q7.2.2.2.2) | exact absurd e9q7.symm (Nat.ne_of_lt c8q7.2.2.2.2.2) | exact absurd e9q7.symm (Nat.ne_of_lt c8q7.2.2.2.2.2.2) | exact absurd e9q7.symm (Nat.ne_of_lt c8q7.2.2.2.2.2.2.2) | exact absurd e9q7.symm (Nat.ne_of_lt c8q7.2.2.2.2.2.2.2.2) | exact absurd e9q7.symm (Nat.ne_of_lt c8q7.2.2.2.2.2.2.2.2.2))))
  k_with "x52" => (((repeat (rename And _ _ => c9q7; clear c9q7)); omega))
  k_with "x53" => ((k_here; (with_reducible show wpAny _ _ (eval (Expr.ListComp _ [PySem.Comprehension.mk _ _ [] _] _ _) _) _ _ _); k_dflt (refine lcU (by k_asm) (by with_unfolding_all rfl) (by decide) (by rfl) (by decide) (by rfl) ?_)))
  k_with "x54" => ((k_here; (with_reducible show wpAny _ _ (eval (Expr.ListComp _ [PySem.Comprehension.mk _ _ [_] _] _ _) _) _ _ _); k_dflt (refine lcT (by k_asm) (by with_unfolding_all rfl) (by decide) (by rfl) (by decide) (by rfl) ?_)))
  k_with "x55" => ((k_here; k_dflt (refine lcAU (by k_asm) (by rfl) (by with_unfolding_all rfl) (by with_unfolding_all rfl) (by decide) (by rfl) (by decide) (by rfl) (by rfl) (by rfl) ?_)))
  k_with "x56" => ((k_here; (with_reducible show wpAny _ _ (call (Value.ref 147) _) _ _ _); k_dflt (refine' pd_use (c_draw _ _ _ ?h1x56 ?h2x56) ?k1x56 ?k2x56 ?k3x56 ?k4x56 ?kKx56 ?k5x56 ?kdx56 ?kux56 ?m1x56 ?m2x56 ?pqx56 ?hIx56 ?hlx56 ?hxx56 ?hx2x56 ?hyx56 ?_; (case k1x56 => k_asm); (case k2x56 => k_asm); (case k3x56 => k_asm); (case k4x56 => k_asm); (case kKx56 => first | exact rfl | assumption); (case k5x56 => k_asm); (case kdx56 => ktr_room); (case kux56 => ktr_units); (case m1x56 => k_mem); (case m2x56 => k_mem); (case pqx56 => first | assumption | walk_at "a ne"); (case hIx56 => assumption); (case hlx56 => first | assumption | walk_at "a om"); (case hxx56 => first | assumption | walk_at "a om"); (case hx2x56 => first | assumption | walk_at "a om"); (case hyx56 => first | assumption | walk_at "a om"); (case h1x56 => walk_at "a om"); (case h2x56 => walk_at "a om")); (rintro r9q7 v9q7 x9q7 tx9q7 y9q7 ty9q7 h9q7 tk9q7 F9q7 N9q7 r1q7 r2q7 x1q7 x2q7 y1q7 ⟨t9q7, e9q7⟩); (subst e9q7); (simp only [List.map_cons, List.map_nil] at N9q7); (repeat (first | rw [if_pos trivial] at N9q7 | rw [if_pos rfl] at N9q7 | rw [if_neg (by walk_at "a ne")] at N9q7)); (try dsimp only)))
  k_with "x57" => ((k_here; (with_reducible show wpAny _ _ (call (Value.ref 154) _) _ _ _); k_dflt (k_extra "my pick")))
  k_with "x58" => ((k_here; (with_reducible refine gm_bjoin ?_)))
  k_with "x59" => ((k_here; k_dflt (refine ne_same (by with_unfolding_all rfl) ?_)))
  k_with "x60" => ((k_here; k_dflt (refine ne_same_b (by with_unfolding_all rfl) ?_)))
  k_with "x61" => (((show GoodW _ _ _ _ _ (.ok (.ret (.bool true))) _); (refine goodW_bool (by assumption) (by assumption) (raisesW_false ?nnx61) ?ppx61); (case nnx61 => wrow_none_raised); (case ppx61 => with_unfolding_all rfl)))
  k_with "x62" => ((intro i9q7 u9q7 I9q7 oI9q7 C9q7 oC9q7 D9q7 m9q7 ys9q7 h9q7 tk9q7 E9q7 hi9q7 hC9q7 hx9q7 F9q7 N9q7 off9q7 ne9q7; (have off9pq7 := off9q7); (simp only [LCg.Off3, and_true] at off9pq7); (try k_fold)))
  k_with "x63" => ((rename News _ _ _ _ => nEq7; exact LCg.CompEnd.intro (by assumption) nEq7 _ (by lcg_sub) (by assumption) (by first | trivial | k_mem) ⟨rfl, _, rfl⟩))
  k_with "my bytes" =>
    (refine' bytes_K ?F ?N ?l ?i ?r ?z ?h ?_)
    (case F => k_asm)
    (case N => k_asm)
    (case l => exact News.isList (by k_asm) (by k_mem))
    (case i => exact hysB1)
    (case r => exact fun n hn => ⟨(hpA1 n hn).1, by have := (hpm1 n hn).2; walk_at "a om"⟩)
    (case z => rw [hysB1.length, sizeLine_eq]; exact le_line hpl1)
    (case h => rfl)
    (rw [pl_bytes (x := Str.ofString "iso-8859-1") (.inr rfl)])
    (intro h' t9' k9' F9' N9' _)
    (try dsimp only)
  k_steps
  rename News _ _ _ _ => lN
  rename Fr _ _ _ _ => lF
  replace lN := news_erase 0 lN
  simp only [List.eraseIdx_cons_succ, List.eraseIdx_cons_zero] at lN
  rename IsRange _ _ _ _ _ _ _ _ => lR
  refine map_range (n := ps1.length + 1) (fun i v => ∃ u, v = .str (textOf (ps1.take i)) u) lF lN rfl lR (len_p1 hbl1) (lt_p1 hpl1) ?_ ?_
  case refine_1 =>
    clear lN lF lR
    k_with_none
    k_with "x1" => ((refine wpAny_call ?_; first   | (refine' code_defG (news := []) ?k1x1 ?k2x1 ?k3x1 News.nil ?k5x1 ?kAx1 ?kFx1 ?kKx1 ?k6x1 ?k7x1 ?k8x1 ?k9x1 ?kBx1 ?_ ?c2x1 ?c3x1 ?c4x1 ?c5x1; (case kAx1 => exact rfl); (case kFx1 => exact rfl); (case kKx1 => assumption); (case k1x1 => k_asm); (case k2x1 => k_asm); (case k3x1 => k_asm); (case k5x1 => k_asm); (case k6x1 => k_is); (case k7x1 => k_is); (case k8x1 => ktr_room); (case k9x1 => exact BindsTo.of_eq rfl); (case c5x1 => decide); (case kBx1 => exact locs rfl); (case c2x1 => exact rfl); (case c3x1 => exact rfl); (case c4x1 => exact rfl); k_whole; intro gpq7 Lpq7 hpq7 FGpq7 Fpq7 Npq7 Bpq7 Xpq7 Tpq7 kGpq7; (try dsimp only); (try k_fold))   | (refine' code_defGC (news := []) ?k1x1 ?k2x1 ?k3x1 News.nil ?k5x1 ?kAx1 ?kFx1 ?kKx1 ?k6x1 ?k7x1 ?k8x1 ?k9x1 ?kBx1 ?kDx1 ?_ ?c2x1 ?c3x1 ?c4x1; (case kAx1 => exact rfl); (case kFx1 => exact rfl); (case kKx1 => assumption); (case k1x1 => k_asm); (case k2x1 => k_asm); (case k3x1 => k_asm); (case k5x1 => k_asm); (case k6x1 => k_is); (case k7x1 => k_is); (case k8x1 => ktr_room); (case k9x1 => exact BindsTo.of_eq rfl); (case kBx1 => exact rfl); (case kDx1 => decide +kernel); (case c2x1 => exact rfl); (case c3x1 => exact rfl); (case c4x1 => exact rfl); k_whole; intro gpq7 Lpq7 hpq7 tkpq7 cellspq7 FGpq7 Fpq7 Npq7 Ypq7 Bpq7 Xpq7 Tpq7 l1q7 kGpq7; clear l1q7; k_cells Ypq7; (try simp only [List.cons_append, List.nil_append] at Npq7); (try dsimp only); (try k_fold))))
    k_with "calls" => (cell_ask (c_need_charset _ _ _ (by assumption)))
    k_with "calls" => (cell_ask (c_has_sign _ _ _ _ _ (by assumption)))
    k_with "calls" => (cell_ask (c_utf8_octets _ _ _ (by assumption)))
    k_with "calls" => (cell_ask (c_utf8_sign _ _ _ _ _ (by first | assumption | omega) (by first | assumption | omega) (by first | assumption | omega)))
    k_with "calls" => (cell_ask (c_sign_at' _ _ _ _ _ _ _ (by assumption) (by first | assumption | omega) (by first | assumption | omega) (by first | assumption | omega)))
    k_with "x15" => ((intro zq7 h2q7 h3q7; (simp only [List.forall_mem_cons, List.not_mem_nil, false_implies, implies_true, and_true, ne_eq] at h2q7); (simp only [List.contains_cons, List.contains_nil, Bool.or_false, Bool.or_eq_false_iff, beq_eq_false_iff_ne, ne_eq] at h3q7); simp [kstB, h2q7, h3q7]))
    k_with "calls" => (cell_ask (c_text_in _ _ _ _ _ (by assumption) (by assumption)))
    k_with "calls" => (cell_ask (c_strict_text _ _ _ _ _ (by assumption) (by assumption) (by assumption)))
    k_with "x18" => ((k_here; k_dflt (refine item_text (by first | assumption | omega) (by first | assumption | omega) (by first | assumption | omega) ?_)))
    k_with "x19" => ((k_here; k_dflt (refine len_text (by first | assumption | omega) ?_)))
    k_with "x20" => ((k_here; k_dflt (refine ord_one (by first | assumption | omega) ?_)))
    k_with "calls" => (cell_ask (c_has_sign_true _ _ _ _ _ (by assumption) (by assumption)))
    k_with "x22" => ((intro zq7 h1q7 h2q7 h3q7; (simp only [List.forall_mem_cons, List.not_mem_nil, false_implies, implies_true, and_true, ne_eq] at h2q7); (simp only [List.contains_cons, List.contains_nil, Bool.or_false, Bool.or_eq_false_iff, beq_eq_false_iff_ne, ne_eq] at h3q7); simp [kstB, h1q7, h2q7, h3q7]))
    k_with "calls" => (cell_ask (c_octets_in0 _ _ _ _ _ (by assumption) (by first | assumption | omega) (by assumption)))
    k_with "calls" => (cell_ask (c_best_charset _ _ _ (by first | assumption | omega) (by assumption)))
    k_with "x50" => ((k_dflt ((show ¬ @Eq Nat _ _); intro e9q7; (repeat (rename And _ _ => c9q7; obtain ⟨_, _⟩ := c9q7)); first | exact absurd e9q7 (by assumption) | exact absurd e9q7.symm (by assumption) | exact absurd e9q7 (Nat.ne_of_lt (by assumption)) | exact absurd e9q7.symm (Nat.ne_of_lt (by assumption)) | omega)))
    k_with "x51" => ((refine neN ?_; (try dsimp only); intro e9q7; (rename And _ _ => c9q7); first | exact absurd e9q7 c9q7.1 | exact absurd e9q7 c9q7.2.1 | exact absurd e9q7 c9q7.2.2.1 | exact absurd e9q7 c9q7.2.2.2.1 | exact absurd e9q7 c9q7.2.2.2.2.1 | exact absurd e9q7 c9q7.2.2.2.2.2.1 | exact absurd e9q7 c9q7.2.2.2.2.2.2.1 | exact absurd e9q7 c9q7.2.2.2.2.2.2.2.1 | exact absurd e9q7 c9q7.2.2.2.2.2.2.2.2.1 | exact absurd e9q7 c9q7.2 | exact absurd e9q7 c9q7.2.2 | exact absurd e9q7 c9q7.2.2.2 | exact absurd e9q7 c9q7.2.2.2.2 | exact absurd e9q7 c9q7.2.2.2.2.2 | exact absurd e9q7 c9q7.2.2.2.2.2.2 | exact absurd e9q7 c9q7.2.2.2.2.2.2.2 | exact absurd e9q7 c9q7.2.2.2.2.2.2.2.2 | exact absurd e9q7 c9q7.2.2.2.2.2.2.2.2.2 | exact absurd e9q7.symm c9q7.1 | exact absurd e9q7.symm c9q7.2.1 | exact absurd e9q7.symm c9q7.2.2.1 | exact absurd e9q7.symm c9q7.2.2.2.1 | exact absurd e9q7.symm c9q7.2.2.2.2.1 | exact absurd e9q7.symm c9q7.2.2.2.2.2.1 | exact absurd e9q7.symm c9q7.2.2.2.2.2.2.1 | exact absurd e9q7.symm c9q7.2.2.2.2.2.2.2.1 | exact absurd e9q7.symm c9q7.2.2.2.2.2.2.2.2.1 | exact absurd e9q7.symm c9q7.2 | exact absurd e9q7.symm c9q7.2.2 | exact absurd e9q7.symm c9q7.2.2.2 | exact absurd e9q7.symm c9q7.2.2.2.2 | exact absurd e9q7.symm c9q7.2.2.2.2.2 | exact absurd e9q7.symm c9q7.2.2.2.2.2.2 | exact absurd e9q7.symm c9q7.2.2.2.2.2.2.2 | exact absurd e9q7.symm c9q7.2.2.2.2.2.2.2.2 | exact absurd e9q7.symm c9q7.2.2.2.2.2.2.2.2.2 | exact absurd e9q7 (Nat.ne_of_lt c9q7.1) | exact absurd e9q7 (Nat.ne_of_lt c9q7.2.1) | exact absurd e9q7 (Nat.ne_of_lt c9q7.2.2.1) | exact absurd e9q7 (Nat.ne_of_lt c9q7.2.2.2.1) | exact absurd e9q7 (Nat.ne_of_lt c9q7.2.2.2.2.1) | exact absurd e9q7 (Nat.ne_of_lt c9q7.2.2.2.2.2.1) | exact absurd e9q7 (Nat.ne_of_lt c9q7.2.2.2.2.2.2.1) | exact absurd e9q7 (Nat.ne_of_lt c9q7.2.2.2.2.2.2.2.1) | exact absurd e9q7 (Nat.ne_of_lt c9q7.2.2.2.2.2.2.2.2.1) | exact absurd e9q7 (Nat.ne_of_lt c9q7.2) | exact absurd e9q7 (Nat.ne_of_lt c9q7.2.2) | exact absurd e9q7 (Nat.ne_of_lt c9q7.2.2.2) | exact absurd e9q7 (Nat.ne_of_lt c9q7.2.2.2.2) | exact absurd e9q7 (Nat.ne_of_lt c9q7.2.2.2.2.2) | exact absurd e9q7 (Nat.ne_of_lt c9q7.2.2.2.2.2.2) | exact absurd e9q7 (Nat.ne_of_lt c9q7.2.2.2.2.2.2.2) | exact absurd e9q7 (Nat.ne_of_lt c9q7.2.2.2.2.2.2.2.2) | exact absurd e9q7 (Nat.ne_of_lt c9q7.2.2.2.2.2.2.2.2.2) | exact absurd e9q7.symm (Nat.ne_of_lt c9q7.1) | exact absurd e9q7.symm (Nat.ne_of_lt c9q7.2.1) | exact absurd e9q7.symm (Nat.ne_of_lt c9q7.2.2.1) | exact absurd e9q7.symm (Nat.ne_of_lt c9q7.2.2.2.1) | exact absurd e9q7.symm (Nat.ne_of_lt c9q7.2.2.2.2.1) | exact absurd e9q7.symm (Nat.ne_of_lt c9q7.2.2.2.2.2.1) | exact absurd e9q7.symm (Nat.ne_of_lt c9q7.2.2.2.2.2.2.1) | exact absurd e9q7.symm (Nat.ne_of_lt c9q7.2.2.2.2.2.2.2.1) | exact absurd e9q7.symm (Nat.ne_of_lt c9q7.2.2.2.2.2.2.2.2.1) | exact absurd e9q7.symm (Nat.ne_of_lt c9q7.2) | exact absurd e9q7.symm (Nat.ne_of_lt c9q7.2.2) | exact absurd e9q7.symm (Nat.ne_of_lt c9q7.2.2.2) | exact absurd e9q7.symm (Nat.ne_of_lt c9q7.2.2.2.2) | exact absurd e9q7.symm (Nat.ne_of_lt c9q7.2.2.2.2.2) | exact absurd e9q7.symm (Nat.ne_of_lt c9q7.2.2.2.2.2.2) | exact absurd e9q7.symm (Nat.ne_of_lt c9q7.2.2.2.2.2.2.2) | exact absurd e9q7.symm (Nat.ne_of_lt c9q7.2.2.2.2.2.2.2.2) | exact absurd e9q7.symm (Nat.ne_of_lt c9q7.2.2.2.2.2.2.2.2.2) | (clear c9q7; (rename And _ _ => c8q7); first | exact absurd e9q7 c8q7.1 | exact absurd e9q7 c8q7.2.1 | exact absurd e9q7 c8q7.2.2.1 | exact absurd e9q7 c8q7.2.2.2.1 | exact absurd e9q7 c8q7.2.2.2.2.1 | exact absurd e9q7 c8q7.2.2.2.2.2.1 | exact absurd e9q7 c8q7.2.2.2.2.2.2.1 | exact absurd e9q7 c8q7.2.2.2.2.2.2.2.1 | exact absurd e9q7 c8q7.2.2.2.2.2.2.2.2.1 | exact absurd e9q7 c8q7.2 | exact absurd e9q7 c8q7.2.2 | exact absurd e9q7 c8q7.2.2.2 | exact absurd e9q7 c8q7.2.2.2.2 | exact absurd e9q7 c8q7.2.2.2.2.2 | exact absurd e9q7 c8q7.2.2.2.2.2.2 | exact absurd e9q7 c8q7.2.2.2.2.2.2.2 | exact absurd e9q7 c8q7.2.2.2.2.2.2.2.2 | exact absurd e9q7 c8q7.2.2.2.2.2.2.2.2.2 | exact absurd e9q7.symm c8q7.1 | exact absurd e9q7.symm c8q7.2.1 | exact absurd e9q7.symm c8q7.2.2.1 | exact absurd e9q7.symm c8q7.2.2.2.1 | exact absurd e9q7.symm c8q7.2.2.2.2.1 | exact absurd e9q7.symm c8q7.2.2.2.2.2.1 | exact absurd e9q7.symm c8q7.2.2.2.2.2.2.1 | exact absurd e9q7.symm c8q7.2.2.2.2.2.2.2.1 | exact absurd e9q7.symm c8q7.2.2.2.2.2.2.2.2.1 | exact absurd e9q7.symm c8q7.2 | exact absurd e9q7.symm c8q7.2.2 | exact absurd e9q7.symm c8q7.2.2.2 | exact absurd e9q7.symm c8q7.2.2.2.2 | exact absurd e9q7.symm c8q7.2.2.2.2.2 | exact absurd e9q7.symm c8q7.2.2.2.2.2.2 | exact absurd e9q7.symm c8q7.2.2.2.2.2.2.2 | exact absurd e9q7.symm c8q7.2.2.2.2.2.2.2.2 | exact absurd e9q7.symm c8q7.2.2.2.2.2.2.2.2.2 | exact absurd e9q7 (Nat.ne_of_lt c8q7.1) | exact absurd e9q7 (Nat.ne_of_lt c8q7.2.1) | exact absurd e9q7 (Nat.ne_of_lt c8q7.2.2.1) | exact absurd e9q7 (Nat.ne_of_lt c8q7.2.2.2.1) | exact absurd e9q7 (Nat.ne_of_lt c8q7.2.2.2.2.1) | exact absurd e9q7 (Nat.ne_of_lt c8q7.2.2.2.2.2.1) | exact absurd e9q7 (Nat.ne_of_lt c8q7.2.2.2.2.2.2.1) | exact absurd e9q7 (Nat.ne_of_lt c8q7.2.2.2.2.2.2.2.1) | exact absurd e9q7 (Nat.ne_of_lt c8q7.2.2.2.2.2.2.2.2.1) | exact absurd e9q7 (Nat.ne_of_lt c8q7.2) | exact absurd e9q7 (Nat.ne_of_lt c8q7.2.2) | exact absurd e9q7 (Nat.ne_of_lt c8q7.2.2.2) | exact absurd e9q7 (Nat.ne_of_lt c8q7.2.2.2.2) | exact absurd e9q7 (Nat.ne_of_lt c8q7.2.2.2.2.2) | exact absurd e9q7 (Nat.ne_of_lt c8q7.2.2.2.2.2.2) | exact absurd e9q7 (Nat.ne_of_lt c8q7.2.2.2.2.2.2.2) | exact absurd e9q7 (Nat.ne_of_lt c8q7.2.2.2.2.2.2.2.2) | exact absurd e9q7 (Nat.ne_of_lt c8q7.2.2.2.2.2.2.2.2.2) | exact absurd e9q7.symm (Nat.ne_of_lt c8q7.1) | exact absurd e9q7.symm (Nat.ne_of_lt c8q7.2.1) | exact absurd e9q7.symm (Nat.ne_of_lt c8q7.2.2.1) | exact absurd e9q7.symm (Nat.ne_of_lt c8q7.2.2.2.1) | exact absurd e9q7.symm (Nat.ne_of_lt c8q7.2.2.2.2.1) | exact absurd e9q7.symm (Nat.ne_of_lt c8q7.2.2.2.2.2.1) | exact absurd e9q7.symm (Nat.ne_of_lt c8q7.2.2.2.2.2.2.1) | exact absurd e9q7.symm (Nat.ne_of_lt c8q7.2.2.2.2.2.2.2.1) | exact absurd e9q7.symm (Nat.ne_of_lt c8q7.2.2.2.2.2.2.2.2.1) | exact absurd e9q7.symm (Nat.ne_of_lt c8q7.2) | exact absurd e9q7.symm (Nat.ne_of_lt c8q7.2.2) | exact absurd e9q7.symm (Nat.ne_of_lt c8q7.2.2.2) | exact absurd e9q7.symm (Nat.ne_of_lt c8q7.2.2.2.2) | exact absurd e9q7.symm (Nat.ne_of_lt c8q7.2.2.2.2.2) | exact absurd e9q7.symm (Nat.ne_of_lt c8q7.2.2.2.2.2.2) | exact absurd e9q7.symm (Nat.ne_of_lt c8q7.2.2.2.2.2.2.2) | exact absurd e9q7.symm (Nat.ne_of_lt c8q7.2.2.2.2.2.2.2.2) | exact absurd e9q7.symm (Nat.ne_of_lt c8q7.2.2.2.2.2.2.2.2.2))))
    k_with "x52" => (((repeat (rename And _ _ => c9q7; clear c9q7)); omega))
    k_with "x53" => ((k_here; (with_reducible show wpAny _ _ (eval (Expr.ListComp _ [PySem.Comprehension.mk _ _ [] _] _ _) _) _ _ _); k_dflt (refine lcU (by k_asm) (by with_unfolding_all rfl) (by decide) (by rfl) (by decide) (by rfl) ?_)))
    k_with "x54" => ((k_here; (with_reducible show wpAny _ _ (eval (Expr.ListComp _ [PySem.Comprehension.mk _ _ [_] _] _ _) _) _ _ _); k_dflt (refine lcT (by k_asm) (by with_unfolding_all rfl) (by decide) (by rfl) (by decide) (by rfl) ?_)))
    k_with "x55" => ((k_here; k_dflt (refine lcAU (by k_asm) (by rfl) (by with_unfolding_all rfl) (by with_unfolding_all rfl) (by decide) (by rfl) (by decide) (by rfl) (by rfl) (by rfl) ?_)))
    k_with "x56" => ((k_here; (with_reducible show wpAny _ _ (call (Value.ref 147) _) _ _ _); k_dflt (refine' pd_use (c_draw _ _ _ ?h1x56 ?h2x56) ?k1x56 ?k2x56 ?k3x56 ?k4x56 ?kKx56 ?k5x56 ?kdx56 ?kux56 ?m1x56 ?m2x56 ?pqx56 ?hIx56 ?hlx56 ?hxx56 ?hx2x56 ?hyx56 ?_; (case k1x56 => k_asm); (case k2x56 => k_asm); (case k3x56 => k_asm); (case k4x56 => k_asm); (case kKx56 => first | exact rfl | assumption); (case k5x56 => k_asm); (case kdx56 => ktr_room); (case kux56 => ktr_units); (case m1x56 => k_mem); (case m2x56 => k_mem); (case pqx56 => first | assumption | walk_at "a ne"); (case hIx56 => assumption); (case hlx56 => first | assumption | walk_at "a om"); (case hxx56 => first | assumption | walk_at "a om"); (case hx2x56 => first | assumption | walk_at "a om"); (case hyx56 => first | assumption | walk_at "a om"); (case h1x56 => walk_at "a om"); (case h2x56 => walk_at "a om")); (rintro r9q7 v9q7 x9q7 tx9q7 y9q7 ty9q7 h9q7 tk9q7 F9q7 N9q7 r1q7 r2q7 x1q7 x2q7 y1q7 ⟨t9q7, e9q7⟩); (subst e9q7); (simp only [List.map_cons, List.map_nil] at N9q7); (repeat (first | rw [if_pos trivial] at N9q7 | rw [if_pos rfl] at N9q7 | rw [if_neg (by walk_at "a ne")] at N9q7)); (try dsimp only)))
    k_with "x57" => ((k_here; (with_reducible show wpAny _ _ (call (Value.ref 154) _) _ _ _); k_dflt (k_extra "my pick")))
    k_with "x58" => ((k_here; (with_reducible refine gm_bjoin ?_)))
    k_with "x59" => ((k_here; k_dflt (refine ne_same (by with_unfolding_all rfl) ?_)))
    k_with "x60" => ((k_here; k_dflt (refine ne_same_b (by with_unfolding_all rfl) ?_)))
    k_with "x61" => (((show GoodW _ _ _ _ _ (.ok (.ret (.bool true))) _); (refine goodW_bool (by assumption) (by assumption) (raisesW_false ?nnx61) ?ppx61); (case nnx61 => wrow_none_raised); (case ppx61 => with_unfolding_all rfl)))
    k_with "x62" => ((intro i9q7 u9q7 I9q7 oI9q7 C9q7 oC9q7 D9q7 m9q7 ys9q7 h9q7 tk9q7 E9q7 hi9q7 hC9q7 hx9q7 F9q7 N9q7 off9q7 ne9q7; (have off9pq7 := off9q7); (simp only [LCg.Off3, and_true] at off9pq7); (try k_fold)))
    k_with "x63" => ((rename News _ _ _ _ => nEq7; exact LCg.CompEnd.intro (by assumption) nEq7 _ (by lcg_sub) (by assumption) (by first | trivial | k_mem) ⟨rfl, _, rfl⟩))
    k_with "my cend" =>
      (walk_at "turn out")
    k_with "my slice" =>
      (refine bytes_upto (s := ⟨_, _, _, _, _⟩) (k := i9) (by k_asm) (by k_asm) (len_lt hbl1 hpl1) (by rfl) ?_)
      (intro h9s t9s j9s F9s N9s)
      (try dsimp only)
    intro i9 u9 I9 oI9 C9 oC9 D9 m9 ys9 h9 tk9 E9 hi9 hC9 hx9 F9 N9 off9 ne9
    have off9' := off9
    simp only [LCg.Off3, and_true] at off9'
    k_with "my call" =>
      (cell_ask (c_text_in _ (Str.ofString "iso-8859-1") ((toB (encAll (decide (Str.ofString "iso-8859-1" = sU)) ps1)).take i9) _ _ isX1 (take_lt hbl1 hpl1)))
      (rw [pl_one (x := Str.ofString "iso-8859-1") (.inr rfl) hpB1])
    try k_fold
    k_steps
  intro gC1 ysC1 hysC1
  replace hysC1 := hysC1.strs
  clear lN lF lR
  k_with_none
  k_with "x1" => ((refine wpAny_call ?_; first   | (refine' code_defG (news := []) ?k1x1 ?k2x1 ?k3x1 News.nil ?k5x1 ?kAx1 ?kFx1 ?kKx1 ?k6x1 ?k7x1 ?k8x1 ?k9x1 ?kBx1 ?_ ?c2x1 ?c3x1 ?c4x1 ?c5x1; (case kAx1 => exact rfl); (case kFx1 => exact rfl); (case kKx1 => assumption); (case k1x1 => k_asm); (case k2x1 => k_asm); (case k3x1 => k_asm); (case k5x1 => k_asm); (case k6x1 => k_is); (case k7x1 => k_is); (case k8x1 => ktr_room); (case k9x1 => exact BindsTo.of_eq rfl); (case c5x1 => decide); (case kBx1 => exact locs rfl); (case c2x1 => exact rfl); (case c3x1 => exact rfl); (case c4x1 => exact rfl); k_whole; intro gpq7 Lpq7 hpq7 FGpq7 Fpq7 Npq7 Bpq7 Xpq7 Tpq7 kGpq7; (try dsimp only); (try k_fold))   | (refine' code_defGC (news := []) ?k1x1 ?k2x1 ?k3x1 News.nil ?k5x1 ?kAx1 ?kFx1 ?kKx1 ?k6x1 ?k7x1 ?k8x1 ?k9x1 ?kBx1 ?kDx1 ?_ ?c2x1 ?c3x1 ?c4x1; (case kAx1 => exact rfl); (case kFx1 => exact rfl); (case kKx1 => assumption); (case k1x1 => k_asm); (case k2x1 => k_asm); (case k3x1 => k_asm); (case k5x1 => k_asm); (case k6x1 => k_is); (case k7x1 => k_is); (case k8x1 => ktr_room); (case k9x1 => exact BindsTo.of_eq rfl); (case kBx1 => exact rfl); (case kDx1 => decide +kernel); (case c2x1 => exact rfl); (case c3x1 => exact rfl); (case c4x1 => exact rfl); k_whole; intro gpq7 Lpq7 hpq7 tkpq7 cellspq7 FGpq7 Fpq7 Npq7 Ypq7 Bpq7 Xpq7 Tpq7 l1q7 kGpq7; clear l1q7; k_cells Ypq7; (try simp only [List.cons_append, List.nil_append] at Npq7); (try dsimp only); (try k_fold))))
  k_with "calls" => (cell_ask (c_need_charset _ _ _ (by assumption)))
  k_with "calls" => (cell_ask (c_has_sign _ _ _ _ _ (by assumption)))
  k_with "calls" => (cell_ask (c_utf8_octets _ _ _ (by assumption)))
  k_with "calls" => (cell_ask (c_utf8_sign _ _ _ _ _ (by first | assumption | omega) (by first | assumption | omega) (by first | assumption | omega)))
  k_with "calls" => (cell_ask (c_sign_at' _ _ _ _ _ _ _ (by assumption) (by first | assumption | omega) (by first | assumption | omega) (by first | assumption | omega)))
  k_with "x15" => ((intro zq7 h2q7 h3q7; (simp only [List.forall_mem_cons, List.not_mem_nil, false_implies, implies_true, and_true, ne_eq] at h2q7); (simp only [List.contains_cons, List.contains_nil, Bool.or_false, Bool.or_eq_false_iff, beq_eq_false_iff_ne, ne_eq] at h3q7); simp [kstB, h2q7, h3q7]))
  k_with "calls" => (cell_ask (c_text_in _ _ _ _ _ (by assumption) (by assumption)))
  k_with "calls" => (cell_ask (c_strict_text _ _ _ _ _ (by assumption) (by assumption) (by assumption)))
  k_with "x18" => ((k_here; k_dflt (refine item_text (by first | assumption | omega) (by first | assumption | omega) (by first | assumption | omega) ?_)))
  k_with "x19" => ((k_here; k_dflt (refine len_text (by first | assumption | omega) ?_)))
  k_with "x20" => ((k_here; k_dflt (refine ord_one (by first | assumption | omega) ?_)))
  k_with "calls" => (cell_ask (c_has_sign_true _ _ _ _ _ (by assumption) (by assumption)))
  k_with "x22" => ((intro zq7 h1q7 h2q7 h3q7; (simp only [List.forall_mem_cons, List.not_mem_nil, false_implies, implies_true, and_true, ne_eq] at h2q7); (simp only [List.contains_cons, List.contains_nil, Bool.or_false, Bool.or_eq_false_iff, beq_eq_false_iff_ne, ne_eq] at h3q7); simp [kstB, h1q7, h2q7, h3q7]))
  k_with "calls" => (cell_ask (c_octets_in0 _ _ _ _ _ (by assumption) (by first | assumption | omega) (by assumption)))
  k_with "calls" => (cell_ask (c_best_charset _ _ _ (by first | assumption | omega) (by assumption)))
  k_with "x50" => ((k_dflt ((show ¬ @Eq Nat _ _); intro e9q7; (repeat (rename And _ _ => c9q7; obtain ⟨_, _⟩ := c9q7)); first | exact absurd e9q7 (by assumption) | exact absurd e9q7.symm (by assumption) | exact absurd e9q7 (Nat.ne_of_lt (by assumption)) | exact absurd e9q7.symm (Nat.ne_of_lt (by assumption)) | omega)))
  k_with "x51" => ((refine neN ?_; (try dsimp only); intro e9q7; (rename And _ _ => c9q7); first | exact absurd e9q7 c9q7.1 | exact absurd e9q7 c9q7.2.1 | exact absurd e9q7 c9q7.2.2.1 | exact absurd e9q7 c9q7.2.2.2.1 | exact absurd e9q7 c9q7.2.2.2.2.1 | exact absurd e9q7 c9q7.2.2.2.2.2.1 | exact absurd e9q7 c9q7.2.2.2.2.2.2.1 | exact absurd e9q7 c9q7.2.2.2.2.2.2.2.1 | exact absurd e9q7 c9q7.2.2.2.2.2.2.2.2.1 | exact absurd e9q7 c9q7.2 | exact absurd e9q7 c9q7.2.2 | exact absurd e9q7 c9q7.2.2.2 | exact absurd e9q7 c9q7.2.2.2.2 | exact absurd e9q7 c9q7.2.2.2.2.2 | exact absurd e9q7 c9q7.2.2.2.2.2.2 | exact absurd e9q7 c9q7.2.2.2.2.2.2.2 | exact absurd e9q7 c9q7.2.2.2.2.2.2.2.2 | exact absurd e9q7 c9q7.2.2.2.2.2.2.2.2.2 | exact absurd e9q7.symm c9q7.1 | exact absurd e9q7.symm c9q7.2.1 | exact absurd e9q7.symm c9q7.2.2.1 | exact absurd e9q7.symm c9q7.2.2.2.1 | exact absurd e9q7.symm c9q7.2.2.2.2.1 | exact absurd e9q7.symm c9q7.2.2.2.2.2.1 | exact absurd e9q7.symm c9q7.2.2.2.2.2.2.1 | exact absurd e9q7.symm c9q7.2.2.2.2.2.2.2.1 | exact absurd e9q7.symm c9q7.2.2.2.2.2.2.2.2.1 | exact absurd e9q7.symm c9q7.2 | exact absurd e9q7.symm c9q7.2.2 | exact absurd e9q7.symm c9q7.2.2.2 | exact absurd e9q7.symm c9q7.2.2.2.2 | exact absurd e9q7.symm c9q7.2.2.2.2.2 | exact absurd e9q7.symm c9q7.2.2.2.2.2.2 | exact absurd e9q7.symm c9q7.2.2.2.2.2.2.2 | exact absurd e9q7.symm c9q7.2.2.2.2.2.2.2.2 | exact absurd e9q7.symm c9q7.2.2.2.2.2.2.2.2.2 | exact absurd e9q7 (Nat.ne_of_lt c9q7.1) | exact absurd e9q7 (Nat.ne_of_lt c9q7.2.1) | exact absurd e9q7 (Nat.ne_of_lt c9q7.2.2.1) | exact absurd e9q7 (Nat.ne_of_lt c9q7.2.2.2.1) | exact absurd e9q7 (Nat.ne_of_lt c9q7.2.2.2.2.1) | exact absurd e9q7 (Nat.ne_of_lt c9q7.2.2.2.2.2.1) | exact absurd e9q7 (Nat.ne_of_lt c9q7.2.2.2.2.2.2.1) | exact absurd e9q7 (Nat.ne_of_lt c9q7.2.2.2.2.2.2.2.1) | exact absurd e9q7 (Nat.ne_of_lt c9q7.2.2.2.2.2.2.2.2.1) | exact absurd e9q7 (Nat.ne_of_lt c9q7.2) | exact absurd e9q7 (Nat.ne_of_lt c9q7.2.2) | exact absurd e9q7 (Nat.ne_of_lt c9q7.2.2.2) | exact absurd e9q7 (Nat.ne_of_lt c9q7.2.2.2.2) | exact absurd e9q7 (Nat.ne_of_lt c9q7.2.2.2.2.2) | exact absurd e9q7 (Nat.ne_of_lt c9q7.2.2.2.2.2.2) | exact absurd e9q7 (Nat.ne_of_lt c9q7.2.2.2.2.2.2.2) | exact absurd e9q7 (Nat.ne_of_lt c9q7.2.2.2.2.2.2.2.2) | exact absurd e9q7 (Nat.ne_of_lt c9q7.2.2.2.2.2.2.2.2.2) | exact absurd e9q7.symm (Nat.ne_of_lt c9q7.1) | exact absurd e9q7.symm (Nat.ne_of_lt c9q7.2.1) | exact absurd e9q7.symm (Nat.ne_of_lt c9q7.2.2.1) | exact absurd e9q7.symm (Nat.ne_of_lt c9q7.2.2.2.1) | exact absurd e9q7.symm (Nat.ne_of_lt c9q7.2.2.2.2.1) | exact absurd e9q7.symm (Nat.ne_of_lt c9q7.2.2.2.2.2.1) | exact absurd e9q7.symm (Nat.ne_of_lt c9q7.2.2.2.2.2.2.1) | exact absurd e9q7.symm (Nat.ne_of_lt c9q7.2.2.2.2.2.2.2.1) | exact absurd e9q7.symm (Nat.ne_of_lt c9q7.2.2.2.2.2.2.2.2.1) | exact absurd e9q7.symm (Nat.ne_of_lt c9q7.2) | exact absurd e9q7.symm (Nat.ne_of_lt c9q7.2.2) | exact absurd e9q7.symm (Nat.ne_of_lt c9q7.2.2.2) | exact absurd e9q7.symm (Nat.ne_of_lt c9q7.2.2.2.2) | exact absurd e9q7.symm (Nat.ne_of_lt c9q7.2.2.2.2.2) | exact absurd e9q7.symm (Nat.ne_of_lt c9q7.2.2.2.2.2.2) | exact absurd e9q7.symm (Nat.ne_of_lt c9q7.2.2.2.2.2.2.2) | exact absurd e9q7.symm (Nat.ne_of_lt c9q7.2.2.2.2.2.2.2.2) | exact absurd e9q7.symm (Nat.ne_of_lt c9q7.2.2.2.2.2.2.2.2.2) | (clear c9q7; (rename And _ _ => c8q7); first | exact absurd e9q7 c8q7.1 | exact absurd e9q7 c8q7.2.1 | exact absurd e9q7 c8q7.2.2.1 | exact absurd e9q7 c8q7.2.2.2.1 | exact absurd e9q7 c8q7.2.2.2.2.1 | exact absurd e9q7 c8q7.2.2.2.2.2.1 | exact absurd e9q7 c8q7.2.2.2.2.2.2.1 | exact absurd e9q7 c8q7.2.2.2.2.2.2.2.1 | exact absurd e9q7 c8q7.2.2.2.2.2.2.2.2.1 | exact absurd e9q7 c8q7.2 | exact absurd e9q7 c8q7.2.2 | exact absurd e9q7 c8q7.2.2.2 | exact absurd e9q7 c8q7.2.2.2.2 | exact absurd e9q7 c8q7.2.2.2.2.2 | exact absurd e9q7 c8q7.2.2.2.2.2.2 | exact absurd e9q7 c8q7.2.2.2.2.2.2.2 | exact absurd e9q7 c8q7.2.2.2.2.2.2.2.2 | exact absurd e9q7 c8q7.2.2.2.2.2.2.2.2.2 | exact absurd e9q7.symm c8q7.1 | exact absurd e9q7.symm c8q7.2.1 | exact absurd e9q7.symm c8q7.2.2.1 | exact absurd e9q7.symm c8q7.2.2.2.1 | exact absurd e9q7.symm c8q7.2.2.2.2.1 | exact absurd e9q7.symm c8q7.2.2.2.2.2.1 | exact absurd e9q7.symm c8q7.2.2.2.2.2.2.1 | exact absurd e9q7.symm c8q7.2.2.2.2.2.2.2.1 | exact absurd e9q7.symm c8q7.2.2.2.2.2.2.2.2.1 | exact absurd e9q7.symm c8q7.2 | exact absurd e9q7.symm c8q7.2.2 | exact absurd e9q7.symm c8q7.2.2.2 | exact absurd e9q7.symm c8q7.2.2.2.2 | exact absurd e9q7.symm c8q7.2.2.2.2.2 | exact absurd e9q7.symm c8q7.2.2.2.2.2.2 | exact absurd e9q7.symm c8q7.2.2.2.2.2.2.2 | exact absurd e9q7.symm c8q7.2.2.2.2.2.2.2.2 | exact absurd e9q7.symm c8q7.2.2.2.2.2.2.2.2.2 | exact absurd e9q7 (Nat.ne_of_lt c8q7.1) | exact absurd e9q7 (Nat.ne_of_lt c8q7.2.1) | exact absurd e9q7 (Nat.ne_of_lt c8q7.2.2.1) | exact absurd e9q7 (Nat.ne_of_lt c8q7.2.2.2.1) | exact absurd e9q7 (Nat.ne_of_lt c8q7.2.2.2.2.1) | exact absurd e9q7 (Nat.ne_of_lt c8q7.2.2.2.2.2.1) | exact absurd e9q7 (Nat.ne_of_lt c8q7.2.2.2.2.2.2.1) | exact absurd e9q7 (Nat.ne_of_lt c8q7.2.2.2.2.2.2.2.1) | exact absurd e9q7 (Nat.ne_of_lt c8q7.2.2.2.2.2.2.2.2.1) | exact absurd e9q7 (Nat.ne_of_lt c8q7.2) | exact absurd e9q7 (Nat.ne_of_lt c8q7.2.2) | exact absurd e9q7 (Nat.ne_of_lt c8q7.2.2.2) | exact absurd e9q7 (Nat.ne_of_lt c8q7.2.2.2.2) | exact absurd e9q7 (Nat.ne_of_lt c8q7.2.2.2.2.2) | exact absurd e9q7 (Nat.ne_of_lt c8q7.2.2.2.2.2.2) | exact absurd e9q7 (Nat.ne_of_lt c8q7.2.2.2.2.2.2.2) | exact absurd e9q7 (Nat.ne_of_lt c8q7.2.2.2.2.2.2.2.2) | exact absurd e9q7 (Nat.ne_of_lt c8q7.2.2.2.2.2.2.2.2.2) | exact absurd e9q7.symm (Nat.ne_of_lt c8q7.1) | exact absurd e9q7.symm (Nat.ne_of_lt c8q7.2.1) | exact absurd e9q7.symm (Nat.ne_of_lt c8q7.2.2.1) | exact absurd e9q7.symm (Nat.ne_of_lt c8q7.2.2.2.1) | exact absurd e9q7.symm (Nat.ne_of_lt c8q7.2.2.2.2.1) | exact absurd e9q7.symm (Nat.ne_of_lt c8q7.2.2.2.2.2.1) | exact absurd e9q7.symm (Nat.ne_of_lt c8q7.2.2.2.2.2.2.1) | exact absurd e9q7.symm (Nat.ne_of_lt c8q7.2.2.2.2.2.2.2.1) | exact absurd e9q7.symm (Nat.ne_of_lt c8q7.2.2.2.2.2.2.2.2.1) | exact absurd e9q7.symm (Nat.ne_of_lt c8q7.2) | exact absurd e9q7.symm (Nat.ne_of_lt c8q7.2.2) | exact absurd e9q7.symm (Nat.ne_of_lt c8q7.2.2.2) | exact absurd e9q7.symm (Nat.ne_of_lt c8q7.2.2.2.2) | exact absurd e9q7.symm (Nat.ne_of_lt c8q7.2.2.2.2.2) | exact absurd e9q7.symm (Nat.ne_of_lt c8q7.2.2.2.2.2.2) | exact absurd e9q7.symm (Nat.ne_of_lt c8q7.2.2.2.2.2.2.2) | exact absurd e9q7.symm (Nat.ne_of_lt c8q7.2.2.2.2.2.2.2.2) | exact absurd e9q7.symm (Nat.ne_of_lt c8q7.2.2.2.2.2.2.2.2.2))))
  k_with "x52" => (((repeat (rename And _ _ => c9q7; clear c9q7)); omega))
  k_with "x53" => ((k_here; (with_reducible show wpAny _ _ (eval (Expr.ListComp _ [PySem.Comprehension.mk _ _ [] _] _ _) _) _ _ _); k_dflt (refine lcU (by k_asm) (by with_unfolding_all rfl) (by decide) (by rfl) (by decide) (by rfl) ?_)))
  k_with "x54" => ((k_here; (with_reducible show wpAny _ _ (eval (Expr.ListComp _ [PySem.Comprehension.mk _ _ [_] _] _ _) _) _ _ _); k_dflt (refine lcT (by k_asm) (by with_unfolding_all rfl) (by decide) (by rfl) (by decide) (by rfl) ?_)))
  k_with "x55" => ((k_here; k_dflt (refine lcAU (by k_asm) (by rfl) (by with_unfolding_all rfl) (by with_unfolding_all rfl) (by decide) (by rfl) (by decide) (by rfl) (by rfl) (by rfl) ?_)))
  k_with "x56" => ((k_here; (with_reducible show wpAny _ _ (call (Value.ref 147) _) _ _ _); k_dflt (refine' pd_use (c_draw _ _ _ ?h1x56 ?h2x56) ?k1x56 ?k2x56 ?k3x56 ?k4x56 ?kKx56 ?k5x56 ?kdx56 ?kux56 ?m1x56 ?m2x56 ?pqx56 ?hIx56 ?hlx56 ?hxx56 ?hx2x56 ?hyx56 ?_; (case k1x56 => k_asm); (case k2x56 => k_asm); (case k3x56 => k_asm); (case k4x56 => k_asm); (case kKx56 => first | exact rfl | assumption); (case k5x56 => k_asm); (case kdx56 => ktr_room); (case kux56 => ktr_units); (case m1x56 => k_mem); (case m2x56 => k_mem); (case pqx56 => first | assumption | walk_at "a ne"); (case hIx56 => assumption); (case hlx56 => first | assumption | walk_at "a om"); (case hxx56 => first | assumption | walk_at "a om"); (case hx2x56 => first | assumption | walk_at "a om"); (case hyx56 => first | assumption | walk_at "a om"); (case h1x56 => walk_at "a om"); (case h2x56 => walk_at "a om")); (rintro r9q7 v9q7 x9q7 tx9q7 y9q7 ty9q7 h9q7 tk9q7 F9q7 N9q7 r1q7 r2q7 x1q7 x2q7 y1q7 ⟨t9q7, e9q7⟩); (subst e9q7); (simp only [List.map_cons, List.map_nil] at N9q7); (repeat (first | rw [if_pos trivial] at N9q7 | rw [if_pos rfl] at N9q7 | rw [if_neg (by walk_at "a ne")] at N9q7)); (try dsimp only)))
  k_with "x57" => ((k_here; (with_reducible show wpAny _ _ (call (Value.ref 154) _) _ _ _); k_dflt (k_extra "my pick")))
  k_with "x58" => ((k_here; (with_reducible refine gm_bjoin ?_)))
  k_with "x59" => ((k_here; k_dflt (refine ne_same (by with_unfolding_all rfl) ?_)))
  k_with "x60" => ((k_here; k_dflt (refine ne_same_b (by with_unfolding_all rfl) ?_)))
  k_with "x61" => (((show GoodW _ _ _ _ _ (.ok (.ret (.bool true))) _); (refine goodW_bool (by assumption) (by assumption) (raisesW_false ?nnx61) ?ppx61); (case nnx61 => wrow_none_raised); (case ppx61 => with_unfolding_all rfl)))
  k_with "x62" => ((intro i9q7 u9q7 I9q7 oI9q7 C9q7 oC9q7 D9q7 m9q7 ys9q7 h9q7 tk9q7 E9q7 hi9q7 hC9q7 hx9q7 F9q7 N9q7 off9q7 ne9q7; (have off9pq7 := off9q7); (simp only [LCg.Off3, and_true] at off9pq7); (try k_fold)))
  k_with "x63" => ((rename News _ _ _ _ => nEq7; exact LCg.CompEnd.intro (by assumption) nEq7 _ (by lcg_sub) (by assumption) (by first | trivial | k_mem) ⟨rfl, _, rfl⟩))
  k_steps
  rename News _ _ _ _ => lN
  rename Fr _ _ _ _ => lF
  rename IsRange _ _ _ _ _ _ _ _ => lR
  refine map_range (n := ps1.length + 1) (fun i v => ∃ u, v = .str (textOf (ps1.take i)) u) lF lN rfl lR (len_p1 hbl1) (lt_p1 hpl1) ?_ ?_
  case refine_1 =>
    clear lN lF lR
    k_with_none
    k_with "x1" => ((refine wpAny_call ?_; first   | (refine' code_defG (news := []) ?k1x1 ?k2x1 ?k3x1 News.nil ?k5x1 ?kAx1 ?kFx1 ?kKx1 ?k6x1 ?k7x1 ?k8x1 ?k9x1 ?kBx1 ?_ ?c2x1 ?c3x1 ?c4x1 ?c5x1; (case kAx1 => exact rfl); (case kFx1 => exact rfl); (case kKx1 => assumption); (case k1x1 => k_asm); (case k2x1 => k_asm); (case k3x1 => k_asm); (case k5x1 => k_asm); (case k6x1 => k_is); (case k7x1 => k_is); (case k8x1 => ktr_room); (case k9x1 => exact BindsTo.of_eq rfl); (case c5x1 => decide); (case kBx1 => exact locs rfl); (case c2x1 => exact rfl); (case c3x1 => exact rfl); (case c4x1 => exact rfl); k_whole; intro gpq7 Lpq7 hpq7 FGpq7 Fpq7 Npq7 Bpq7 Xpq7 Tpq7 kGpq7; (try dsimp only); (try k_fold))   | (refine' code_defGC (news := []) ?k1x1 ?k2x1 ?k3x1 News.nil ?k5x1 ?kAx1 ?kFx1 ?kKx1 ?k6x1 ?k7x1 ?k8x1 ?k9x1 ?kBx1 ?kDx1 ?_ ?c2x1 ?c3x1 ?c4x1; (case kAx1 => exact rfl); (case kFx1 => exact rfl); (case kKx1 => assumption); (case k1x1 => k_asm); (case k2x1 => k_asm); (case k3x1 => k_asm); (case k5x1 => k_asm); (case k6x1 => k_is); (case k7x1 => k_is); (case k8x1 => ktr_room); (case k9x1 => exact BindsTo.of_eq rfl); (case kBx1 => exact rfl); (case kDx1 => decide +kernel); (case c2x1 => exact rfl); (case c3x1 => exact rfl); (case c4x1 => exact rfl); k_whole; intro gpq7 Lpq7 hpq7 tkpq7 cellspq7 FGpq7 Fpq7 Npq7 Ypq7 Bpq7 Xpq7 Tpq7 l1q7 kGpq7; clear l1q7; k_cells Ypq7; (try simp only [List.cons_append, List.nil_append] at Npq7); (try dsimp only); (try k_fold))))
    k_with "calls" => (cell_ask (c_need_charset _ _ _ (by assumption)))
    k_with "calls" => (cell_ask (c_has_sign _ _ _ _ _ (by assumption)))
    k_with "calls" => (cell_ask (c_utf8_octets _ _ _ (by assumption)))
    k_with "calls" => (cell_ask (c_utf8_sign _ _ _ _ _ (by first | assumption | omega) (by first | assumption | omega) (by first | assumption | omega)))
    k_with "calls" => (cell_ask (c_sign_at' _ _ _ _ _ _ _ (by assumption) (by first | assumption | omega) (by first | assumption | omega) (by first | assumption | omega)))
    k_with "x15" => ((intro zq7 h2q7 h3q7; (simp only [List.forall_mem_cons, List.not_mem_nil, false_implies, implies_true, and_true, ne_eq] at h2q7); (simp only [List.contains_cons, List.contains_nil, Bool.or_false, Bool.or_eq_false_iff, beq_eq_false_iff_ne, ne_eq] at h3q7); simp [kstB, h2q7, h3q7]))
    k_with "calls" => (cell_ask (c_text_in _ _ _ _ _ (by assumption) (by assumption)))
    k_with "calls" => (cell_ask (c_strict_text _ _ _ _ _ (by assumption) (by assumption) (by assumption)))
    k_with "x18" => ((k_here; k_dflt (refine item_text (by first | assumption | omega) (by first | assumption | omega) (by first | assumption | omega) ?_)))
    k_with "x19" => ((k_here; k_dflt (refine len_text (by first | assumption | omega) ?_)))
    k_with "x20" => ((k_here; k_dflt (refine ord_one (by first | assumption | omega) ?_)))
    k_with "calls" => (cell_ask (c_has_sign_true _ _ _ _ _ (by assumption) (by assumption)))
    k_with "x22" => ((intro zq7 h1q7 h2q7 h3q7; (simp only [List.forall_mem_cons, List.not_mem_nil, false_implies, implies_true, and_true, ne_eq] at h2q7); (simp only [List.contains_cons, List.contains_nil, Bool.or_false, Bool.or_eq_false_iff, beq_eq_false_iff_ne, ne_eq] at h3q7); simp [kstB, h1q7, h2q7, h3q7]))
    k_with "calls" => (cell_ask (c_octets_in0 _ _ _ _ _ (by assumption) (by first | assumption | omega) (by assumption)))
    k_with "calls" => (cell_ask (c_best_charset _ _ _ (by first | assumption | omega) (by assumption)))
    k_with "x50" => ((k_dflt ((show ¬ @Eq Nat _ _); intro e9q7; (repeat (rename And _ _ => c9q7; obtain ⟨_, _⟩ := c9q7)); first | exact absurd e9q7 (by assumption) | exact absurd e9q7.symm (by assumption) | exact absurd e9q7 (Nat.ne_of_lt (by assumption)) | exact absurd e9q7.symm (Nat.ne_of_lt (by assumption)) | omega)))
    k_with "x51" => ((refine neN ?_; (try dsimp only); intro e9q7; (rename And _ _ => c9q7); first | exact absurd e9q7 c9q7.1 | exact absurd e9q7 c9q7.2.1 | exact absurd e9q7 c9q7.2.2.1 | exact absurd e9q7 c9q7.2.2.2.1 | exact absurd e9q7 c9q7.2.2.2.2.1 | exact absurd e9q7 c9q7.2.2.2.2.2.1 | exact absurd e9q7 c9q7.2.2.2.2.2.2.1 | exact absurd e9q7 c9q7.2.2.2.2.2.2.2.1 | exact absurd e9q7 c9q7.2.2.2.2.2.2.2.2.1 | exact absurd e9q7 c9q7.2 | exact absurd e9q7 c9q7.2.2 | exact absurd e9q7 c9q7.2.2.2 | exact absurd e9q7 c9q7.2.2.2.2 | exact absurd e9q7 c9q7.2.2.2.2.2 | exact absurd e9q7 c9q7.2.2.2.2.2.2 | exact absurd e9q7 c9q7.2.2.2.2.2.2.2 | exact absurd e9q7 c9q7.2.2.2.2.2.2.2.2 | exact absurd e9q7 c9q7.2.2.2.2.2.2.2.2.2 | exact absurd e9q7.symm c9q7.1 | exact absurd e9q7.symm c9q7.2.1 | exact absurd e9q7.symm c9q7.2.2.1 | exact absurd e9q7.symm c9q7.2.2.2.1 | exact absurd e9q7.symm c9q7.2.2.2.2.1 | exact absurd e9q7.symm c9q7.2.2.2.2.2.1 | exact absurd e9q7.symm c9q7.2.2.2.2.2.2.1 | exact absurd e9q7.symm c9q7.2.2.2.2.2.2.2.1 | exact absurd e9q7.symm c9q7.2.2.2.2.2.2.2.2.1 | exact absurd e9q7.symm c9q7.2 | exact absurd e9q7.symm c9q7.2.2 | exact absurd e9q7.symm c9q7.2.2.2 | exact absurd e9q7.symm c9q7.2.2.2.2 | exact absurd e9q7.symm c9q7.2.2.2.2.2 | exact absurd e9q7.symm c9q7.2.2.2.2.2.2 | exact absurd e9q7.symm c9q7.2.2.2.2.2.2.2 | exact absurd e9q7.symm c9q7.2.2.2.2.2.2.2.2 | exact absurd e9q7.symm c9q7.2.2.2.2.2.2.2.2.2 | exact absurd e9q7 (Nat.ne_of_lt c9q7.1) | exact absurd e9q7 (Nat.ne_of_lt c9q7.2.1) | exact absurd e9q7 (Nat.ne_of_lt c9q7.2.2.1) | exact absurd e9q7 (Nat.ne_of_lt c9q7.2.2.2.1) | exact absurd e9q7 (Nat.ne_of_lt c9q7.2.2.2.2.1) | exact absurd e9q7 (Nat.ne_of_lt c9q7.2.2.2.2.2.1) | exact absurd e9q7 (Nat.ne_of_lt c9q7.2.2.2.2.2.2.1) | exact absurd e9q7 (Nat.ne_of_lt c9q7.2.2.2.2.2.2.2.1) | exact absurd e9q7 (Nat.ne_of_lt c9q7.2.2.2.2.2.2.2.2.1) | exact absurd e9q7 (Nat.ne_of_lt c9q7.2) | exact absurd e9q7 (Nat.ne_of_lt c9q7.2.2) | exact absurd e9q7 (Nat.ne_of_lt c9q7.2.2.2) | exact absurd e9q7 (Nat.ne_of_lt c9q7.2.2.2.2) | exact absurd e9q7 (Nat.ne_of_lt c9q7.2.2.2.2.2) | exact absurd e9q7 (Nat.ne_of_lt c9q7.2.2.2.2.2.2) | exact absurd e9q7 (Nat.ne_of_lt c9q7.2.2.2.2.2.2.2) | exact absurd e9q7 (Nat.ne_of_lt c9q7.2.2.2.2.2.2.2.2) | exact absurd e9q7 (Nat.ne_of_lt c9q7.2.2.2.2.2.2.2.2.2) | exact absurd e9q7.symm (Nat.ne_of_lt c9q7.1) | exact absurd e9q7.symm (Nat.ne_of_lt c9q7.2.1) | exact absurd e9q7.symm (Nat.ne_of_lt c9q7.2.2.1) | exact absurd e9q7.symm (Nat.ne_of_lt c9q7.2.2.2.1) | exact absurd e9q7.symm (Nat.ne_of_lt c9q7.2.2.2.2.1) | exact absurd e9q7.symm (Nat.ne_of_lt c9q7.2.2.2.2.2.1) | exact absurd e9q7.symm (Nat.ne_of_lt c9q7.2.2.2.2.2.2.1) | exact absurd e9q7.symm (Nat.ne_of_lt c9q7.2.2.2.2.2.2.2.1) | exact absurd e9q7.symm (Nat.ne_of_lt c9q7.2.2.2.2.2.2.2.2.1) | exact absurd e9q7.symm (Nat.ne_of_lt c9q7.2) | exact absurd e9q7.symm (Nat.ne_of_lt c9q7.2.2) | exact absurd e9q7.symm (Nat.ne_of_lt c9q7.2.2.2) | exact absurd e9q7.symm (Nat.ne_of_lt c9q7.2.2.2.2) | exact absurd e9q7.symm (Nat.ne_of_lt c9q7.2.2.2.2.2) | exact absurd e9q7.symm (Nat.ne_of_lt c9q7.2.2.2.2.2.2) | exact absurd e9q7.symm (Nat.ne_of_lt c9q7.2.2.2.2.2.2.2) | exact absurd e9q7.symm (Nat.ne_of_lt c9q7.2.2.2.2.2.2.2.2) | exact absurd e9q7.symm (Nat.ne_of_lt c9q7.2.2.2.2.2.2.2.2.2) | (clear c9q7; (rename And _ _ => c8q7); first | exact absurd e9q7 c8q7.1 | exact absurd e9q7 c8q7.2.1 | exact absurd e9q7 c8q7.2.2.1 | exact absurd e9q7 c8q7.2.2.2.1 | exact absurd e9q7 c8q7.2.2.2.2.1 | exact absurd e9q7 c8q7.2.2.2.2.2.1 | exact absurd e9q7 c8q7.2.2.2.2.2.2.1 | exact absurd e9q7 c8q7.2.2.2.2.2.2.2.1 | exact absurd e9q7 c8q7.2.2.2.2.2.2.2.2.1 | exact absurd e9q7 c8q7.2 | exact absurd e9q7 c8q7.2.2 | exact absurd e9q7 c8q7.2.2.2 | exact absurd e9q7 c8q7.2.2.2.2 | exact absurd e9q7 c8q7.2.2.2.2.2 | exact absurd e9q7 c8q7.2.2.2.2.2.2 | exact absurd e9q7 c8q7.2.2.2.2.2.2.2 | exact absurd e9q7 c8q7.2.2.2.2.2.2.2.2 | exact absurd e9q7 c8q7.2.2.2.2.2.2.2.2.2 | exact absurd e9q7.symm c8q7.1 | exact absurd e9q7.symm c8q7.2.1 | exact absurd e9q7.symm c8q7.2.2.1 | exact absurd e9q7.symm c8q7.2.2.2.1 | exact absurd e9q7.symm c8q7.2.2.2.2.1 | exact absurd e9q7.symm c8q7.2.2.2.2.2.1 | exact absurd e9q7.symm c8q7.2.2.2.2.2.2.1 | exact absurd e9q7.symm c8q7.2.2.2.2.2.2.2.1 | exact absurd e9q7.symm c8q7.2.2.2.2.2.2.2.2.1 | exact absurd e9q7.symm c8q7.2 | exact absurd e9q7.symm c8q7.2.2 | exact absurd e9q7.symm c8q7.2.2.2 | exact absurd e9q7.symm c8q7.2.2.2.2 | exact absurd e9q7.symm c8q7.2.2.2.2.2 | exact absurd e9q7.symm c8q7.2.2.2.2.2.2 | exact absurd e9q7.symm c8q7.2.2.2.2.2.2.2 | exact absurd e9q7.symm c8q7.2.2.2.2.2.2.2.2 | exact absurd e9q7.symm c8q7.2.2.2.2.2.2.2.2.2 | exact absurd e9q7 (Nat.ne_of_lt c8q7.1) | exact absurd e9q7 (Nat.ne_of_lt c8q7.2.1) | exact absurd e9q7 (Nat.ne_of_lt c8q7.2.2.1) | exact absurd e9q7 (Nat.ne_of_lt c8q7.2.2.2.1) | exact absurd e9q7 (Nat.ne_of_lt c8q7.2.2.2.2.1) | exact absurd e9q7 (Nat.ne_of_lt c8q7.2.2.2.2.2.1) | exact absurd e9q7 (Nat.ne_of_lt c8q7.2.2.2.2.2.2.1) | exact absurd e9q7 (Nat.ne_of_lt c8q7.2.2.2.2.2.2.2.1) | exact absurd e9q7 (Nat.ne_of_lt c8q7.2.2.2.2.2.2.2.2.1) | exact absurd e9q7 (Nat.ne_of_lt c8q7.2) | exact absurd e9q7 (Nat.ne_of_lt c8q7.2.2) | exact absurd e9q7 (Nat.ne_of_lt c8q7.2.2.2) | exact absurd e9q7 (Nat.ne_of_lt c8q7.2.2.2.2) | exact absurd e9q7 (Nat.ne_of_lt c8q7.2.2.2.2.2) | exact absurd e9q7 (Nat.ne_of_lt c8q7.2.2.2.2.2.2) | exact absurd e9q7 (Nat.ne_of_lt c8q7.2.2.2.2.2.2.2) | exact absurd e9q7 (Nat.ne_of_lt c8q7.2.2.2.2.2.2.2.2) | exact absurd e9q7 (Nat.ne_of_lt c8q7.2.2.2.2.2.2.2.2.2) | exact absurd e9q7.symm (Nat.ne_of_lt c8q7.1) | exact absurd e9q7.symm (Nat.ne_of_lt c8q7.2.1) | exact absurd e9q7.symm (Nat.ne_of_lt c8q7.2.2.1) | exact absurd e9q7.symm (Nat.ne_of_lt c8q7.2.2.2.1) | exact absurd e9q7.symm (Nat.ne_of_lt c8q7.2.2.2.2.1) | exact absurd e9q7.symm (Nat.ne_of_lt c8q7.2.2.2.2.2.1) | exact absurd e9q7.symm (Nat.ne_of_lt c8q7.2.2.2.2.2.2.1) | exact absurd e9q7.symm (Nat.ne_of_lt c8q7.2.2.2.2.2.2.2.1) | exact absurd e9q7.symm (Nat.ne_of_lt c8q7.2.2.2.2.2.2.2.2.1) | exact absurd e9q7.symm (Nat.ne_of_lt c8q7.2) | exact absurd e9q7.symm (Nat.ne_of_lt c8q7.2.2) | exact absurd e9q7.symm (Nat.ne_of_lt c8q7.2.2.2) | exact absurd e9q7.symm (Nat.ne_of_lt c8q7.2.2.2.2) | exact absurd e9q7.symm (Nat.ne_of_lt c8q7.2.2.2.2.2) | exact absurd e9q7.symm (Nat.ne_of_lt c8q7.2.2.2.2.2.2) | exact absurd e9q7.symm (Nat.ne_of_lt c8q7.2.2.2.2.2.2.2) | exact absurd e9q7.symm (Nat.ne_of_lt c8q7.2.2.2.2.2.2.2.2) | exact absurd e9q7.symm (Nat.ne_of_lt c8q7.2.2.2.2.2.2.2.2.2))))
    k_with "x52" => (((repeat (rename And _ _ => c9q7; clear c9q7)); omega))
    k_with "x53" => ((k_here; (with_reducible show wpAny _ _ (eval (Expr.ListComp _ [PySem.Comprehension.mk _ _ [] _] _ _) _) _ _ _); k_dflt (refine lcU (by k_asm) (by with_unfolding_all rfl) (by decide) (by rfl) (by decide) (by rfl) ?_)))
    k_with "x54" => ((k_here; (with_reducible show wpAny _ _ (eval (Expr.ListComp _ [PySem.Comprehension.mk _ _ [_] _] _ _) _) _ _ _); k_dflt (refine lcT (by k_asm) (by with_unfolding_all rfl) (by decide) (by rfl) (by decide) (by rfl) ?_)))
    k_with "x55" => ((k_here; k_dflt (refine lcAU (by k_asm) (by rfl) (by with_unfolding_all rfl) (by with_unfolding_all rfl) (by decide) (by rfl) (by decide) (by rfl) (by rfl) (by rfl) ?_)))
    k_with "x56" => ((k_here; (with_reducible show wpAny _ _ (call (Value.ref 147) _) _ _ _); k_dflt (refine' pd_use (c_draw _ _ _ ?h1x56 ?h2x56) ?k1x56 ?k2x56 ?k3x56 ?k4x56 ?kKx56 ?k5x56 ?kdx56 ?kux56 ?m1x56 ?m2x56 ?pqx56 ?hIx56 ?hlx56 ?hxx56 ?hx2x56 ?hyx56 ?_; (case k1x56 => k_asm); (case k2x56 => k_asm); (case k3x56 => k_asm); (case k4x56 => k_asm); (case kKx56 => first | exact rfl | assumption); (case k5x56 => k_asm); (case kdx56 => ktr_room); (case kux56 => ktr_units); (case m1x56 => k_mem); (case m2x56 => k_mem); (case pqx56 => first | assumption | walk_at "a ne"); (case hIx56 => assumption); (case hlx56 => first | assumption | walk_at "a om"); (case hxx56 => first | assumption | walk_at "a om"); (case hx2x56 => first | assumption | walk_at "a om"); (case hyx56 => first | assumption | walk_at "a om"); (case h1x56 => walk_at "a om"); (case h2x56 => walk_at "a om")); (rintro r9q7 v9q7 x9q7 tx9q7 y9q7 ty9q7 h9q7 tk9q7 F9q7 N9q7 r1q7 r2q7 x1q7 x2q7 y1q7 ⟨t9q7, e9q7⟩); (subst e9q7); (simp only [List.map_cons, List.map_nil] at N9q7); (repeat (first | rw [if_pos trivial] at N9q7 | rw [if_pos rfl] at N9q7 | rw [if_neg (by walk_at "a ne")] at N9q7)); (try dsimp only)))
    k_with "x57" => ((k_here; (with_reducible show wpAny _ _ (call (Value.ref 154) _) _ _ _); k_dflt (k_extra "my pick")))
    k_with "x58" => ((k_here; (with_reducible refine gm_bjoin ?_)))
    k_with "x59" => ((k_here; k_dflt (refine ne_same (by with_unfolding_all rfl) ?_)))
    k_with "x60" => ((k_here; k_dflt (refine ne_same_b (by with_unfolding_all rfl) ?_)))
    k_with "x61" => (((show GoodW _ _ _ _ _ (.ok (.ret (.bool true))) _); (refine goodW_bool (by assumption) (by assumption) (raisesW_false ?nnx61) ?ppx61); (case nnx61 => wrow_none_raised); (case ppx61 => with_unfolding_all rfl)))
    k_with "x62" => ((intro i9q7 u9q7 I9q7 oI9q7 C9q7 oC9q7 D9q7 m9q7 ys9q7 h9q7 tk9q7 E9q7 hi9q7 hC9q7 hx9q7 F9q7 N9q7 off9q7 ne9q7; (have off9pq7 := off9q7); (simp only [LCg.Off3, and_true] at off9pq7); (try k_fold)))
    k_with "x63" => ((rename News _ _ _ _ => nEq7; exact LCg.CompEnd.intro (by assumption) nEq7 _ (by lcg_sub) (by assumption) (by first | trivial | k_mem) ⟨rfl, _, rfl⟩))
    k_with "my cend" =>
      (walk_at "turn out")
    k_with "my cut" =>
      (refine text_to_N (s := ⟨_, _, _, _, _⟩) (k := i9) (by k_asm) (by k_asm) (lt_1000 hpl1) (by rfl) (Nat.le_of_lt_succ hi9) ?_)
      (intro h9s t9s j9s F9s N9s)
      (try dsimp only)
    intro i9 u9 I9 oI9 C9 oC9 D9 m9 ys9 h9 tk9 E9 hi9 hC9 hx9 F9 N9 off9 ne9
    have off9' := off9
    simp only [LCg.Off3, and_true] at off9'
    try k_fold
    k_steps
  intro gD1 ysD1 hysD1
  replace hysD1 := hysD1.strs
  have hok1 : ∀ x ∈ (List.range (ps1.length + 1)).map fun i => textOf (ps1.take i), PyData.strOk x = true := fun x hx => by
    obtain ⟨i, _, rfl⟩ := List.mem_map.mp hx
    exact textOf_ok fun c hc => (hpA1 c (List.mem_of_mem_take hc)).2
  clear lN lF lR
  k_with_none
  k_with "x1" => ((refine wpAny_call ?_; first   | (refine' code_defG (news := []) ?k1x1 ?k2x1 ?k3x1 News.nil ?k5x1 ?kAx1 ?kFx1 ?kKx1 ?k6x1 ?k7x1 ?k8x1 ?k9x1 ?kBx1 ?_ ?c2x1 ?c3x1 ?c4x1 ?c5x1; (case kAx1 => exact rfl); (case kFx1 => exact rfl); (case kKx1 => assumption); (case k1x1 => k_asm); (case k2x1 => k_asm); (case k3x1 => k_asm); (case k5x1 => k_asm); (case k6x1 => k_is); (case k7x1 => k_is); (case k8x1 => ktr_room); (case k9x1 => exact BindsTo.of_eq rfl); (case c5x1 => decide); (case kBx1 => exact locs rfl); (case c2x1 => exact rfl); (case c3x1 => exact rfl); (case c4x1 => exact rfl); k_whole; intro gpq7 Lpq7 hpq7 FGpq7 Fpq7 Npq7 Bpq7 Xpq7 Tpq7 kGpq7; (try dsimp only); (try k_fold))   | (refine' code_defGC (news := []) ?k1x1 ?k2x1 ?k3x1 News.nil ?k5x1 ?kAx1 ?kFx1 ?kKx1 ?k6x1 ?k7x1 ?k8x1 ?k9x1 ?kBx1 ?kDx1 ?_ ?c2x1 ?c3x1 ?c4x1; (case kAx1 => exact rfl); (case kFx1 => exact rfl); (case kKx1 => assumption); (case k1x1 => k_asm); (case k2x1 => k_asm); (case k3x1 => k_asm); (case k5x1 => k_asm); (case k6x1 => k_is); (case k7x1 => k_is); (case k8x1 => ktr_room); (case k9x1 => exact BindsTo.of_eq rfl); (case kBx1 => exact rfl); (case kDx1 => decide +kernel); (case c2x1 => exact rfl); (case c3x1 => exact rfl); (case c4x1 => exact rfl); k_whole; intro gpq7 Lpq7 hpq7 tkpq7 cellspq7 FGpq7 Fpq7 Npq7 Ypq7 Bpq7 Xpq7 Tpq7 l1q7 kGpq7; clear l1q7; k_cells Ypq7; (try simp only [List.cons_append, List.nil_append] at Npq7); (try dsimp only); (try k_fold))))
  k_with "calls" => (cell_ask (c_need_charset _ _ _ (by assumption)))
  k_with "calls" => (cell_ask (c_has_sign _ _ _ _ _ (by assumption)))
  k_with "calls" => (cell_ask (c_utf8_octets _ _ _ (by assumption)))
  k_with "calls" => (cell_ask (c_utf8_sign _ _ _ _ _ (by first | assumption | omega) (by first | assumption | omega) (by first | assumption | omega)))
  k_with "calls" => (cell_ask (c_sign_at' _ _ _ _ _ _ _ (by assumption) (by first | assumption | omega) (by first | assumption | omega) (by first | assumption | omega)))
  k_with "x15" => ((intro zq7 h2q7 h3q7; (simp only [List.forall_mem_cons, List.not_mem_nil, false_implies, implies_true, and_true, ne_eq] at h2q7); (simp only [List.contains_cons, List.contains_nil, Bool.or_false, Bool.or_eq_false_iff, beq_eq_false_iff_ne, ne_eq] at h3q7); simp [kstB, h2q7, h3q7]))
  k_with "calls" => (cell_ask (c_text_in _ _ _ _ _ (by assumption) (by assumption)))
  k_with "calls" => (cell_ask (c_strict_text _ _ _ _ _ (by assumption) (by assumption) (by assumption)))
  k_with "x18" => ((k_here; k_dflt (refine item_text (by first | assumption | omega) (by first | assumption | omega) (by first | assumption | omega) ?_)))
  k_with "x19" => ((k_here; k_dflt (refine len_text (by first | assumption | omega) ?_)))
  k_with "x20" => ((k_here; k_dflt (refine ord_one (by first | assumption | omega) ?_)))
  k_with "calls" => (cell_ask (c_has_sign_true _ _ _ _ _ (by assumption) (by assumption)))
  k_with "x22" => ((intro zq7 h1q7 h2q7 h3q7; (simp only [List.forall_mem_cons, List.not_mem_nil, false_implies, implies_true, and_true, ne_eq] at h2q7); (simp only [List.contains_cons, List.contains_nil, Bool.or_false, Bool.or_eq_false_iff, beq_eq_false_iff_ne, ne_eq] at h3q7); simp [kstB, h1q7, h2q7, h3q7]))
  k_with "calls" => (cell_ask (c_octets_in0 _ _ _ _ _ (by assumption) (by first | assumption | omega) (by assumption)))
  k_with "calls" => (cell_ask (c_best_charset _ _ _ (by first | assumption | omega) (by assumption)))
  k_with "x50" => ((k_dflt ((show ¬ @Eq Nat _ _); intro e9q7; (repeat (rename And _ _ => c9q7; obtain ⟨_, _⟩ := c9q7)); first | exact absurd e9q7 (by assumption) | exact absurd e9q7.symm (by assumption) | exact absurd e9q7 (Nat.ne_of_lt (by assumption)) | exact absurd e9q7.symm (Nat.ne_of_lt (by assumption)) | omega)))
  k_with "x51" => ((refine neN ?_; (try dsimp only); intro e9q7; (rename And _ _ => c9q7); first | exact absurd e9q7 c9q7.1 | exact absurd e9q7 c9q7.2.1 | exact absurd e9q7 c9q7.2.2.1 | exact absurd e9q7 c9q7.2.2.2.1 | exact absurd e9q7 c9q7.2.2.2.2.1 | exact absurd e9q7 c9q7.2.2.2.2.2.1 | exact absurd e9q7 c9q7.2.2.2.2.2.2.1 | exact absurd e9q7 c9q7.2.2.2.2.2.2.2.1 | exact absurd e9q7 c9q7.2.2.2.2.2.2.2.2.1 | exact absurd e9q7 c9q7.2 | exact absurd e9q7 c9q7.2.2 | exact absurd e9q7 c9q7.2.2.2 | exact absurd e9q7 c9q7.2.2.2.2 | exact absurd e9q7 c9q7.2.2.2.2.2 | exact absurd e9q7 c9q7.2.2.2.2.2.2 | exact absurd e9q7 c9q7.2.2.2.2.2.2.2 | exact absurd e9q7 c9q7.2.2.2.2.2.2.2.2 | exact absurd e9q7 c9q7.2.2.2.2.2.2.2.2.2 | exact absurd e9q7.symm c9q7.1 | exact absurd e9q7.symm c9q7.2.1 | exact absurd e9q7.symm c9q7.2.2.1 | exact absurd e9q7.symm c9q7.2.2.2.1 | exact absurd e9q7.symm c9q7.2.2.2.2.1 | exact absurd e9q7.symm c9q7.2.2.2.2.2.1 | exact absurd e9q7.symm c9q7.2.2.2.2.2.2.1 | exact absurd e9q7.symm c9q7.2.2.2.2.2.2.2.1 | exact absurd e9q7.symm c9q7.2.2.2.2.2.2.2.2.1 | exact absurd e9q7.symm c9q7.2 | exact absurd e9q7.symm c9q7.2.2 | exact absurd e9q7.symm c9q7.2.2.2 | exact absurd e9q7.symm c9q7.2.2.2.2 | exact absurd e9q7.symm c9q7.2.2.2.2.2 | exact absurd e9q7.symm c9q7.2.2.2.2.2.2 | exact absurd e9q7.symm c9q7.2.2.2.2.2.2.2 | exact absurd e9q7.symm c9q7.2.2.2.2.2.2.2.2 | exact absurd e9q7.symm c9q7.2.2.2.2.2.2.2.2.2 | exact absurd e9q7 (Nat.ne_of_lt c9q7.1) | exact absurd e9q7 (Nat.ne_of_lt c9q7.2.1) | exact absurd e9q7 (Nat.ne_of_lt c9q7.2.2.1) | exact absurd e9q7 (Nat.ne_of_lt c9q7.2.2.2.1) | exact absurd e9q7 (Nat.ne_of_lt c9q7.2.2.2.2.1) | exact absurd e9q7 (Nat.ne_of_lt c9q7.2.2.2.2.2.1) | exact absurd e9q7 (Nat.ne_of_lt c9q7.2.2.2.2.2.2.1) | exact absurd e9q7 (Nat.ne_of_lt c9q7.2.2.2.2.2.2.2.1) | exact absurd e9q7 (Nat.ne_of_lt c9q7.2.2.2.2.2.2.2.2.1) | exact absurd e9q7 (Nat.ne_of_lt c9q7.2) | exact absurd e9q7 (Nat.ne_of_lt c9q7.2.2) | exact absurd e9q7 (Nat.ne_of_lt c9q7.2.2.2) | exact absurd e9q7 (Nat.ne_of_lt c9q7.2.2.2.2) | exact absurd e9q7 (Nat.ne_of_lt c9q7.2.2.2.2.2) | exact absurd e9q7 (Nat.ne_of_lt c9q7.2.2.2.2.2.2) | exact absurd e9q7 (Nat.ne_of_lt c9q7.2.2.2.2.2.2.2) | exact absurd e9q7 (Nat.ne_of_lt c9q7.2.2.2.2.2.2.2.2) | exact absurd e9q7 (Nat.ne_of_lt c9q7.2.2.2.2.2.2.2.2.2) | exact absurd e9q7.symm (Nat.ne_of_lt c9q7.1) | exact absurd e9q7.symm (Nat.ne_of_lt c9q7.2.1) | exact absurd e9q7.symm (Nat.ne_of_lt c9q7.2.2.1) | exact absurd e9q7.symm (Nat.ne_of_lt c9q7.2.2.2.1) | exact absurd e9q7.symm (Nat.ne_of_lt c9q7.2.2.2.2.1) | exact absurd e9q7.symm (Nat.ne_of_lt c9q7.2.2.2.2.2.1) | exact absurd e9q7.symm (Nat.ne_of_lt c9q7.2.2.2.2.2.2.1) | exact absurd e9q7.symm (Nat.ne_of_lt c9q7.2.2.2.2.2.2.2.1) | exact absurd e9q7.symm (Nat.ne_of_lt c9q7.2.2.2.2.2.2.2.2.1) | exact absurd e9q7.symm (Nat.ne_of_lt c9q7.2) | exact absurd e9q7.symm (Nat.ne_of_lt c9q7.2.2) | exact absurd e9q7.symm (Nat.ne_of_lt c9q7.2.2.2) | exact absurd e9q7.symm (Nat.ne_of_lt c9q7.2.2.2.2) | exact absurd e9q7.symm (Nat.ne_of_lt c9q7.2.2.2.2.2) | exact absurd e9q7.symm (Nat.ne_of_lt c9q7.2.2.2.2.2.2) | exact absurd e9q7.symm (Nat.ne_of_lt c9q7.2.2.2.2.2.2.2) | exact absurd e9q7.symm (Nat.ne_of_lt c9q7.2.2.2.2.2.2.2.2) | exact absurd e9q7.symm (Nat.ne_of_lt c9q7.2.2.2.2.2.2.2.2.2) | (clear c9q7; (rename And _ _ => c8q7); first | exact absurd e9q7 c8q7.1 | exact absurd e9q7 c8q7.2.1 | exact absurd e9q7 c8q7.2.2.1 | exact absurd e9q7 c8q7.2.2.2.1 | exact absurd e9q7 c8q7.2.2.2.2.1 | exact absurd e9q7 c8q7.2.2.2.2.2.1 | exact absurd e9q7 c8q7.2.2.2.2.2.2.1 | exact absurd e9q7 c8q7.2.2.2.2.2.2.2.1 | exact absurd e9q7 c8q7.2.2.2.2.2.2.2.2.1 | exact absurd e9q7 c8q7.2 | exact absurd e9q7 c8q7.2.2 | exact absurd e9q7 c8q7.2.2.2 | exact absurd e9q7 c8q7.2.2.2.2 | exact absurd e9q7 c8q7.2.2.2.2.2 | exact absurd e9q7 c8q7.2.2.2.2.2.2 | exact absurd e9q7 c8q7.2.2.2.2.2.2.2 | exact absurd e9q7 c8q7.2.2.2.2.2.2.2.2 | exact absurd e9q7 c8q7.2.2.2.2.2.2.2.2.2 | exact absurd e9q7.symm c8q7.1 | exact absurd e9q7.symm c8q7.2.1 | exact absurd e9q7.symm c8q7.2.2.1 | exact absurd e9q7.symm c8q7.2.2.2.1 | exact absurd e9q7.symm c8q7.2.2.2.2.1 | exact absurd e9q7.symm c8q7.2.2.2.2.2.1 | exact absurd e9q7.symm c8q7.2.2.2.2.2.2.1 | exact absurd e9q7.symm c8q7.2.2.2.2.2.2.2.1 | exact absurd e9q7.symm c8q7.2.2.2.2.2.2.2.2.1 | exact absurd e9q7.symm c8q7.2 | exact absurd e9q7.symm c8q7.2.2 | exact absurd e9q7.symm c8q7.2.2.2 | exact absurd e9q7.symm c8q7.2.2.2.2 | exact absurd e9q7.symm c8q7.2.2.2.2.2 | exact absurd e9q7.symm c8q7.2.2.2.2.2.2 | exact absurd e9q7.symm c8q7.2.2.2.2.2.2.2 | exact absurd e9q7.symm c8q7.2.2.2.2.2.2.2.2 | exact absurd e9q7.symm c8q7.2.2.2.2.2.2.2.2.2 | exact absurd e9q7 (Nat.ne_of_lt c8q7.1) | exact absurd e9q7 (Nat.ne_of_lt c8q7.2.1) | exact absurd e9q7 (Nat.ne_of_lt c8q7.2.2.1) | exact absurd e9q7 (Nat.ne_of_lt c8q7.2.2.2.1) | exact absurd e9q7 (Nat.ne_of_lt c8q7.2.2.2.2.1) | exact absurd e9q7 (Nat.ne_of_lt c8q7.2.2.2.2.2.1) | exact absurd e9q7 (Nat.ne_of_lt c8q7.2.2.2.2.2.2.1) | exact absurd e9q7 (Nat.ne_of_lt c8q7.2.2.2.2.2.2.2.1) | exact absurd e9q7 (Nat.ne_of_lt c8q7.2.2.2.2.2.2.2.2.1) | exact absurd e9q7 (Nat.ne_of_lt c8q7.2) | exact absurd e9q7 (Nat.ne_of_lt c8q7.2.2) | exact absurd e9q7 (Nat.ne_of_lt c8q7.2.2.2) | exact absurd e9q7 (Nat.ne_of_lt c8q7.2.2.2.2) | exact absurd e9q7 (Nat.ne_of_lt c8q7.2.2.2.2.2) | exact absurd e9q7 (Nat.ne_of_lt c8q7.2.2.2.2.2.2) | exact absurd e9q7 (Nat.ne_of_lt c8q7.2.2.2.2.2.2.2) | exact absurd e9q7 (Nat.ne_of_lt c8q7.2.2.2.2.2.2.2.2) | exact absurd e9q7 (Nat.ne_of_lt c8q7.2.2.2.2.2.2.2.2.2) | exact absurd e9q7.symm (Nat.ne_of_lt c8q7.1) | exact absurd e9q7.symm (Nat.ne_of_lt c8q7.2.1) | exact absurd e9q7.symm (Nat.ne_of_lt c8q7.2.2.1) | exact absurd e9q7.symm (Nat.ne_of_lt c8q7.2.2.2.1) | exact absurd e9q7.symm (Nat.ne_of_lt c8q7.2.2.2.2.1) | exact absurd e9q7.symm (Nat.ne_of_lt c8q7.2.2.2.2.2.1) | exact absurd e9q7.symm (Nat.ne_of_lt c8q7.2.2.2.2.2.2.1) | exact absurd e9q7.symm (Nat.ne_of_lt c8q7.2.2.2.2.2.2.2.1) | exact absurd e9q7.symm (Nat.ne_of_lt c8q7.2.2.2.2.2.2.2.2.1) | exact absurd e9q7.symm (Nat.ne_of_lt c8q7.2) | exact absurd e9q7.symm (Nat.ne_of_lt c8q7.2.2) | exact absurd e9q7.symm (Nat.ne_of_lt c8q7.2.2.2) | exact absurd e9q7.symm (Nat.ne_of_lt c8q7.2.2.2.2) | exact absurd e9q7.symm (Nat.ne_of_lt c8q7.2.2.2.2.2) | exact absurd e9q7.symm (Nat.ne_of_lt c8q7.2.2.2.2.2.2) | exact absurd e9q7.symm (Nat.ne_of_lt c8q7.2.2.2.2.2.2.2) | exact absurd e9q7.symm (Nat.ne_of_lt c8q7.2.2.2.2.2.2.2.2) | exact absurd e9q7.symm (Nat.ne_of_lt c8q7.2.2.2.2.2.2.2.2.2))))
  k_with "x52" => (((repeat (rename And _ _ => c9q7; clear c9q7)); omega))
  k_with "x53" => ((k_here; (with_reducible show wpAny _ _ (eval (Expr.ListComp _ [PySem.Comprehension.mk _ _ [] _] _ _) _) _ _ _); k_dflt (refine lcU (by k_asm) (by with_unfolding_all rfl) (by decide) (by rfl) (by decide) (by rfl) ?_)))
  k_with "x54" => ((k_here; (with_reducible show wpAny _ _ (eval (Expr.ListComp _ [PySem.Comprehension.mk _ _ [_] _] _ _) _) _ _ _); k_dflt (refine lcT (by k_asm) (by with_unfolding_all rfl) (by decide) (by rfl) (by decide) (by rfl) ?_)))
  k_with "x55" => ((k_here; k_dflt (refine lcAU (by k_asm) (by rfl) (by with_unfolding_all rfl) (by with_unfolding_all rfl) (by decide) (by rfl) (by decide) (by rfl) (by rfl) (by rfl) ?_)))
  k_with "x56" => ((k_here; (with_reducible show wpAny _ _ (call (Value.ref 147) _) _ _ _); k_dflt (refine' pd_use (c_draw _ _ _ ?h1x56 ?h2x56) ?k1x56 ?k2x56 ?k3x56 ?k4x56 ?kKx56 ?k5x56 ?kdx56 ?kux56 ?m1x56 ?m2x56 ?pqx56 ?hIx56 ?hlx56 ?hxx56 ?hx2x56 ?hyx56 ?_; (case k1x56 => k_asm); (case k2x56 => k_asm); (case k3x56 => k_asm); (case k4x56 => k_asm); (case kKx56 => first | exact rfl | assumption); (case k5x56 => k_asm); (case kdx56 => ktr_room); (case kux56 => ktr_units); (case m1x56 => k_mem); (case m2x56 => k_mem); (case pqx56 => first | assumption | walk_at "a ne"); (case hIx56 => assumption); (case hlx56 => first | assumption | walk_at "a om"); (case hxx56 => first | assumption | walk_at "a om"); (case hx2x56 => first | assumption | walk_at "a om"); (case hyx56 => first | assumption | walk_at "a om"); (case h1x56 => walk_at "a om"); (case h2x56 => walk_at "a om")); (rintro r9q7 v9q7 x9q7 tx9q7 y9q7 ty9q7 h9q7 tk9q7 F9q7 N9q7 r1q7 r2q7 x1q7 x2q7 y1q7 ⟨t9q7, e9q7⟩); (subst e9q7); (simp only [List.map_cons, List.map_nil] at N9q7); (repeat (first | rw [if_pos trivial] at N9q7 | rw [if_pos rfl] at N9q7 | rw [if_neg (by walk_at "a ne")] at N9q7)); (try dsimp only)))
  k_with "x57" => ((k_here; (with_reducible show wpAny _ _ (call (Value.ref 154) _) _ _ _); k_dflt (k_extra "my pick")))
  k_with "x58" => ((k_here; (with_reducible refine gm_bjoin ?_)))
  k_with "x59" => ((k_here; k_dflt (refine ne_same (by with_unfolding_all rfl) ?_)))
  k_with "x60" => ((k_here; k_dflt (refine ne_same_b (by with_unfolding_all rfl) ?_)))
  k_with "x61" => (((show GoodW _ _ _ _ _ (.ok (.ret (.bool true))) _); (refine goodW_bool (by assumption) (by assumption) (raisesW_false ?nnx61) ?ppx61); (case nnx61 => wrow_none_raised); (case ppx61 => with_unfolding_all rfl)))
  k_with "x62" => ((intro i9q7 u9q7 I9q7 oI9q7 C9q7 oC9q7 D9q7 m9q7 ys9q7 h9q7 tk9q7 E9q7 hi9q7 hC9q7 hx9q7 F9q7 N9q7 off9q7 ne9q7; (have off9pq7 := off9q7); (simp only [LCg.Off3, and_true] at off9pq7); (try k_fold)))
  k_with "x63" => ((rename News _ _ _ _ => nEq7; exact LCg.CompEnd.intro (by assumption) nEq7 _ (by lcg_sub) (by assumption) (by first | trivial | k_mem) ⟨rfl, _, rfl⟩))
  k_with "my ne" =>
    (refine st_ne (News.isList (by k_asm) (by k_mem)) (News.isList (by k_asm) (by k_mem)) hysC1 hysD1 hok1 hok1 (by ke_room) ?_)
    (rw [decide_eq_true rfl, Bool.not_true])
  k_steps
  done)
end

end Mine
theorem PySem.Challenge.cw_nz0281_01_holds : PySem.Challenge.rw_nz0281_01.Holds :=
  Mine.law_holds
