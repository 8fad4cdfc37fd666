import PyProof.Rows.All
import Wide.All
import OpenK.AllK
import Wide.FinOn
import KE.KStateDown
import Lean
import HandS.Head0
import HandS.Head1
import HandS.Head2
import HandS.Words
import PySem.Challenge.RW_filerights_k37_whole_numbers_of_copies
import HandS.ForMost
import HandS.More
import HandS.Codes
import HandS.CallLocal
import HandS.Star
import HandS.ClsMeth
import HandS.Style
import HandS.IsInst
import HandS.Walk
import HandS.Defaults
import HandS.Property
import HandS.HeadHook1
import HandS.HeadHook2
import HandS.HeadHook3
import HandS.HeadEnd
import HandS.HeadWalk
import HandS.FStr
import HandS.Flow
import HandS.DictComp
import HandS.StrMore
import HandS.ListItems
import HandS.Conv
import PyProof.DictUpdate
import KE.KUnpackStar
import HandS.NoneIn
import HandS.Replace
import HandS.TryOnly
import HandS.MakeKw
import HandS.Zip
import HandS.SetTxt0
import HandS.SetBool
import HandS.Base
import HandS.Call
import HandS.Ends
section
set_option Elab.async false
set_option linter.all false
set_option maxRecDepth 100000
set_option maxHeartbeats 0
namespace K37H
open PySem PySem.W PySem.Calls PyProof.Rows HandSHeadRun
abbrev vS (x : String) (t : Tok) : Value := .str (Str.ofString x) t
abbrev vR : Addr → Value := .ref
abbrev vI : Int → Tok → Value := .int
abbrev vB : String → Value := .builtin
abbrev vT : String → Value := .type
abbrev vN : Value := .none
abbrev dF : Array Value → Data := .fields
abbrev sO : String → PySem.Str := PySem.Str.ofString
abbrev kH : Params → PySem.Str → Int := PyData.keyHash
abbrev nd : Obj → W.BT → W.BT → W.BT := W.BT.node
abbrev nl : W.BT := W.BT.nil
abbrev topS (i : Nat) : Stmt := PySem.Challenge.pw_filerights_k37_whole_numbers_of_copies.main.body.getD i (.Pass ⟨0, 0, 0, 0⟩)
abbrev inC : Stmt → Nat → Stmt := L2.inClass
abbrev dA : Stmt → Arguments := L2.defArgs
abbrev dB : Stmt → List Stmt := L2.defBody
abbrev dS : Stmt → Scope := L2.defScope
def o_1 (P : Params) : Obj := { cls := vT "tuple", data := Data.seq #[] }
def o_3 (P : Params) : Obj := { cls := vT "code", data := dF #[vS "<module>" 182, vS "<module>" 183, vS "/claim/cut.py" 184, vI 1 0, vI 0 0, vI 0 0, vI 0 0, vI 0 0, vR 11, Value.bool false, vI 181 0, vR 12, vN, vN, vN, vN, vI 185 0, vI 1 0, vS "/claim/cut.py" 186] }
def o_4 (P : Params) : Obj := { cls := vT "frame", slots := #[some (vR 13), some (vR 3), some (vR 3), none, some (vS "__main__" 164), none, some (vR 0)] }
def o_7 (P : Params) : Obj := { cls := vT "tuple", data := Data.seq #[] }
def o_8 (P : Params) : Obj := { cls := vN, data := dF #[] }
def o_9 (P : Params) : Obj := { cls := vT "tuple", data := Data.seq #[vS "k" 190] }
def o_10 (P : Params) : Obj := { cls := vT "tuple", data := Data.seq #[] }
def o_11 (P : Params) : Obj := { cls := vN, data := Data.func { name := sO "_wall", qualname := sO "_wall", params := dA (topS 0), body := FuncBody.stmts (dB (topS 0)), scope := dS (topS 0), globals := 0, closure := [], defaults := vN, kwdefaults := vN } }
def o_12 (P : Params) : Obj := { cls := vT "code", data := dF #[vS "_wall" 187, vS "_wall" 188, vS "/claim/cut.py" 189, vI 1 0, vI 1 0, vI 0 0, vI 0 0, vI 3 0, vR 15, Value.bool true, vI 181 0, vR 16, vN, vR 17, vR 18, vR 19, vI 191 0, vI 1 0, vS "/claim/cut.py" 192] }
def o_13 (P : Params) : Obj := { cls := vT "function", data := Data.func { name := sO "_wall", qualname := sO "_wall", params := dA (topS 0), body := FuncBody.stmts (dB (topS 0)), scope := dS (topS 0), globals := 3, closure := [], defaults := vN, kwdefaults := vN, pyModule := vS "__main__" 164, code := vR 20 } }
def o_14 (P : Params) : Obj := { cls := vT "tuple", data := Data.seq #[vT "ValueError"] }
def o_15 (P : Params) : Obj := { cls := vT "builtin_function_or_method", data := dF #[vB "type.__prepare__", vT "type"] }
def o_16 (P : Params) : Obj := { cls := vT "dict", data := Data.dict #[{ hash := kH P (sO "__module__"), key := vS "__module__" 203, val := vS "filerights.errors" 194 }, { hash := kH P (sO "__qualname__"), key := vS "__qualname__" 205, val := vS "RightsError" 204 }, { hash := kH P (sO "__firstlineno__"), key := vS "__firstlineno__" 207, val := vI 5 206 }, { hash := kH P (sO "__static_attributes__"), key := vS "__static_attributes__" 208, val := vR 29 }] 4 }
def o_17 (P : Params) : Obj := { cls := vT "tuple", data := Data.seq #[] }
def o_18 (P : Params) : Obj := { cls := vN, data := dF #[] }
def o_19 (P : Params) : Obj := { cls := vT "code", data := dF #[vS "RightsError" 198, vS "RightsError" 199, vS "/claim/cut.py" 200, vI 5 0, vI 0 0, vI 0 0, vI 0 0, vI 0 0, vR 25, Value.bool false, vI 181 0, vR 26, vN, vN, vN, vN, vI 201 0, vI 5 0, vS "/claim/cut.py" 202] }
def o_20 (P : Params) : Obj := { cls := vT "frame", slots := #[some (vR 27), some (vR 3), some (vR 24), none, some (vS "filerights.errors" 194), none, some (vR 0)] }
def o_21 (P : Params) : Obj := { cls := vT "tuple", data := Data.seq #[] }
def o_22 (P : Params) : Obj := { cls := vT "dict", data := Data.dict #[{ hash := kH P (sO "__module__"), key := vS "__module__" 203, val := vS "filerights.errors" 194 }, { hash := kH P (sO "__firstlineno__"), key := vS "__firstlineno__" 207, val := vI 5 206 }, { hash := kH P (sO "__static_attributes__"), key := vS "__static_attributes__" 208, val := vR 29 }, { hash := kH P (sO "__weakref__"), key := vS "__weakref__" 210, val := vR 32 }, { hash := kH P (sO "__doc__"), key := vS "__doc__" 211, val := vN }] 3 }
def o_24 (P : Params) : Obj := { cls := vT "getset_descriptor", data := dF #[vS "__weakref__" 209, vR 31, vB "ExceptionGroup.__weakref__", vN] }
def o_25 (P : Params) : Obj := { cls := vT "super", data := dF #[vR 31, vR 31, vR 31] }
def o_26 (P : Params) : Obj := { cls := vT "builtin_function_or_method", data := dF #[vB "object.__init_subclass__", vR 31] }
def o_28 (P : Params) : Obj := { cls := vN, data := Data.dict #[{ hash := kH P (sO "type.__subclasses__.KeyError.0"), key := vS "type.__subclasses__.KeyError.0" 230, val := vI 44 0 }, { hash := kH P (sO "type.__subclasses__.KeyError.n"), key := vS "type.__subclasses__.KeyError.n" 231, val := vI 1 0 }] 2 }
def o_31 (P : Params) : Obj := { cls := vT "tuple", data := Data.seq #[vT "KeyError"] }
def o_32 (P : Params) : Obj := { cls := vT "builtin_function_or_method", data := dF #[vB "type.__prepare__", vT "type"] }
def o_33 (P : Params) : Obj := { cls := vT "dict", data := Data.dict #[{ hash := kH P (sO "__module__"), key := vS "__module__" 221, val := vS "filerights.errors" 194 }, { hash := kH P (sO "__qualname__"), key := vS "__qualname__" 223, val := vS "MissingError" 222 }, { hash := kH P (sO "__firstlineno__"), key := vS "__firstlineno__" 225, val := vI 7 224 }, { hash := kH P (sO "__static_attributes__"), key := vS "__static_attributes__" 226, val := vR 42 }] 4 }
def o_34 (P : Params) : Obj := { cls := vT "tuple", data := Data.seq #[] }
def o_35 (P : Params) : Obj := { cls := vN, data := dF #[] }
def o_36 (P : Params) : Obj := { cls := vT "code", data := dF #[vS "MissingError" 216, vS "MissingError" 217, vS "/claim/cut.py" 218, vI 7 0, vI 0 0, vI 0 0, vI 0 0, vI 0 0, vR 38, Value.bool false, vI 181 0, vR 39, vN, vN, vN, vN, vI 219 0, vI 7 0, vS "/claim/cut.py" 220] }
def o_37 (P : Params) : Obj := { cls := vT "frame", slots := #[some (vR 40), some (vR 3), some (vR 37), none, some (vS "filerights.errors" 194), none, some (vR 0)] }
def o_38 (P : Params) : Obj := { cls := vT "tuple", data := Data.seq #[] }
def o_39 (P : Params) : Obj := { cls := vT "dict", data := Data.dict #[{ hash := kH P (sO "__module__"), key := vS "__module__" 221, val := vS "filerights.errors" 194 }, { hash := kH P (sO "__firstlineno__"), key := vS "__firstlineno__" 225, val := vI 7 224 }, { hash := kH P (sO "__static_attributes__"), key := vS "__static_attributes__" 226, val := vR 42 }, { hash := kH P (sO "__weakref__"), key := vS "__weakref__" 228, val := vR 45 }, { hash := kH P (sO "__doc__"), key := vS "__doc__" 229, val := vN }] 3 }
def o_41 (P : Params) : Obj := { cls := vT "getset_descriptor", data := dF #[vS "__weakref__" 227, vR 44, vB "ExceptionGroup.__weakref__", vN] }
def o_42 (P : Params) : Obj := { cls := vT "super", data := dF #[vR 44, vR 44, vR 44] }
def o_43 (P : Params) : Obj := { cls := vT "builtin_function_or_method", data := dF #[vB "object.__init_subclass__", vR 44] }
def o_44 (P : Params) : Obj := { cls := vT "tuple", data := Data.seq #[vT "LookupError"] }
def o_45 (P : Params) : Obj := { cls := vT "builtin_function_or_method", data := dF #[vB "type.__prepare__", vT "type"] }
def o_46 (P : Params) : Obj := { cls := vT "dict", data := Data.dict #[{ hash := kH P (sO "__module__"), key := vS "__module__" 241, val := vS "filerights.errors" 194 }, { hash := kH P (sO "__qualname__"), key := vS "__qualname__" 243, val := vS "RefusedError" 242 }, { hash := kH P (sO "__firstlineno__"), key := vS "__firstlineno__" 245, val := vI 9 244 }, { hash := kH P (sO "__static_attributes__"), key := vS "__static_attributes__" 246, val := vR 55 }] 4 }
def o_47 (P : Params) : Obj := { cls := vT "tuple", data := Data.seq #[] }
def o_48 (P : Params) : Obj := { cls := vN, data := dF #[] }
def o_49 (P : Params) : Obj := { cls := vT "code", data := dF #[vS "RefusedError" 236, vS "RefusedError" 237, vS "/claim/cut.py" 238, vI 9 0, vI 0 0, vI 0 0, vI 0 0, vI 0 0, vR 51, Value.bool false, vI 181 0, vR 52, vN, vN, vN, vN, vI 239 0, vI 9 0, vS "/claim/cut.py" 240] }
def o_50 (P : Params) : Obj := { cls := vT "frame", slots := #[some (vR 53), some (vR 3), some (vR 50), none, some (vS "filerights.errors" 194), none, some (vR 0)] }
def o_51 (P : Params) : Obj := { cls := vT "tuple", data := Data.seq #[] }
def o_52 (P : Params) : Obj := { cls := vT "dict", data := Data.dict #[{ hash := kH P (sO "__module__"), key := vS "__module__" 241, val := vS "filerights.errors" 194 }, { hash := kH P (sO "__firstlineno__"), key := vS "__firstlineno__" 245, val := vI 9 244 }, { hash := kH P (sO "__static_attributes__"), key := vS "__static_attributes__" 246, val := vR 55 }, { hash := kH P (sO "__weakref__"), key := vS "__weakref__" 248, val := vR 58 }, { hash := kH P (sO "__doc__"), key := vS "__doc__" 249, val := vN }] 3 }
def o_54 (P : Params) : Obj := { cls := vT "getset_descriptor", data := dF #[vS "__weakref__" 247, vR 57, vB "ExceptionGroup.__weakref__", vN] }
def o_55 (P : Params) : Obj := { cls := vT "super", data := dF #[vR 57, vR 57, vR 57] }
def o_56 (P : Params) : Obj := { cls := vT "builtin_function_or_method", data := dF #[vB "object.__init_subclass__", vR 57] }
def o_61 (P : Params) : Obj := { cls := vT "tuple", data := Data.seq #[vR 31] }
def o_62 (P : Params) : Obj := { cls := vT "builtin_function_or_method", data := dF #[vB "type.__prepare__", vT "type"] }
def o_63 (P : Params) : Obj := { cls := vT "dict", data := Data.dict #[{ hash := kH P (sO "__module__"), key := vS "__module__" 259, val := vS "filerights.errors" 194 }, { hash := kH P (sO "__qualname__"), key := vS "__qualname__" 261, val := vS "InvalidInteger" 260 }, { hash := kH P (sO "__firstlineno__"), key := vS "__firstlineno__" 263, val := vI 11 262 }, { hash := kH P (sO "__init__"), key := vS "__init__" 272, val := vR 76 }, { hash := kH P (sO "__static_attributes__"), key := vS "__static_attributes__" 274, val := vR 77 }, { hash := kH P (sO "__classcell__"), key := vS "__classcell__" 275, val := vR 64 }] 6 }
def o_64 (P : Params) : Obj := { cls := vT "cell", data := Data.cell (some (vR 79)) }
def o_65 (P : Params) : Obj := { cls := vT "tuple", data := Data.seq #[] }
def o_66 (P : Params) : Obj := { cls := vN, data := dF #[vI 13 0, vI 4 0, vR 75] }
def o_67 (P : Params) : Obj := { cls := vT "code", data := dF #[vS "InvalidInteger" 254, vS "InvalidInteger" 255, vS "/claim/cut.py" 256, vI 11 0, vI 0 0, vI 0 0, vI 0 0, vI 0 0, vR 65, Value.bool false, vI 181 0, vR 66, vN, vN, vN, vN, vI 257 0, vI 11 0, vS "/claim/cut.py" 258] }
def o_68 (P : Params) : Obj := { cls := vT "frame", slots := #[some (vR 67), some (vR 3), some (vR 63), none, some (vS "filerights.errors" 194), none, some (vR 0)] }
def o_69 (P : Params) : Obj := { cls := vT "tuple", data := Data.seq #[vR 64] }
def o_70 (P : Params) : Obj := { cls := vT "tuple", data := Data.seq #[vS "__class__" 267] }
def o_71 (P : Params) : Obj := { cls := vN, data := dF #[] }
def o_72 (P : Params) : Obj := { cls := vT "tuple", data := Data.seq #[vS "self" 268, vS "value" 269] }
def o_73 (P : Params) : Obj := { cls := vT "tuple", data := Data.seq #[] }
def o_74 (P : Params) : Obj := { cls := vN, data := Data.func { name := sO "__init__", qualname := sO "InvalidInteger.__init__", params := dA (inC (topS 5) 0), body := FuncBody.stmts (dB (inC (topS 5) 0)), scope := dS (inC (topS 5) 0), globals := 0, closure := [], defaults := vN, kwdefaults := vN } }
def o_75 (P : Params) : Obj := { cls := vT "code", data := dF #[vS "__init__" 264, vS "InvalidInteger.__init__" 265, vS "/claim/cut.py" 266, vI 13 0, vI 2 0, vI 0 0, vI 0 0, vI 3 0, vR 70, Value.bool true, vI 181 0, vR 71, vN, vR 72, vR 73, vR 74, vI 270 0, vI 13 0, vS "/claim/cut.py" 271] }
def o_76 (P : Params) : Obj := { cls := vT "function", data := Data.func { name := sO "__init__", qualname := sO "InvalidInteger.__init__", params := dA (inC (topS 5) 0), body := FuncBody.stmts (dB (inC (topS 5) 0)), scope := dS (inC (topS 5) 0), globals := 3, closure := [(sO "__class__", 64)], defaults := vN, kwdefaults := vN, pyModule := vS "filerights.errors" 194, code := vR 75, closureTuple := vR 69 } }
def o_77 (P : Params) : Obj := { cls := vT "tuple", data := Data.seq #[vS "value" 273] }
def o_78 (P : Params) : Obj := { cls := vT "dict", data := Data.dict #[{ hash := kH P (sO "__module__"), key := vS "__module__" 259, val := vS "filerights.errors" 194 }, { hash := kH P (sO "__firstlineno__"), key := vS "__firstlineno__" 263, val := vI 11 262 }, { hash := kH P (sO "__init__"), key := vS "__init__" 272, val := vR 76 }, { hash := kH P (sO "__static_attributes__"), key := vS "__static_attributes__" 274, val := vR 77 }, { hash := kH P (sO "__doc__"), key := vS "__doc__" 276, val := vN }] 3 }
def o_79 (P : Params) : Obj := { cls := vT "type", data := Data.cls { name := sO "InvalidInteger", bases := [vR 31], mro := [vR 79, vR 31, vT "ValueError", vT "Exception", vT "BaseException", vT "object"], ns := 78, qualname := sO "InvalidInteger" }, slots := #[some (vR 61), none, some (vS "InvalidInteger" 252), some (vS "InvalidInteger" 260), some (vB "ValueError.__new__"), some (Value.bool true)] }
def o_80 (P : Params) : Obj := { cls := vT "super", data := dF #[vR 79, vR 79, vR 79] }
def o_81 (P : Params) : Obj := { cls := vT "builtin_function_or_method", data := dF #[vB "object.__init_subclass__", vR 79] }
def o_86 (P : Params) : Obj := { cls := vT "tuple", data := Data.seq #[vR 31] }
def o_87 (P : Params) : Obj := { cls := vT "builtin_function_or_method", data := dF #[vB "type.__prepare__", vT "type"] }
def o_88 (P : Params) : Obj := { cls := vT "dict", data := Data.dict #[{ hash := kH P (sO "__module__"), key := vS "__module__" 286, val := vS "filerights.errors" 194 }, { hash := kH P (sO "__qualname__"), key := vS "__qualname__" 288, val := vS "InvalidName" 287 }, { hash := kH P (sO "__firstlineno__"), key := vS "__firstlineno__" 290, val := vI 16 289 }, { hash := kH P (sO "__init__"), key := vS "__init__" 299, val := vR 97 }, { hash := kH P (sO "__static_attributes__"), key := vS "__static_attributes__" 301, val := vR 98 }, { hash := kH P (sO "__classcell__"), key := vS "__classcell__" 302, val := vR 85 }] 6 }
def o_89 (P : Params) : Obj := { cls := vT "cell", data := Data.cell (some (vR 100)) }
def o_90 (P : Params) : Obj := { cls := vT "tuple", data := Data.seq #[] }
def o_91 (P : Params) : Obj := { cls := vN, data := dF #[vI 18 0, vI 4 0, vR 96] }
def o_92 (P : Params) : Obj := { cls := vT "code", data := dF #[vS "InvalidName" 281, vS "InvalidName" 282, vS "/claim/cut.py" 283, vI 16 0, vI 0 0, vI 0 0, vI 0 0, vI 0 0, vR 86, Value.bool false, vI 181 0, vR 87, vN, vN, vN, vN, vI 284 0, vI 16 0, vS "/claim/cut.py" 285] }
def o_93 (P : Params) : Obj := { cls := vT "frame", slots := #[some (vR 88), some (vR 3), some (vR 84), none, some (vS "filerights.errors" 194), none, some (vR 0)] }
def o_94 (P : Params) : Obj := { cls := vT "tuple", data := Data.seq #[vR 85] }
def o_95 (P : Params) : Obj := { cls := vT "tuple", data := Data.seq #[vS "__class__" 294] }
def o_96 (P : Params) : Obj := { cls := vN, data := dF #[] }
def o_97 (P : Params) : Obj := { cls := vT "tuple", data := Data.seq #[vS "self" 295, vS "value" 296] }
def o_98 (P : Params) : Obj := { cls := vT "tuple", data := Data.seq #[] }
def o_99 (P : Params) : Obj := { cls := vN, data := Data.func { name := sO "__init__", qualname := sO "InvalidName.__init__", params := dA (inC (topS 6) 0), body := FuncBody.stmts (dB (inC (topS 6) 0)), scope := dS (inC (topS 6) 0), globals := 0, closure := [], defaults := vN, kwdefaults := vN } }
def o_100 (P : Params) : Obj := { cls := vT "code", data := dF #[vS "__init__" 291, vS "InvalidName.__init__" 292, vS "/claim/cut.py" 293, vI 18 0, vI 2 0, vI 0 0, vI 0 0, vI 3 0, vR 91, Value.bool true, vI 181 0, vR 92, vN, vR 93, vR 94, vR 95, vI 297 0, vI 18 0, vS "/claim/cut.py" 298] }
def o_101 (P : Params) : Obj := { cls := vT "function", data := Data.func { name := sO "__init__", qualname := sO "InvalidName.__init__", params := dA (inC (topS 6) 0), body := FuncBody.stmts (dB (inC (topS 6) 0)), scope := dS (inC (topS 6) 0), globals := 3, closure := [(sO "__class__", 85)], defaults := vN, kwdefaults := vN, pyModule := vS "filerights.errors" 194, code := vR 96, closureTuple := vR 90 } }
def o_102 (P : Params) : Obj := { cls := vT "tuple", data := Data.seq #[vS "value" 300] }
def o_103 (P : Params) : Obj := { cls := vT "dict", data := Data.dict #[{ hash := kH P (sO "__module__"), key := vS "__module__" 286, val := vS "filerights.errors" 194 }, { hash := kH P (sO "__firstlineno__"), key := vS "__firstlineno__" 290, val := vI 16 289 }, { hash := kH P (sO "__init__"), key := vS "__init__" 299, val := vR 97 }, { hash := kH P (sO "__static_attributes__"), key := vS "__static_attributes__" 301, val := vR 98 }, { hash := kH P (sO "__doc__"), key := vS "__doc__" 303, val := vN }] 3 }
def o_104 (P : Params) : Obj := { cls := vT "type", data := Data.cls { name := sO "InvalidName", bases := [vR 31], mro := [vR 100, vR 31, vT "ValueError", vT "Exception", vT "BaseException", vT "object"], ns := 99, qualname := sO "InvalidName" }, slots := #[some (vR 82), none, some (vS "InvalidName" 279), some (vS "InvalidName" 287), some (vB "ValueError.__new__"), some (Value.bool true)] }
def o_105 (P : Params) : Obj := { cls := vT "super", data := dF #[vR 100, vR 100, vR 100] }
def o_106 (P : Params) : Obj := { cls := vT "builtin_function_or_method", data := dF #[vB "object.__init_subclass__", vR 100] }
def o_111 (P : Params) : Obj := { cls := vT "tuple", data := Data.seq #[vR 31] }
def o_112 (P : Params) : Obj := { cls := vT "builtin_function_or_method", data := dF #[vB "type.__prepare__", vT "type"] }
def o_113 (P : Params) : Obj := { cls := vT "dict", data := Data.dict #[{ hash := kH P (sO "__module__"), key := vS "__module__" 313, val := vS "filerights.errors" 194 }, { hash := kH P (sO "__qualname__"), key := vS "__qualname__" 315, val := vS "InvalidPath" 314 }, { hash := kH P (sO "__firstlineno__"), key := vS "__firstlineno__" 317, val := vI 21 316 }, { hash := kH P (sO "__init__"), key := vS "__init__" 326, val := vR 118 }, { hash := kH P (sO "__static_attributes__"), key := vS "__static_attributes__" 328, val := vR 119 }, { hash := kH P (sO "__classcell__"), key := vS "__classcell__" 329, val := vR 106 }] 6 }
def o_114 (P : Params) : Obj := { cls := vT "cell", data := Data.cell (some (vR 121)) }
def o_115 (P : Params) : Obj := { cls := vT "tuple", data := Data.seq #[] }
def o_116 (P : Params) : Obj := { cls := vN, data := dF #[vI 23 0, vI 4 0, vR 117] }
def o_117 (P : Params) : Obj := { cls := vT "code", data := dF #[vS "InvalidPath" 308, vS "InvalidPath" 309, vS "/claim/cut.py" 310, vI 21 0, vI 0 0, vI 0 0, vI 0 0, vI 0 0, vR 107, Value.bool false, vI 181 0, vR 108, vN, vN, vN, vN, vI 311 0, vI 21 0, vS "/claim/cut.py" 312] }
def o_118 (P : Params) : Obj := { cls := vT "frame", slots := #[some (vR 109), some (vR 3), some (vR 105), none, some (vS "filerights.errors" 194), none, some (vR 0)] }
def o_119 (P : Params) : Obj := { cls := vT "tuple", data := Data.seq #[vR 106] }
def o_120 (P : Params) : Obj := { cls := vT "tuple", data := Data.seq #[vS "__class__" 321] }
def o_121 (P : Params) : Obj := { cls := vN, data := dF #[] }
def o_122 (P : Params) : Obj := { cls := vT "tuple", data := Data.seq #[vS "self" 322, vS "value" 323] }
def o_123 (P : Params) : Obj := { cls := vT "tuple", data := Data.seq #[] }
def o_124 (P : Params) : Obj := { cls := vN, data := Data.func { name := sO "__init__", qualname := sO "InvalidPath.__init__", params := dA (inC (topS 7) 0), body := FuncBody.stmts (dB (inC (topS 7) 0)), scope := dS (inC (topS 7) 0), globals := 0, closure := [], defaults := vN, kwdefaults := vN } }
def o_125 (P : Params) : Obj := { cls := vT "code", data := dF #[vS "__init__" 318, vS "InvalidPath.__init__" 319, vS "/claim/cut.py" 320, vI 23 0, vI 2 0, vI 0 0, vI 0 0, vI 3 0, vR 112, Value.bool true, vI 181 0, vR 113, vN, vR 114, vR 115, vR 116, vI 324 0, vI 23 0, vS "/claim/cut.py" 325] }
def o_126 (P : Params) : Obj := { cls := vT "function", data := Data.func { name := sO "__init__", qualname := sO "InvalidPath.__init__", params := dA (inC (topS 7) 0), body := FuncBody.stmts (dB (inC (topS 7) 0)), scope := dS (inC (topS 7) 0), globals := 3, closure := [(sO "__class__", 106)], defaults := vN, kwdefaults := vN, pyModule := vS "filerights.errors" 194, code := vR 117, closureTuple := vR 111 } }
def o_127 (P : Params) : Obj := { cls := vT "tuple", data := Data.seq #[vS "value" 327] }
def o_128 (P : Params) : Obj := { cls := vT "dict", data := Data.dict #[{ hash := kH P (sO "__module__"), key := vS "__module__" 313, val := vS "filerights.errors" 194 }, { hash := kH P (sO "__firstlineno__"), key := vS "__firstlineno__" 317, val := vI 21 316 }, { hash := kH P (sO "__init__"), key := vS "__init__" 326, val := vR 118 }, { hash := kH P (sO "__static_attributes__"), key := vS "__static_attributes__" 328, val := vR 119 }, { hash := kH P (sO "__doc__"), key := vS "__doc__" 330, val := vN }] 3 }
def o_129 (P : Params) : Obj := { cls := vT "type", data := Data.cls { name := sO "InvalidPath", bases := [vR 31], mro := [vR 121, vR 31, vT "ValueError", vT "Exception", vT "BaseException", vT "object"], ns := 120, qualname := sO "InvalidPath" }, slots := #[some (vR 103), none, some (vS "InvalidPath" 306), some (vS "InvalidPath" 314), some (vB "ValueError.__new__"), some (Value.bool true)] }
def o_130 (P : Params) : Obj := { cls := vT "super", data := dF #[vR 121, vR 121, vR 121] }
def o_131 (P : Params) : Obj := { cls := vT "builtin_function_or_method", data := dF #[vB "object.__init_subclass__", vR 121] }
def o_136 (P : Params) : Obj := { cls := vT "tuple", data := Data.seq #[vR 31] }
def o_137 (P : Params) : Obj := { cls := vT "builtin_function_or_method", data := dF #[vB "type.__prepare__", vT "type"] }
def o_138 (P : Params) : Obj := { cls := vT "dict", data := Data.dict #[{ hash := kH P (sO "__module__"), key := vS "__module__" 340, val := vS "filerights.errors" 194 }, { hash := kH P (sO "__qualname__"), key := vS "__qualname__" 342, val := vS "InvalidRights" 341 }, { hash := kH P (sO "__firstlineno__"), key := vS "__firstlineno__" 344, val := vI 26 343 }, { hash := kH P (sO "__init__"), key := vS "__init__" 353, val := vR 139 }, { hash := kH P (sO "__static_attributes__"), key := vS "__static_attributes__" 355, val := vR 140 }, { hash := kH P (sO "__classcell__"), key := vS "__classcell__" 356, val := vR 127 }] 6 }
def o_139 (P : Params) : Obj := { cls := vT "cell", data := Data.cell (some (vR 142)) }
def o_140 (P : Params) : Obj := { cls := vT "tuple", data := Data.seq #[] }
def o_141 (P : Params) : Obj := { cls := vN, data := dF #[vI 28 0, vI 4 0, vR 138] }
def o_142 (P : Params) : Obj := { cls := vT "code", data := dF #[vS "InvalidRights" 335, vS "InvalidRights" 336, vS "/claim/cut.py" 337, vI 26 0, vI 0 0, vI 0 0, vI 0 0, vI 0 0, vR 128, Value.bool false, vI 181 0, vR 129, vN, vN, vN, vN, vI 338 0, vI 26 0, vS "/claim/cut.py" 339] }
def o_143 (P : Params) : Obj := { cls := vT "frame", slots := #[some (vR 130), some (vR 3), some (vR 126), none, some (vS "filerights.errors" 194), none, some (vR 0)] }
def o_144 (P : Params) : Obj := { cls := vT "tuple", data := Data.seq #[vR 127] }
def o_145 (P : Params) : Obj := { cls := vT "tuple", data := Data.seq #[vS "__class__" 348] }
def o_146 (P : Params) : Obj := { cls := vN, data := dF #[] }
def o_147 (P : Params) : Obj := { cls := vT "tuple", data := Data.seq #[vS "self" 349, vS "value" 350] }
def o_148 (P : Params) : Obj := { cls := vT "tuple", data := Data.seq #[] }
def o_149 (P : Params) : Obj := { cls := vN, data := Data.func { name := sO "__init__", qualname := sO "InvalidRights.__init__", params := dA (inC (topS 8) 0), body := FuncBody.stmts (dB (inC (topS 8) 0)), scope := dS (inC (topS 8) 0), globals := 0, closure := [], defaults := vN, kwdefaults := vN } }
def o_150 (P : Params) : Obj := { cls := vT "code", data := dF #[vS "__init__" 345, vS "InvalidRights.__init__" 346, vS "/claim/cut.py" 347, vI 28 0, vI 2 0, vI 0 0, vI 0 0, vI 3 0, vR 133, Value.bool true, vI 181 0, vR 134, vN, vR 135, vR 136, vR 137, vI 351 0, vI 28 0, vS "/claim/cut.py" 352] }
def o_151 (P : Params) : Obj := { cls := vT "function", data := Data.func { name := sO "__init__", qualname := sO "InvalidRights.__init__", params := dA (inC (topS 8) 0), body := FuncBody.stmts (dB (inC (topS 8) 0)), scope := dS (inC (topS 8) 0), globals := 3, closure := [(sO "__class__", 127)], defaults := vN, kwdefaults := vN, pyModule := vS "filerights.errors" 194, code := vR 138, closureTuple := vR 132 } }
def o_152 (P : Params) : Obj := { cls := vT "tuple", data := Data.seq #[vS "value" 354] }
def o_153 (P : Params) : Obj := { cls := vT "dict", data := Data.dict #[{ hash := kH P (sO "__module__"), key := vS "__module__" 340, val := vS "filerights.errors" 194 }, { hash := kH P (sO "__firstlineno__"), key := vS "__firstlineno__" 344, val := vI 26 343 }, { hash := kH P (sO "__init__"), key := vS "__init__" 353, val := vR 139 }, { hash := kH P (sO "__static_attributes__"), key := vS "__static_attributes__" 355, val := vR 140 }, { hash := kH P (sO "__doc__"), key := vS "__doc__" 357, val := vN }] 3 }
def o_154 (P : Params) : Obj := { cls := vT "type", data := Data.cls { name := sO "InvalidRights", bases := [vR 31], mro := [vR 142, vR 31, vT "ValueError", vT "Exception", vT "BaseException", vT "object"], ns := 141, qualname := sO "InvalidRights" }, slots := #[some (vR 124), none, some (vS "InvalidRights" 333), some (vS "InvalidRights" 341), some (vB "ValueError.__new__"), some (Value.bool true)] }
def o_155 (P : Params) : Obj := { cls := vT "super", data := dF #[vR 142, vR 142, vR 142] }
def o_156 (P : Params) : Obj := { cls := vT "builtin_function_or_method", data := dF #[vB "object.__init_subclass__", vR 142] }
def o_161 (P : Params) : Obj := { cls := vT "tuple", data := Data.seq #[vR 31] }
def o_162 (P : Params) : Obj := { cls := vT "builtin_function_or_method", data := dF #[vB "type.__prepare__", vT "type"] }
def o_163 (P : Params) : Obj := { cls := vT "dict", data := Data.dict #[{ hash := kH P (sO "__module__"), key := vS "__module__" 367, val := vS "filerights.errors" 194 }, { hash := kH P (sO "__qualname__"), key := vS "__qualname__" 369, val := vS "InvalidDigits" 368 }, { hash := kH P (sO "__firstlineno__"), key := vS "__firstlineno__" 371, val := vI 31 370 }, { hash := kH P (sO "__init__"), key := vS "__init__" 380, val := vR 160 }, { hash := kH P (sO "__static_attributes__"), key := vS "__static_attributes__" 382, val := vR 161 }, { hash := kH P (sO "__classcell__"), key := vS "__classcell__" 383, val := vR 148 }] 6 }
def o_164 (P : Params) : Obj := { cls := vT "cell", data := Data.cell (some (vR 163)) }
def o_165 (P : Params) : Obj := { cls := vT "tuple", data := Data.seq #[] }
def o_166 (P : Params) : Obj := { cls := vN, data := dF #[vI 33 0, vI 4 0, vR 159] }
def o_167 (P : Params) : Obj := { cls := vT "code", data := dF #[vS "InvalidDigits" 362, vS "InvalidDigits" 363, vS "/claim/cut.py" 364, vI 31 0, vI 0 0, vI 0 0, vI 0 0, vI 0 0, vR 149, Value.bool false, vI 181 0, vR 150, vN, vN, vN, vN, vI 365 0, vI 31 0, vS "/claim/cut.py" 366] }
def o_168 (P : Params) : Obj := { cls := vT "frame", slots := #[some (vR 151), some (vR 3), some (vR 147), none, some (vS "filerights.errors" 194), none, some (vR 0)] }
def o_169 (P : Params) : Obj := { cls := vT "tuple", data := Data.seq #[vR 148] }
def o_170 (P : Params) : Obj := { cls := vT "tuple", data := Data.seq #[vS "__class__" 375] }
def o_171 (P : Params) : Obj := { cls := vN, data := dF #[] }
def o_172 (P : Params) : Obj := { cls := vT "tuple", data := Data.seq #[vS "self" 376, vS "value" 377] }
def o_173 (P : Params) : Obj := { cls := vT "tuple", data := Data.seq #[] }
def o_174 (P : Params) : Obj := { cls := vN, data := Data.func { name := sO "__init__", qualname := sO "InvalidDigits.__init__", params := dA (inC (topS 9) 0), body := FuncBody.stmts (dB (inC (topS 9) 0)), scope := dS (inC (topS 9) 0), globals := 0, closure := [], defaults := vN, kwdefaults := vN } }
def o_175 (P : Params) : Obj := { cls := vT "code", data := dF #[vS "__init__" 372, vS "InvalidDigits.__init__" 373, vS "/claim/cut.py" 374, vI 33 0, vI 2 0, vI 0 0, vI 0 0, vI 3 0, vR 154, Value.bool true, vI 181 0, vR 155, vN, vR 156, vR 157, vR 158, vI 378 0, vI 33 0, vS "/claim/cut.py" 379] }
def o_176 (P : Params) : Obj := { cls := vT "function", data := Data.func { name := sO "__init__", qualname := sO "InvalidDigits.__init__", params := dA (inC (topS 9) 0), body := FuncBody.stmts (dB (inC (topS 9) 0)), scope := dS (inC (topS 9) 0), globals := 3, closure := [(sO "__class__", 148)], defaults := vN, kwdefaults := vN, pyModule := vS "filerights.errors" 194, code := vR 159, closureTuple := vR 153 } }
def o_177 (P : Params) : Obj := { cls := vT "tuple", data := Data.seq #[vS "value" 381] }
def o_178 (P : Params) : Obj := { cls := vT "dict", data := Data.dict #[{ hash := kH P (sO "__module__"), key := vS "__module__" 367, val := vS "filerights.errors" 194 }, { hash := kH P (sO "__firstlineno__"), key := vS "__firstlineno__" 371, val := vI 31 370 }, { hash := kH P (sO "__init__"), key := vS "__init__" 380, val := vR 160 }, { hash := kH P (sO "__static_attributes__"), key := vS "__static_attributes__" 382, val := vR 161 }, { hash := kH P (sO "__doc__"), key := vS "__doc__" 384, val := vN }] 3 }
def o_179 (P : Params) : Obj := { cls := vT "type", data := Data.cls { name := sO "InvalidDigits", bases := [vR 31], mro := [vR 163, vR 31, vT "ValueError", vT "Exception", vT "BaseException", vT "object"], ns := 162, qualname := sO "InvalidDigits" }, slots := #[some (vR 145), none, some (vS "InvalidDigits" 360), some (vS "InvalidDigits" 368), some (vB "ValueError.__new__"), some (Value.bool true)] }
def o_180 (P : Params) : Obj := { cls := vT "super", data := dF #[vR 163, vR 163, vR 163] }
def o_181 (P : Params) : Obj := { cls := vT "builtin_function_or_method", data := dF #[vB "object.__init_subclass__", vR 163] }
def o_186 (P : Params) : Obj := { cls := vT "tuple", data := Data.seq #[vR 31] }
def o_187 (P : Params) : Obj := { cls := vT "builtin_function_or_method", data := dF #[vB "type.__prepare__", vT "type"] }
def o_188 (P : Params) : Obj := { cls := vT "dict", data := Data.dict #[{ hash := kH P (sO "__module__"), key := vS "__module__" 394, val := vS "filerights.errors" 194 }, { hash := kH P (sO "__qualname__"), key := vS "__qualname__" 396, val := vS "InvalidList" 395 }, { hash := kH P (sO "__firstlineno__"), key := vS "__firstlineno__" 398, val := vI 36 397 }, { hash := kH P (sO "__init__"), key := vS "__init__" 407, val := vR 181 }, { hash := kH P (sO "__static_attributes__"), key := vS "__static_attributes__" 409, val := vR 182 }, { hash := kH P (sO "__classcell__"), key := vS "__classcell__" 410, val := vR 169 }] 6 }
def o_189 (P : Params) : Obj := { cls := vT "cell", data := Data.cell (some (vR 184)) }
def o_190 (P : Params) : Obj := { cls := vT "tuple", data := Data.seq #[] }
def o_191 (P : Params) : Obj := { cls := vN, data := dF #[vI 38 0, vI 4 0, vR 180] }
def o_192 (P : Params) : Obj := { cls := vT "code", data := dF #[vS "InvalidList" 389, vS "InvalidList" 390, vS "/claim/cut.py" 391, vI 36 0, vI 0 0, vI 0 0, vI 0 0, vI 0 0, vR 170, Value.bool false, vI 181 0, vR 171, vN, vN, vN, vN, vI 392 0, vI 36 0, vS "/claim/cut.py" 393] }
def o_193 (P : Params) : Obj := { cls := vT "frame", slots := #[some (vR 172), some (vR 3), some (vR 168), none, some (vS "filerights.errors" 194), none, some (vR 0)] }
def o_194 (P : Params) : Obj := { cls := vT "tuple", data := Data.seq #[vR 169] }
def o_195 (P : Params) : Obj := { cls := vT "tuple", data := Data.seq #[vS "__class__" 402] }
def o_196 (P : Params) : Obj := { cls := vN, data := dF #[] }
def o_197 (P : Params) : Obj := { cls := vT "tuple", data := Data.seq #[vS "self" 403, vS "value" 404] }
def o_198 (P : Params) : Obj := { cls := vT "tuple", data := Data.seq #[] }
def o_199 (P : Params) : Obj := { cls := vN, data := Data.func { name := sO "__init__", qualname := sO "InvalidList.__init__", params := dA (inC (topS 10) 0), body := FuncBody.stmts (dB (inC (topS 10) 0)), scope := dS (inC (topS 10) 0), globals := 0, closure := [], defaults := vN, kwdefaults := vN } }
def o_200 (P : Params) : Obj := { cls := vT "code", data := dF #[vS "__init__" 399, vS "InvalidList.__init__" 400, vS "/claim/cut.py" 401, vI 38 0, vI 2 0, vI 0 0, vI 0 0, vI 3 0, vR 175, Value.bool true, vI 181 0, vR 176, vN, vR 177, vR 178, vR 179, vI 405 0, vI 38 0, vS "/claim/cut.py" 406] }
def o_201 (P : Params) : Obj := { cls := vT "function", data := Data.func { name := sO "__init__", qualname := sO "InvalidList.__init__", params := dA (inC (topS 10) 0), body := FuncBody.stmts (dB (inC (topS 10) 0)), scope := dS (inC (topS 10) 0), globals := 3, closure := [(sO "__class__", 169)], defaults := vN, kwdefaults := vN, pyModule := vS "filerights.errors" 194, code := vR 180, closureTuple := vR 174 } }
def o_202 (P : Params) : Obj := { cls := vT "tuple", data := Data.seq #[vS "value" 408] }
def o_203 (P : Params) : Obj := { cls := vT "dict", data := Data.dict #[{ hash := kH P (sO "__module__"), key := vS "__module__" 394, val := vS "filerights.errors" 194 }, { hash := kH P (sO "__firstlineno__"), key := vS "__firstlineno__" 398, val := vI 36 397 }, { hash := kH P (sO "__init__"), key := vS "__init__" 407, val := vR 181 }, { hash := kH P (sO "__static_attributes__"), key := vS "__static_attributes__" 409, val := vR 182 }, { hash := kH P (sO "__doc__"), key := vS "__doc__" 411, val := vN }] 3 }
def o_204 (P : Params) : Obj := { cls := vT "type", data := Data.cls { name := sO "InvalidList", bases := [vR 31], mro := [vR 184, vR 31, vT "ValueError", vT "Exception", vT "BaseException", vT "object"], ns := 183, qualname := sO "InvalidList" }, slots := #[some (vR 166), none, some (vS "InvalidList" 387), some (vS "InvalidList" 395), some (vB "ValueError.__new__"), some (Value.bool true)] }
def o_205 (P : Params) : Obj := { cls := vT "super", data := dF #[vR 184, vR 184, vR 184] }
def o_206 (P : Params) : Obj := { cls := vT "builtin_function_or_method", data := dF #[vB "object.__init_subclass__", vR 184] }
def o_211 (P : Params) : Obj := { cls := vT "tuple", data := Data.seq #[vR 31] }
def o_212 (P : Params) : Obj := { cls := vT "builtin_function_or_method", data := dF #[vB "type.__prepare__", vT "type"] }
def o_213 (P : Params) : Obj := { cls := vT "dict", data := Data.dict #[{ hash := kH P (sO "__module__"), key := vS "__module__" 421, val := vS "filerights.errors" 194 }, { hash := kH P (sO "__qualname__"), key := vS "__qualname__" 423, val := vS "InvalidPeople" 422 }, { hash := kH P (sO "__firstlineno__"), key := vS "__firstlineno__" 425, val := vI 41 424 }, { hash := kH P (sO "__init__"), key := vS "__init__" 434, val := vR 202 }, { hash := kH P (sO "__static_attributes__"), key := vS "__static_attributes__" 436, val := vR 203 }, { hash := kH P (sO "__classcell__"), key := vS "__classcell__" 437, val := vR 190 }] 6 }
def o_214 (P : Params) : Obj := { cls := vT "cell", data := Data.cell (some (vR 205)) }
def o_215 (P : Params) : Obj := { cls := vT "tuple", data := Data.seq #[] }
def o_216 (P : Params) : Obj := { cls := vN, data := dF #[vI 43 0, vI 4 0, vR 201] }
def o_217 (P : Params) : Obj := { cls := vT "code", data := dF #[vS "InvalidPeople" 416, vS "InvalidPeople" 417, vS "/claim/cut.py" 418, vI 41 0, vI 0 0, vI 0 0, vI 0 0, vI 0 0, vR 191, Value.bool false, vI 181 0, vR 192, vN, vN, vN, vN, vI 419 0, vI 41 0, vS "/claim/cut.py" 420] }
def o_218 (P : Params) : Obj := { cls := vT "frame", slots := #[some (vR 193), some (vR 3), some (vR 189), none, some (vS "filerights.errors" 194), none, some (vR 0)] }
def o_219 (P : Params) : Obj := { cls := vT "tuple", data := Data.seq #[vR 190] }
def o_220 (P : Params) : Obj := { cls := vT "tuple", data := Data.seq #[vS "__class__" 429] }
def o_221 (P : Params) : Obj := { cls := vN, data := dF #[] }
def o_222 (P : Params) : Obj := { cls := vT "tuple", data := Data.seq #[vS "self" 430, vS "value" 431] }
def o_223 (P : Params) : Obj := { cls := vT "tuple", data := Data.seq #[] }
def o_224 (P : Params) : Obj := { cls := vN, data := Data.func { name := sO "__init__", qualname := sO "InvalidPeople.__init__", params := dA (inC (topS 11) 0), body := FuncBody.stmts (dB (inC (topS 11) 0)), scope := dS (inC (topS 11) 0), globals := 0, closure := [], defaults := vN, kwdefaults := vN } }
def o_225 (P : Params) : Obj := { cls := vT "code", data := dF #[vS "__init__" 426, vS "InvalidPeople.__init__" 427, vS "/claim/cut.py" 428, vI 43 0, vI 2 0, vI 0 0, vI 0 0, vI 3 0, vR 196, Value.bool true, vI 181 0, vR 197, vN, vR 198, vR 199, vR 200, vI 432 0, vI 43 0, vS "/claim/cut.py" 433] }
def o_226 (P : Params) : Obj := { cls := vT "function", data := Data.func { name := sO "__init__", qualname := sO "InvalidPeople.__init__", params := dA (inC (topS 11) 0), body := FuncBody.stmts (dB (inC (topS 11) 0)), scope := dS (inC (topS 11) 0), globals := 3, closure := [(sO "__class__", 190)], defaults := vN, kwdefaults := vN, pyModule := vS "filerights.errors" 194, code := vR 201, closureTuple := vR 195 } }
def o_227 (P : Params) : Obj := { cls := vT "tuple", data := Data.seq #[vS "value" 435] }
def o_228 (P : Params) : Obj := { cls := vT "dict", data := Data.dict #[{ hash := kH P (sO "__module__"), key := vS "__module__" 421, val := vS "filerights.errors" 194 }, { hash := kH P (sO "__firstlineno__"), key := vS "__firstlineno__" 425, val := vI 41 424 }, { hash := kH P (sO "__init__"), key := vS "__init__" 434, val := vR 202 }, { hash := kH P (sO "__static_attributes__"), key := vS "__static_attributes__" 436, val := vR 203 }, { hash := kH P (sO "__doc__"), key := vS "__doc__" 438, val := vN }] 3 }
def o_229 (P : Params) : Obj := { cls := vT "type", data := Data.cls { name := sO "InvalidPeople", bases := [vR 31], mro := [vR 205, vR 31, vT "ValueError", vT "Exception", vT "BaseException", vT "object"], ns := 204, qualname := sO "InvalidPeople" }, slots := #[some (vR 187), none, some (vS "InvalidPeople" 414), some (vS "InvalidPeople" 422), some (vB "ValueError.__new__"), some (Value.bool true)] }
def o_230 (P : Params) : Obj := { cls := vT "super", data := dF #[vR 205, vR 205, vR 205] }
def o_231 (P : Params) : Obj := { cls := vT "builtin_function_or_method", data := dF #[vB "object.__init_subclass__", vR 205] }
def o_236 (P : Params) : Obj := { cls := vT "tuple", data := Data.seq #[vR 31] }
def o_237 (P : Params) : Obj := { cls := vT "builtin_function_or_method", data := dF #[vB "type.__prepare__", vT "type"] }
def o_238 (P : Params) : Obj := { cls := vT "dict", data := Data.dict #[{ hash := kH P (sO "__module__"), key := vS "__module__" 448, val := vS "filerights.errors" 194 }, { hash := kH P (sO "__qualname__"), key := vS "__qualname__" 450, val := vS "InvalidNode" 449 }, { hash := kH P (sO "__firstlineno__"), key := vS "__firstlineno__" 452, val := vI 46 451 }, { hash := kH P (sO "__init__"), key := vS "__init__" 461, val := vR 223 }, { hash := kH P (sO "__static_attributes__"), key := vS "__static_attributes__" 463, val := vR 224 }, { hash := kH P (sO "__classcell__"), key := vS "__classcell__" 464, val := vR 211 }] 6 }
def o_239 (P : Params) : Obj := { cls := vT "cell", data := Data.cell (some (vR 226)) }
def o_240 (P : Params) : Obj := { cls := vT "tuple", data := Data.seq #[] }
def o_241 (P : Params) : Obj := { cls := vN, data := dF #[vI 48 0, vI 4 0, vR 222] }
def o_242 (P : Params) : Obj := { cls := vT "code", data := dF #[vS "InvalidNode" 443, vS "InvalidNode" 444, vS "/claim/cut.py" 445, vI 46 0, vI 0 0, vI 0 0, vI 0 0, vI 0 0, vR 212, Value.bool false, vI 181 0, vR 213, vN, vN, vN, vN, vI 446 0, vI 46 0, vS "/claim/cut.py" 447] }
def o_243 (P : Params) : Obj := { cls := vT "frame", slots := #[some (vR 214), some (vR 3), some (vR 210), none, some (vS "filerights.errors" 194), none, some (vR 0)] }
def o_244 (P : Params) : Obj := { cls := vT "tuple", data := Data.seq #[vR 211] }
def o_245 (P : Params) : Obj := { cls := vT "tuple", data := Data.seq #[vS "__class__" 456] }
def o_246 (P : Params) : Obj := { cls := vN, data := dF #[] }
def o_247 (P : Params) : Obj := { cls := vT "tuple", data := Data.seq #[vS "self" 457, vS "value" 458] }
def o_248 (P : Params) : Obj := { cls := vT "tuple", data := Data.seq #[] }
def o_249 (P : Params) : Obj := { cls := vN, data := Data.func { name := sO "__init__", qualname := sO "InvalidNode.__init__", params := dA (inC (topS 12) 0), body := FuncBody.stmts (dB (inC (topS 12) 0)), scope := dS (inC (topS 12) 0), globals := 0, closure := [], defaults := vN, kwdefaults := vN } }
def o_250 (P : Params) : Obj := { cls := vT "code", data := dF #[vS "__init__" 453, vS "InvalidNode.__init__" 454, vS "/claim/cut.py" 455, vI 48 0, vI 2 0, vI 0 0, vI 0 0, vI 3 0, vR 217, Value.bool true, vI 181 0, vR 218, vN, vR 219, vR 220, vR 221, vI 459 0, vI 48 0, vS "/claim/cut.py" 460] }
def o_251 (P : Params) : Obj := { cls := vT "function", data := Data.func { name := sO "__init__", qualname := sO "InvalidNode.__init__", params := dA (inC (topS 12) 0), body := FuncBody.stmts (dB (inC (topS 12) 0)), scope := dS (inC (topS 12) 0), globals := 3, closure := [(sO "__class__", 211)], defaults := vN, kwdefaults := vN, pyModule := vS "filerights.errors" 194, code := vR 222, closureTuple := vR 216 } }
def o_252 (P : Params) : Obj := { cls := vT "tuple", data := Data.seq #[vS "value" 462] }
def o_253 (P : Params) : Obj := { cls := vT "dict", data := Data.dict #[{ hash := kH P (sO "__module__"), key := vS "__module__" 448, val := vS "filerights.errors" 194 }, { hash := kH P (sO "__firstlineno__"), key := vS "__firstlineno__" 452, val := vI 46 451 }, { hash := kH P (sO "__init__"), key := vS "__init__" 461, val := vR 223 }, { hash := kH P (sO "__static_attributes__"), key := vS "__static_attributes__" 463, val := vR 224 }, { hash := kH P (sO "__doc__"), key := vS "__doc__" 465, val := vN }] 3 }
def o_254 (P : Params) : Obj := { cls := vT "type", data := Data.cls { name := sO "InvalidNode", bases := [vR 31], mro := [vR 226, vR 31, vT "ValueError", vT "Exception", vT "BaseException", vT "object"], ns := 225, qualname := sO "InvalidNode" }, slots := #[some (vR 208), none, some (vS "InvalidNode" 441), some (vS "InvalidNode" 449), some (vB "ValueError.__new__"), some (Value.bool true)] }
def o_255 (P : Params) : Obj := { cls := vT "super", data := dF #[vR 226, vR 226, vR 226] }
def o_256 (P : Params) : Obj := { cls := vT "builtin_function_or_method", data := dF #[vB "object.__init_subclass__", vR 226] }
def o_261 (P : Params) : Obj := { cls := vT "tuple", data := Data.seq #[vR 31] }
def o_262 (P : Params) : Obj := { cls := vT "builtin_function_or_method", data := dF #[vB "type.__prepare__", vT "type"] }
def o_263 (P : Params) : Obj := { cls := vT "dict", data := Data.dict #[{ hash := kH P (sO "__module__"), key := vS "__module__" 475, val := vS "filerights.errors" 194 }, { hash := kH P (sO "__qualname__"), key := vS "__qualname__" 477, val := vS "InvalidHouse" 476 }, { hash := kH P (sO "__firstlineno__"), key := vS "__firstlineno__" 479, val := vI 51 478 }, { hash := kH P (sO "__init__"), key := vS "__init__" 488, val := vR 244 }, { hash := kH P (sO "__static_attributes__"), key := vS "__static_attributes__" 490, val := vR 245 }, { hash := kH P (sO "__classcell__"), key := vS "__classcell__" 491, val := vR 232 }] 6 }
def o_264 (P : Params) : Obj := { cls := vT "cell", data := Data.cell (some (vR 247)) }
def o_265 (P : Params) : Obj := { cls := vT "tuple", data := Data.seq #[] }
def o_266 (P : Params) : Obj := { cls := vN, data := dF #[vI 53 0, vI 4 0, vR 243] }
def o_267 (P : Params) : Obj := { cls := vT "code", data := dF #[vS "InvalidHouse" 470, vS "InvalidHouse" 471, vS "/claim/cut.py" 472, vI 51 0, vI 0 0, vI 0 0, vI 0 0, vI 0 0, vR 233, Value.bool false, vI 181 0, vR 234, vN, vN, vN, vN, vI 473 0, vI 51 0, vS "/claim/cut.py" 474] }
def o_268 (P : Params) : Obj := { cls := vT "frame", slots := #[some (vR 235), some (vR 3), some (vR 231), none, some (vS "filerights.errors" 194), none, some (vR 0)] }
def o_269 (P : Params) : Obj := { cls := vT "tuple", data := Data.seq #[vR 232] }
def o_270 (P : Params) : Obj := { cls := vT "tuple", data := Data.seq #[vS "__class__" 483] }
def o_271 (P : Params) : Obj := { cls := vN, data := dF #[] }
def o_272 (P : Params) : Obj := { cls := vT "tuple", data := Data.seq #[vS "self" 484, vS "value" 485] }
def o_273 (P : Params) : Obj := { cls := vT "tuple", data := Data.seq #[] }
def o_274 (P : Params) : Obj := { cls := vN, data := Data.func { name := sO "__init__", qualname := sO "InvalidHouse.__init__", params := dA (inC (topS 13) 0), body := FuncBody.stmts (dB (inC (topS 13) 0)), scope := dS (inC (topS 13) 0), globals := 0, closure := [], defaults := vN, kwdefaults := vN } }
def o_275 (P : Params) : Obj := { cls := vT "code", data := dF #[vS "__init__" 480, vS "InvalidHouse.__init__" 481, vS "/claim/cut.py" 482, vI 53 0, vI 2 0, vI 0 0, vI 0 0, vI 3 0, vR 238, Value.bool true, vI 181 0, vR 239, vN, vR 240, vR 241, vR 242, vI 486 0, vI 53 0, vS "/claim/cut.py" 487] }
def o_276 (P : Params) : Obj := { cls := vT "function", data := Data.func { name := sO "__init__", qualname := sO "InvalidHouse.__init__", params := dA (inC (topS 13) 0), body := FuncBody.stmts (dB (inC (topS 13) 0)), scope := dS (inC (topS 13) 0), globals := 3, closure := [(sO "__class__", 232)], defaults := vN, kwdefaults := vN, pyModule := vS "filerights.errors" 194, code := vR 243, closureTuple := vR 237 } }
def o_277 (P : Params) : Obj := { cls := vT "tuple", data := Data.seq #[vS "value" 489] }
def o_278 (P : Params) : Obj := { cls := vT "dict", data := Data.dict #[{ hash := kH P (sO "__module__"), key := vS "__module__" 475, val := vS "filerights.errors" 194 }, { hash := kH P (sO "__firstlineno__"), key := vS "__firstlineno__" 479, val := vI 51 478 }, { hash := kH P (sO "__init__"), key := vS "__init__" 488, val := vR 244 }, { hash := kH P (sO "__static_attributes__"), key := vS "__static_attributes__" 490, val := vR 245 }, { hash := kH P (sO "__doc__"), key := vS "__doc__" 492, val := vN }] 3 }
def o_279 (P : Params) : Obj := { cls := vT "type", data := Data.cls { name := sO "InvalidHouse", bases := [vR 31], mro := [vR 247, vR 31, vT "ValueError", vT "Exception", vT "BaseException", vT "object"], ns := 246, qualname := sO "InvalidHouse" }, slots := #[some (vR 229), none, some (vS "InvalidHouse" 468), some (vS "InvalidHouse" 476), some (vB "ValueError.__new__"), some (Value.bool true)] }
def o_280 (P : Params) : Obj := { cls := vT "super", data := dF #[vR 247, vR 247, vR 247] }
def o_281 (P : Params) : Obj := { cls := vT "builtin_function_or_method", data := dF #[vB "object.__init_subclass__", vR 247] }
def o_286 (P : Params) : Obj := { cls := vT "tuple", data := Data.seq #[vR 31] }
def o_287 (P : Params) : Obj := { cls := vT "builtin_function_or_method", data := dF #[vB "type.__prepare__", vT "type"] }
def o_288 (P : Params) : Obj := { cls := vT "dict", data := Data.dict #[{ hash := kH P (sO "__module__"), key := vS "__module__" 502, val := vS "filerights.errors" 194 }, { hash := kH P (sO "__qualname__"), key := vS "__qualname__" 504, val := vS "InvalidContent" 503 }, { hash := kH P (sO "__firstlineno__"), key := vS "__firstlineno__" 506, val := vI 56 505 }, { hash := kH P (sO "__init__"), key := vS "__init__" 515, val := vR 265 }, { hash := kH P (sO "__static_attributes__"), key := vS "__static_attributes__" 517, val := vR 266 }, { hash := kH P (sO "__classcell__"), key := vS "__classcell__" 518, val := vR 253 }] 6 }
def o_289 (P : Params) : Obj := { cls := vT "cell", data := Data.cell (some (vR 268)) }
def o_290 (P : Params) : Obj := { cls := vT "tuple", data := Data.seq #[] }
def o_291 (P : Params) : Obj := { cls := vN, data := dF #[vI 58 0, vI 4 0, vR 264] }
def o_292 (P : Params) : Obj := { cls := vT "code", data := dF #[vS "InvalidContent" 497, vS "InvalidContent" 498, vS "/claim/cut.py" 499, vI 56 0, vI 0 0, vI 0 0, vI 0 0, vI 0 0, vR 254, Value.bool false, vI 181 0, vR 255, vN, vN, vN, vN, vI 500 0, vI 56 0, vS "/claim/cut.py" 501] }
def o_293 (P : Params) : Obj := { cls := vT "frame", slots := #[some (vR 256), some (vR 3), some (vR 252), none, some (vS "filerights.errors" 194), none, some (vR 0)] }
def o_294 (P : Params) : Obj := { cls := vT "tuple", data := Data.seq #[vR 253] }
def o_295 (P : Params) : Obj := { cls := vT "tuple", data := Data.seq #[vS "__class__" 510] }
def o_296 (P : Params) : Obj := { cls := vN, data := dF #[] }
def o_297 (P : Params) : Obj := { cls := vT "tuple", data := Data.seq #[vS "self" 511, vS "value" 512] }
def o_298 (P : Params) : Obj := { cls := vT "tuple", data := Data.seq #[] }
def o_299 (P : Params) : Obj := { cls := vN, data := Data.func { name := sO "__init__", qualname := sO "InvalidContent.__init__", params := dA (inC (topS 14) 0), body := FuncBody.stmts (dB (inC (topS 14) 0)), scope := dS (inC (topS 14) 0), globals := 0, closure := [], defaults := vN, kwdefaults := vN } }
def o_300 (P : Params) : Obj := { cls := vT "code", data := dF #[vS "__init__" 507, vS "InvalidContent.__init__" 508, vS "/claim/cut.py" 509, vI 58 0, vI 2 0, vI 0 0, vI 0 0, vI 3 0, vR 259, Value.bool true, vI 181 0, vR 260, vN, vR 261, vR 262, vR 263, vI 513 0, vI 58 0, vS "/claim/cut.py" 514] }
def o_301 (P : Params) : Obj := { cls := vT "function", data := Data.func { name := sO "__init__", qualname := sO "InvalidContent.__init__", params := dA (inC (topS 14) 0), body := FuncBody.stmts (dB (inC (topS 14) 0)), scope := dS (inC (topS 14) 0), globals := 3, closure := [(sO "__class__", 253)], defaults := vN, kwdefaults := vN, pyModule := vS "filerights.errors" 194, code := vR 264, closureTuple := vR 258 } }
def o_302 (P : Params) : Obj := { cls := vT "tuple", data := Data.seq #[vS "value" 516] }
def o_303 (P : Params) : Obj := { cls := vT "dict", data := Data.dict #[{ hash := kH P (sO "__module__"), key := vS "__module__" 502, val := vS "filerights.errors" 194 }, { hash := kH P (sO "__firstlineno__"), key := vS "__firstlineno__" 506, val := vI 56 505 }, { hash := kH P (sO "__init__"), key := vS "__init__" 515, val := vR 265 }, { hash := kH P (sO "__static_attributes__"), key := vS "__static_attributes__" 517, val := vR 266 }, { hash := kH P (sO "__doc__"), key := vS "__doc__" 519, val := vN }] 3 }
def o_304 (P : Params) : Obj := { cls := vT "type", data := Data.cls { name := sO "InvalidContent", bases := [vR 31], mro := [vR 268, vR 31, vT "ValueError", vT "Exception", vT "BaseException", vT "object"], ns := 267, qualname := sO "InvalidContent" }, slots := #[some (vR 250), none, some (vS "InvalidContent" 495), some (vS "InvalidContent" 503), some (vB "ValueError.__new__"), some (Value.bool true)] }
def o_305 (P : Params) : Obj := { cls := vT "super", data := dF #[vR 268, vR 268, vR 268] }
def o_306 (P : Params) : Obj := { cls := vT "builtin_function_or_method", data := dF #[vB "object.__init_subclass__", vR 268] }
def o_311 (P : Params) : Obj := { cls := vT "tuple", data := Data.seq #[vR 31] }
def o_312 (P : Params) : Obj := { cls := vT "builtin_function_or_method", data := dF #[vB "type.__prepare__", vT "type"] }
def o_313 (P : Params) : Obj := { cls := vT "dict", data := Data.dict #[{ hash := kH P (sO "__module__"), key := vS "__module__" 529, val := vS "filerights.errors" 194 }, { hash := kH P (sO "__qualname__"), key := vS "__qualname__" 531, val := vS "InvalidDeed" 530 }, { hash := kH P (sO "__firstlineno__"), key := vS "__firstlineno__" 533, val := vI 61 532 }, { hash := kH P (sO "__init__"), key := vS "__init__" 542, val := vR 286 }, { hash := kH P (sO "__static_attributes__"), key := vS "__static_attributes__" 544, val := vR 287 }, { hash := kH P (sO "__classcell__"), key := vS "__classcell__" 545, val := vR 274 }] 6 }
def o_314 (P : Params) : Obj := { cls := vT "cell", data := Data.cell (some (vR 289)) }
def o_315 (P : Params) : Obj := { cls := vT "tuple", data := Data.seq #[] }
def o_316 (P : Params) : Obj := { cls := vN, data := dF #[vI 63 0, vI 4 0, vR 285] }
def o_317 (P : Params) : Obj := { cls := vT "code", data := dF #[vS "InvalidDeed" 524, vS "InvalidDeed" 525, vS "/claim/cut.py" 526, vI 61 0, vI 0 0, vI 0 0, vI 0 0, vI 0 0, vR 275, Value.bool false, vI 181 0, vR 276, vN, vN, vN, vN, vI 527 0, vI 61 0, vS "/claim/cut.py" 528] }
def o_318 (P : Params) : Obj := { cls := vT "frame", slots := #[some (vR 277), some (vR 3), some (vR 273), none, some (vS "filerights.errors" 194), none, some (vR 0)] }
def o_319 (P : Params) : Obj := { cls := vT "tuple", data := Data.seq #[vR 274] }
def o_320 (P : Params) : Obj := { cls := vT "tuple", data := Data.seq #[vS "__class__" 537] }
def o_321 (P : Params) : Obj := { cls := vN, data := dF #[] }
def o_322 (P : Params) : Obj := { cls := vT "tuple", data := Data.seq #[vS "self" 538, vS "value" 539] }
def o_323 (P : Params) : Obj := { cls := vT "tuple", data := Data.seq #[] }
def o_324 (P : Params) : Obj := { cls := vN, data := Data.func { name := sO "__init__", qualname := sO "InvalidDeed.__init__", params := dA (inC (topS 15) 0), body := FuncBody.stmts (dB (inC (topS 15) 0)), scope := dS (inC (topS 15) 0), globals := 0, closure := [], defaults := vN, kwdefaults := vN } }
def o_325 (P : Params) : Obj := { cls := vT "code", data := dF #[vS "__init__" 534, vS "InvalidDeed.__init__" 535, vS "/claim/cut.py" 536, vI 63 0, vI 2 0, vI 0 0, vI 0 0, vI 3 0, vR 280, Value.bool true, vI 181 0, vR 281, vN, vR 282, vR 283, vR 284, vI 540 0, vI 63 0, vS "/claim/cut.py" 541] }
def o_326 (P : Params) : Obj := { cls := vT "function", data := Data.func { name := sO "__init__", qualname := sO "InvalidDeed.__init__", params := dA (inC (topS 15) 0), body := FuncBody.stmts (dB (inC (topS 15) 0)), scope := dS (inC (topS 15) 0), globals := 3, closure := [(sO "__class__", 274)], defaults := vN, kwdefaults := vN, pyModule := vS "filerights.errors" 194, code := vR 285, closureTuple := vR 279 } }
def o_327 (P : Params) : Obj := { cls := vT "tuple", data := Data.seq #[vS "value" 543] }
def o_328 (P : Params) : Obj := { cls := vT "dict", data := Data.dict #[{ hash := kH P (sO "__module__"), key := vS "__module__" 529, val := vS "filerights.errors" 194 }, { hash := kH P (sO "__firstlineno__"), key := vS "__firstlineno__" 533, val := vI 61 532 }, { hash := kH P (sO "__init__"), key := vS "__init__" 542, val := vR 286 }, { hash := kH P (sO "__static_attributes__"), key := vS "__static_attributes__" 544, val := vR 287 }, { hash := kH P (sO "__doc__"), key := vS "__doc__" 546, val := vN }] 3 }
def o_329 (P : Params) : Obj := { cls := vT "type", data := Data.cls { name := sO "InvalidDeed", bases := [vR 31], mro := [vR 289, vR 31, vT "ValueError", vT "Exception", vT "BaseException", vT "object"], ns := 288, qualname := sO "InvalidDeed" }, slots := #[some (vR 271), none, some (vS "InvalidDeed" 522), some (vS "InvalidDeed" 530), some (vB "ValueError.__new__"), some (Value.bool true)] }
def o_330 (P : Params) : Obj := { cls := vT "super", data := dF #[vR 289, vR 289, vR 289] }
def o_331 (P : Params) : Obj := { cls := vT "builtin_function_or_method", data := dF #[vB "object.__init_subclass__", vR 289] }
def o_336 (P : Params) : Obj := { cls := vT "tuple", data := Data.seq #[vR 31] }
def o_337 (P : Params) : Obj := { cls := vT "builtin_function_or_method", data := dF #[vB "type.__prepare__", vT "type"] }
def o_338 (P : Params) : Obj := { cls := vT "dict", data := Data.dict #[{ hash := kH P (sO "__module__"), key := vS "__module__" 556, val := vS "filerights.errors" 194 }, { hash := kH P (sO "__qualname__"), key := vS "__qualname__" 558, val := vS "TooMany" 557 }, { hash := kH P (sO "__firstlineno__"), key := vS "__firstlineno__" 560, val := vI 66 559 }, { hash := kH P (sO "__init__"), key := vS "__init__" 569, val := vR 307 }, { hash := kH P (sO "__static_attributes__"), key := vS "__static_attributes__" 571, val := vR 308 }, { hash := kH P (sO "__classcell__"), key := vS "__classcell__" 572, val := vR 295 }] 6 }
def o_339 (P : Params) : Obj := { cls := vT "cell", data := Data.cell (some (vR 310)) }
def o_340 (P : Params) : Obj := { cls := vT "tuple", data := Data.seq #[] }
def o_341 (P : Params) : Obj := { cls := vN, data := dF #[vI 68 0, vI 4 0, vR 306] }
def o_342 (P : Params) : Obj := { cls := vT "code", data := dF #[vS "TooMany" 551, vS "TooMany" 552, vS "/claim/cut.py" 553, vI 66 0, vI 0 0, vI 0 0, vI 0 0, vI 0 0, vR 296, Value.bool false, vI 181 0, vR 297, vN, vN, vN, vN, vI 554 0, vI 66 0, vS "/claim/cut.py" 555] }
def o_343 (P : Params) : Obj := { cls := vT "frame", slots := #[some (vR 298), some (vR 3), some (vR 294), none, some (vS "filerights.errors" 194), none, some (vR 0)] }
def o_344 (P : Params) : Obj := { cls := vT "tuple", data := Data.seq #[vR 295] }
def o_345 (P : Params) : Obj := { cls := vT "tuple", data := Data.seq #[vS "__class__" 564] }
def o_346 (P : Params) : Obj := { cls := vN, data := dF #[] }
def o_347 (P : Params) : Obj := { cls := vT "tuple", data := Data.seq #[vS "self" 565, vS "count" 566] }
def o_348 (P : Params) : Obj := { cls := vT "tuple", data := Data.seq #[] }
def o_349 (P : Params) : Obj := { cls := vN, data := Data.func { name := sO "__init__", qualname := sO "TooMany.__init__", params := dA (inC (topS 16) 0), body := FuncBody.stmts (dB (inC (topS 16) 0)), scope := dS (inC (topS 16) 0), globals := 0, closure := [], defaults := vN, kwdefaults := vN } }
def o_350 (P : Params) : Obj := { cls := vT "code", data := dF #[vS "__init__" 561, vS "TooMany.__init__" 562, vS "/claim/cut.py" 563, vI 68 0, vI 2 0, vI 0 0, vI 0 0, vI 3 0, vR 301, Value.bool true, vI 181 0, vR 302, vN, vR 303, vR 304, vR 305, vI 567 0, vI 68 0, vS "/claim/cut.py" 568] }
def o_351 (P : Params) : Obj := { cls := vT "function", data := Data.func { name := sO "__init__", qualname := sO "TooMany.__init__", params := dA (inC (topS 16) 0), body := FuncBody.stmts (dB (inC (topS 16) 0)), scope := dS (inC (topS 16) 0), globals := 3, closure := [(sO "__class__", 295)], defaults := vN, kwdefaults := vN, pyModule := vS "filerights.errors" 194, code := vR 306, closureTuple := vR 300 } }
def o_352 (P : Params) : Obj := { cls := vT "tuple", data := Data.seq #[vS "count" 570] }
def o_353 (P : Params) : Obj := { cls := vT "dict", data := Data.dict #[{ hash := kH P (sO "__module__"), key := vS "__module__" 556, val := vS "filerights.errors" 194 }, { hash := kH P (sO "__firstlineno__"), key := vS "__firstlineno__" 560, val := vI 66 559 }, { hash := kH P (sO "__init__"), key := vS "__init__" 569, val := vR 307 }, { hash := kH P (sO "__static_attributes__"), key := vS "__static_attributes__" 571, val := vR 308 }, { hash := kH P (sO "__doc__"), key := vS "__doc__" 573, val := vN }] 3 }
def o_354 (P : Params) : Obj := { cls := vT "type", data := Data.cls { name := sO "TooMany", bases := [vR 31], mro := [vR 310, vR 31, vT "ValueError", vT "Exception", vT "BaseException", vT "object"], ns := 309, qualname := sO "TooMany" }, slots := #[some (vR 292), none, some (vS "TooMany" 549), some (vS "TooMany" 557), some (vB "ValueError.__new__"), some (Value.bool true)] }
def o_355 (P : Params) : Obj := { cls := vT "super", data := dF #[vR 310, vR 310, vR 310] }
def o_356 (P : Params) : Obj := { cls := vT "builtin_function_or_method", data := dF #[vB "object.__init_subclass__", vR 310] }
def o_360 (P : Params) : Obj := { cls := vT "type", data := Data.cls { name := sO "RightsError", bases := [vT "ValueError"], mro := [vR 31, vT "ValueError", vT "Exception", vT "BaseException", vT "object"], ns := 30, qualname := sO "RightsError", subclasses := [vR 79, vR 100, vR 121, vR 142, vR 163, vR 184, vR 205, vR 226, vR 247, vR 268, vR 289, vR 310, vR 331] }, slots := #[some (vR 22), none, some (vS "RightsError" 196), some (vS "RightsError" 204), some (vB "ValueError.__new__"), some (Value.bool true)] }
def o_361 (P : Params) : Obj := { cls := vT "tuple", data := Data.seq #[vR 31] }
def o_362 (P : Params) : Obj := { cls := vT "builtin_function_or_method", data := dF #[vB "type.__prepare__", vT "type"] }
def o_363 (P : Params) : Obj := { cls := vT "dict", data := Data.dict #[{ hash := kH P (sO "__module__"), key := vS "__module__" 583, val := vS "filerights.errors" 194 }, { hash := kH P (sO "__qualname__"), key := vS "__qualname__" 585, val := vS "Ground" 584 }, { hash := kH P (sO "__firstlineno__"), key := vS "__firstlineno__" 587, val := vI 71 586 }, { hash := kH P (sO "__init__"), key := vS "__init__" 596, val := vR 328 }, { hash := kH P (sO "__static_attributes__"), key := vS "__static_attributes__" 598, val := vR 329 }, { hash := kH P (sO "__classcell__"), key := vS "__classcell__" 599, val := vR 316 }] 6 }
def o_364 (P : Params) : Obj := { cls := vT "cell", data := Data.cell (some (vR 331)) }
def o_365 (P : Params) : Obj := { cls := vT "tuple", data := Data.seq #[] }
def o_366 (P : Params) : Obj := { cls := vN, data := dF #[vI 73 0, vI 4 0, vR 327] }
def o_367 (P : Params) : Obj := { cls := vT "code", data := dF #[vS "Ground" 578, vS "Ground" 579, vS "/claim/cut.py" 580, vI 71 0, vI 0 0, vI 0 0, vI 0 0, vI 0 0, vR 317, Value.bool false, vI 181 0, vR 318, vN, vN, vN, vN, vI 581 0, vI 71 0, vS "/claim/cut.py" 582] }
def o_368 (P : Params) : Obj := { cls := vT "frame", slots := #[some (vR 319), some (vR 3), some (vR 315), none, some (vS "filerights.errors" 194), none, some (vR 0)] }
def o_369 (P : Params) : Obj := { cls := vT "tuple", data := Data.seq #[vR 316] }
def o_370 (P : Params) : Obj := { cls := vT "tuple", data := Data.seq #[vS "__class__" 591] }
def o_371 (P : Params) : Obj := { cls := vN, data := dF #[] }
def o_372 (P : Params) : Obj := { cls := vT "tuple", data := Data.seq #[vS "self" 592, vS "path" 593] }
def o_373 (P : Params) : Obj := { cls := vT "tuple", data := Data.seq #[] }
def o_374 (P : Params) : Obj := { cls := vN, data := Data.func { name := sO "__init__", qualname := sO "Ground.__init__", params := dA (inC (topS 17) 0), body := FuncBody.stmts (dB (inC (topS 17) 0)), scope := dS (inC (topS 17) 0), globals := 0, closure := [], defaults := vN, kwdefaults := vN } }
def o_375 (P : Params) : Obj := { cls := vT "code", data := dF #[vS "__init__" 588, vS "Ground.__init__" 589, vS "/claim/cut.py" 590, vI 73 0, vI 2 0, vI 0 0, vI 0 0, vI 3 0, vR 322, Value.bool true, vI 181 0, vR 323, vN, vR 324, vR 325, vR 326, vI 594 0, vI 73 0, vS "/claim/cut.py" 595] }
def o_376 (P : Params) : Obj := { cls := vT "function", data := Data.func { name := sO "__init__", qualname := sO "Ground.__init__", params := dA (inC (topS 17) 0), body := FuncBody.stmts (dB (inC (topS 17) 0)), scope := dS (inC (topS 17) 0), globals := 3, closure := [(sO "__class__", 316)], defaults := vN, kwdefaults := vN, pyModule := vS "filerights.errors" 194, code := vR 327, closureTuple := vR 321 } }
def o_377 (P : Params) : Obj := { cls := vT "tuple", data := Data.seq #[vS "path" 597] }
def o_378 (P : Params) : Obj := { cls := vT "dict", data := Data.dict #[{ hash := kH P (sO "__module__"), key := vS "__module__" 583, val := vS "filerights.errors" 194 }, { hash := kH P (sO "__firstlineno__"), key := vS "__firstlineno__" 587, val := vI 71 586 }, { hash := kH P (sO "__init__"), key := vS "__init__" 596, val := vR 328 }, { hash := kH P (sO "__static_attributes__"), key := vS "__static_attributes__" 598, val := vR 329 }, { hash := kH P (sO "__doc__"), key := vS "__doc__" 600, val := vN }] 3 }
def o_379 (P : Params) : Obj := { cls := vT "type", data := Data.cls { name := sO "Ground", bases := [vR 31], mro := [vR 331, vR 31, vT "ValueError", vT "Exception", vT "BaseException", vT "object"], ns := 330, qualname := sO "Ground" }, slots := #[some (vR 313), none, some (vS "Ground" 576), some (vS "Ground" 584), some (vB "ValueError.__new__"), some (Value.bool true)] }
def o_380 (P : Params) : Obj := { cls := vT "super", data := dF #[vR 331, vR 331, vR 331] }
def o_381 (P : Params) : Obj := { cls := vT "builtin_function_or_method", data := dF #[vB "object.__init_subclass__", vR 331] }
def o_386 (P : Params) : Obj := { cls := vT "tuple", data := Data.seq #[vR 44] }
def o_387 (P : Params) : Obj := { cls := vT "builtin_function_or_method", data := dF #[vB "type.__prepare__", vT "type"] }
def o_388 (P : Params) : Obj := { cls := vT "dict", data := Data.dict #[{ hash := kH P (sO "__module__"), key := vS "__module__" 610, val := vS "filerights.errors" 194 }, { hash := kH P (sO "__qualname__"), key := vS "__qualname__" 612, val := vS "UnknownUser" 611 }, { hash := kH P (sO "__firstlineno__"), key := vS "__firstlineno__" 614, val := vI 76 613 }, { hash := kH P (sO "__init__"), key := vS "__init__" 623, val := vR 349 }, { hash := kH P (sO "__static_attributes__"), key := vS "__static_attributes__" 625, val := vR 350 }, { hash := kH P (sO "__classcell__"), key := vS "__classcell__" 626, val := vR 337 }] 6 }
def o_389 (P : Params) : Obj := { cls := vT "cell", data := Data.cell (some (vR 352)) }
def o_390 (P : Params) : Obj := { cls := vT "tuple", data := Data.seq #[] }
def o_391 (P : Params) : Obj := { cls := vN, data := dF #[vI 78 0, vI 4 0, vR 348] }
def o_392 (P : Params) : Obj := { cls := vT "code", data := dF #[vS "UnknownUser" 605, vS "UnknownUser" 606, vS "/claim/cut.py" 607, vI 76 0, vI 0 0, vI 0 0, vI 0 0, vI 0 0, vR 338, Value.bool false, vI 181 0, vR 339, vN, vN, vN, vN, vI 608 0, vI 76 0, vS "/claim/cut.py" 609] }
def o_393 (P : Params) : Obj := { cls := vT "frame", slots := #[some (vR 340), some (vR 3), some (vR 336), none, some (vS "filerights.errors" 194), none, some (vR 0)] }
def o_394 (P : Params) : Obj := { cls := vT "tuple", data := Data.seq #[vR 337] }
def o_395 (P : Params) : Obj := { cls := vT "tuple", data := Data.seq #[vS "__class__" 618] }
def o_396 (P : Params) : Obj := { cls := vN, data := dF #[] }
def o_397 (P : Params) : Obj := { cls := vT "tuple", data := Data.seq #[vS "self" 619, vS "name" 620] }
def o_398 (P : Params) : Obj := { cls := vT "tuple", data := Data.seq #[] }
def o_399 (P : Params) : Obj := { cls := vN, data := Data.func { name := sO "__init__", qualname := sO "UnknownUser.__init__", params := dA (inC (topS 18) 0), body := FuncBody.stmts (dB (inC (topS 18) 0)), scope := dS (inC (topS 18) 0), globals := 0, closure := [], defaults := vN, kwdefaults := vN } }
def o_400 (P : Params) : Obj := { cls := vT "code", data := dF #[vS "__init__" 615, vS "UnknownUser.__init__" 616, vS "/claim/cut.py" 617, vI 78 0, vI 2 0, vI 0 0, vI 0 0, vI 3 0, vR 343, Value.bool true, vI 181 0, vR 344, vN, vR 345, vR 346, vR 347, vI 621 0, vI 78 0, vS "/claim/cut.py" 622] }
def o_401 (P : Params) : Obj := { cls := vT "function", data := Data.func { name := sO "__init__", qualname := sO "UnknownUser.__init__", params := dA (inC (topS 18) 0), body := FuncBody.stmts (dB (inC (topS 18) 0)), scope := dS (inC (topS 18) 0), globals := 3, closure := [(sO "__class__", 337)], defaults := vN, kwdefaults := vN, pyModule := vS "filerights.errors" 194, code := vR 348, closureTuple := vR 342 } }
def o_402 (P : Params) : Obj := { cls := vT "tuple", data := Data.seq #[vS "name" 624] }
def o_403 (P : Params) : Obj := { cls := vT "dict", data := Data.dict #[{ hash := kH P (sO "__module__"), key := vS "__module__" 610, val := vS "filerights.errors" 194 }, { hash := kH P (sO "__firstlineno__"), key := vS "__firstlineno__" 614, val := vI 76 613 }, { hash := kH P (sO "__init__"), key := vS "__init__" 623, val := vR 349 }, { hash := kH P (sO "__static_attributes__"), key := vS "__static_attributes__" 625, val := vR 350 }, { hash := kH P (sO "__doc__"), key := vS "__doc__" 627, val := vN }] 3 }
def o_404 (P : Params) : Obj := { cls := vT "type", data := Data.cls { name := sO "UnknownUser", bases := [vR 44], mro := [vR 352, vR 44, vT "KeyError", vT "LookupError", vT "Exception", vT "BaseException", vT "object"], ns := 351, qualname := sO "UnknownUser" }, slots := #[some (vR 334), none, some (vS "UnknownUser" 603), some (vS "UnknownUser" 611), some (vB "LookupError.__new__"), some (Value.bool true)] }
def o_405 (P : Params) : Obj := { cls := vT "super", data := dF #[vR 352, vR 352, vR 352] }
def o_406 (P : Params) : Obj := { cls := vT "builtin_function_or_method", data := dF #[vB "object.__init_subclass__", vR 352] }
def o_411 (P : Params) : Obj := { cls := vT "tuple", data := Data.seq #[vR 44] }
def o_412 (P : Params) : Obj := { cls := vT "builtin_function_or_method", data := dF #[vB "type.__prepare__", vT "type"] }
def o_413 (P : Params) : Obj := { cls := vT "dict", data := Data.dict #[{ hash := kH P (sO "__module__"), key := vS "__module__" 637, val := vS "filerights.errors" 194 }, { hash := kH P (sO "__qualname__"), key := vS "__qualname__" 639, val := vS "UnknownGroup" 638 }, { hash := kH P (sO "__firstlineno__"), key := vS "__firstlineno__" 641, val := vI 81 640 }, { hash := kH P (sO "__init__"), key := vS "__init__" 650, val := vR 370 }, { hash := kH P (sO "__static_attributes__"), key := vS "__static_attributes__" 652, val := vR 371 }, { hash := kH P (sO "__classcell__"), key := vS "__classcell__" 653, val := vR 358 }] 6 }
def o_414 (P : Params) : Obj := { cls := vT "cell", data := Data.cell (some (vR 373)) }
def o_415 (P : Params) : Obj := { cls := vT "tuple", data := Data.seq #[] }
def o_416 (P : Params) : Obj := { cls := vN, data := dF #[vI 83 0, vI 4 0, vR 369] }
def o_417 (P : Params) : Obj := { cls := vT "code", data := dF #[vS "UnknownGroup" 632, vS "UnknownGroup" 633, vS "/claim/cut.py" 634, vI 81 0, vI 0 0, vI 0 0, vI 0 0, vI 0 0, vR 359, Value.bool false, vI 181 0, vR 360, vN, vN, vN, vN, vI 635 0, vI 81 0, vS "/claim/cut.py" 636] }
def o_418 (P : Params) : Obj := { cls := vT "frame", slots := #[some (vR 361), some (vR 3), some (vR 357), none, some (vS "filerights.errors" 194), none, some (vR 0)] }
def o_419 (P : Params) : Obj := { cls := vT "tuple", data := Data.seq #[vR 358] }
def o_420 (P : Params) : Obj := { cls := vT "tuple", data := Data.seq #[vS "__class__" 645] }
def o_421 (P : Params) : Obj := { cls := vN, data := dF #[] }
def o_422 (P : Params) : Obj := { cls := vT "tuple", data := Data.seq #[vS "self" 646, vS "name" 647] }
def o_423 (P : Params) : Obj := { cls := vT "tuple", data := Data.seq #[] }
def o_424 (P : Params) : Obj := { cls := vN, data := Data.func { name := sO "__init__", qualname := sO "UnknownGroup.__init__", params := dA (inC (topS 19) 0), body := FuncBody.stmts (dB (inC (topS 19) 0)), scope := dS (inC (topS 19) 0), globals := 0, closure := [], defaults := vN, kwdefaults := vN } }
def o_425 (P : Params) : Obj := { cls := vT "code", data := dF #[vS "__init__" 642, vS "UnknownGroup.__init__" 643, vS "/claim/cut.py" 644, vI 83 0, vI 2 0, vI 0 0, vI 0 0, vI 3 0, vR 364, Value.bool true, vI 181 0, vR 365, vN, vR 366, vR 367, vR 368, vI 648 0, vI 83 0, vS "/claim/cut.py" 649] }
def o_426 (P : Params) : Obj := { cls := vT "function", data := Data.func { name := sO "__init__", qualname := sO "UnknownGroup.__init__", params := dA (inC (topS 19) 0), body := FuncBody.stmts (dB (inC (topS 19) 0)), scope := dS (inC (topS 19) 0), globals := 3, closure := [(sO "__class__", 358)], defaults := vN, kwdefaults := vN, pyModule := vS "filerights.errors" 194, code := vR 369, closureTuple := vR 363 } }
def o_427 (P : Params) : Obj := { cls := vT "tuple", data := Data.seq #[vS "name" 651] }
def o_428 (P : Params) : Obj := { cls := vT "dict", data := Data.dict #[{ hash := kH P (sO "__module__"), key := vS "__module__" 637, val := vS "filerights.errors" 194 }, { hash := kH P (sO "__firstlineno__"), key := vS "__firstlineno__" 641, val := vI 81 640 }, { hash := kH P (sO "__init__"), key := vS "__init__" 650, val := vR 370 }, { hash := kH P (sO "__static_attributes__"), key := vS "__static_attributes__" 652, val := vR 371 }, { hash := kH P (sO "__doc__"), key := vS "__doc__" 654, val := vN }] 3 }
def o_429 (P : Params) : Obj := { cls := vT "type", data := Data.cls { name := sO "UnknownGroup", bases := [vR 44], mro := [vR 373, vR 44, vT "KeyError", vT "LookupError", vT "Exception", vT "BaseException", vT "object"], ns := 372, qualname := sO "UnknownGroup" }, slots := #[some (vR 355), none, some (vS "UnknownGroup" 630), some (vS "UnknownGroup" 638), some (vB "LookupError.__new__"), some (Value.bool true)] }
def o_430 (P : Params) : Obj := { cls := vT "super", data := dF #[vR 373, vR 373, vR 373] }
def o_431 (P : Params) : Obj := { cls := vT "builtin_function_or_method", data := dF #[vB "object.__init_subclass__", vR 373] }
def o_436 (P : Params) : Obj := { cls := vT "tuple", data := Data.seq #[vR 44] }
def o_437 (P : Params) : Obj := { cls := vT "builtin_function_or_method", data := dF #[vB "type.__prepare__", vT "type"] }
def o_438 (P : Params) : Obj := { cls := vT "dict", data := Data.dict #[{ hash := kH P (sO "__module__"), key := vS "__module__" 664, val := vS "filerights.errors" 194 }, { hash := kH P (sO "__qualname__"), key := vS "__qualname__" 666, val := vS "UnknownEntry" 665 }, { hash := kH P (sO "__firstlineno__"), key := vS "__firstlineno__" 668, val := vI 86 667 }, { hash := kH P (sO "__init__"), key := vS "__init__" 677, val := vR 391 }, { hash := kH P (sO "__static_attributes__"), key := vS "__static_attributes__" 679, val := vR 392 }, { hash := kH P (sO "__classcell__"), key := vS "__classcell__" 680, val := vR 379 }] 6 }
def o_439 (P : Params) : Obj := { cls := vT "cell", data := Data.cell (some (vR 394)) }
def o_440 (P : Params) : Obj := { cls := vT "tuple", data := Data.seq #[] }
def o_441 (P : Params) : Obj := { cls := vN, data := dF #[vI 88 0, vI 4 0, vR 390] }
def o_442 (P : Params) : Obj := { cls := vT "code", data := dF #[vS "UnknownEntry" 659, vS "UnknownEntry" 660, vS "/claim/cut.py" 661, vI 86 0, vI 0 0, vI 0 0, vI 0 0, vI 0 0, vR 380, Value.bool false, vI 181 0, vR 381, vN, vN, vN, vN, vI 662 0, vI 86 0, vS "/claim/cut.py" 663] }
def o_443 (P : Params) : Obj := { cls := vT "frame", slots := #[some (vR 382), some (vR 3), some (vR 378), none, some (vS "filerights.errors" 194), none, some (vR 0)] }
def o_444 (P : Params) : Obj := { cls := vT "tuple", data := Data.seq #[vR 379] }
def o_445 (P : Params) : Obj := { cls := vT "tuple", data := Data.seq #[vS "__class__" 672] }
def o_446 (P : Params) : Obj := { cls := vN, data := dF #[] }
def o_447 (P : Params) : Obj := { cls := vT "tuple", data := Data.seq #[vS "self" 673, vS "name" 674] }
def o_448 (P : Params) : Obj := { cls := vT "tuple", data := Data.seq #[] }
def o_449 (P : Params) : Obj := { cls := vN, data := Data.func { name := sO "__init__", qualname := sO "UnknownEntry.__init__", params := dA (inC (topS 20) 0), body := FuncBody.stmts (dB (inC (topS 20) 0)), scope := dS (inC (topS 20) 0), globals := 0, closure := [], defaults := vN, kwdefaults := vN } }
def o_450 (P : Params) : Obj := { cls := vT "code", data := dF #[vS "__init__" 669, vS "UnknownEntry.__init__" 670, vS "/claim/cut.py" 671, vI 88 0, vI 2 0, vI 0 0, vI 0 0, vI 3 0, vR 385, Value.bool true, vI 181 0, vR 386, vN, vR 387, vR 388, vR 389, vI 675 0, vI 88 0, vS "/claim/cut.py" 676] }
def o_451 (P : Params) : Obj := { cls := vT "function", data := Data.func { name := sO "__init__", qualname := sO "UnknownEntry.__init__", params := dA (inC (topS 20) 0), body := FuncBody.stmts (dB (inC (topS 20) 0)), scope := dS (inC (topS 20) 0), globals := 3, closure := [(sO "__class__", 379)], defaults := vN, kwdefaults := vN, pyModule := vS "filerights.errors" 194, code := vR 390, closureTuple := vR 384 } }
def o_452 (P : Params) : Obj := { cls := vT "tuple", data := Data.seq #[vS "name" 678] }
def o_453 (P : Params) : Obj := { cls := vT "dict", data := Data.dict #[{ hash := kH P (sO "__module__"), key := vS "__module__" 664, val := vS "filerights.errors" 194 }, { hash := kH P (sO "__firstlineno__"), key := vS "__firstlineno__" 668, val := vI 86 667 }, { hash := kH P (sO "__init__"), key := vS "__init__" 677, val := vR 391 }, { hash := kH P (sO "__static_attributes__"), key := vS "__static_attributes__" 679, val := vR 392 }, { hash := kH P (sO "__doc__"), key := vS "__doc__" 681, val := vN }] 3 }
def o_454 (P : Params) : Obj := { cls := vT "type", data := Data.cls { name := sO "UnknownEntry", bases := [vR 44], mro := [vR 394, vR 44, vT "KeyError", vT "LookupError", vT "Exception", vT "BaseException", vT "object"], ns := 393, qualname := sO "UnknownEntry" }, slots := #[some (vR 376), none, some (vS "UnknownEntry" 657), some (vS "UnknownEntry" 665), some (vB "LookupError.__new__"), some (Value.bool true)] }
def o_455 (P : Params) : Obj := { cls := vT "super", data := dF #[vR 394, vR 394, vR 394] }
def o_456 (P : Params) : Obj := { cls := vT "builtin_function_or_method", data := dF #[vB "object.__init_subclass__", vR 394] }
def o_460 (P : Params) : Obj := { cls := vT "type", data := Data.cls { name := sO "MissingError", bases := [vT "KeyError"], mro := [vR 44, vT "KeyError", vT "LookupError", vT "Exception", vT "BaseException", vT "object"], ns := 43, qualname := sO "MissingError", subclasses := [vR 352, vR 373, vR 394, vR 415] }, slots := #[some (vR 35), none, some (vS "MissingError" 214), some (vS "MissingError" 222), some (vB "LookupError.__new__"), some (Value.bool true)] }
def o_461 (P : Params) : Obj := { cls := vT "tuple", data := Data.seq #[vR 44] }
def o_462 (P : Params) : Obj := { cls := vT "builtin_function_or_method", data := dF #[vB "type.__prepare__", vT "type"] }
def o_463 (P : Params) : Obj := { cls := vT "dict", data := Data.dict #[{ hash := kH P (sO "__module__"), key := vS "__module__" 691, val := vS "filerights.errors" 194 }, { hash := kH P (sO "__qualname__"), key := vS "__qualname__" 693, val := vS "Absent" 692 }, { hash := kH P (sO "__firstlineno__"), key := vS "__firstlineno__" 695, val := vI 91 694 }, { hash := kH P (sO "__init__"), key := vS "__init__" 704, val := vR 412 }, { hash := kH P (sO "__static_attributes__"), key := vS "__static_attributes__" 706, val := vR 413 }, { hash := kH P (sO "__classcell__"), key := vS "__classcell__" 707, val := vR 400 }] 6 }
def o_464 (P : Params) : Obj := { cls := vT "cell", data := Data.cell (some (vR 415)) }
def o_465 (P : Params) : Obj := { cls := vT "tuple", data := Data.seq #[] }
def o_466 (P : Params) : Obj := { cls := vN, data := dF #[vI 93 0, vI 4 0, vR 411] }
def o_467 (P : Params) : Obj := { cls := vT "code", data := dF #[vS "Absent" 686, vS "Absent" 687, vS "/claim/cut.py" 688, vI 91 0, vI 0 0, vI 0 0, vI 0 0, vI 0 0, vR 401, Value.bool false, vI 181 0, vR 402, vN, vN, vN, vN, vI 689 0, vI 91 0, vS "/claim/cut.py" 690] }
def o_468 (P : Params) : Obj := { cls := vT "frame", slots := #[some (vR 403), some (vR 3), some (vR 399), none, some (vS "filerights.errors" 194), none, some (vR 0)] }
def o_469 (P : Params) : Obj := { cls := vT "tuple", data := Data.seq #[vR 400] }
def o_470 (P : Params) : Obj := { cls := vT "tuple", data := Data.seq #[vS "__class__" 699] }
def o_471 (P : Params) : Obj := { cls := vN, data := dF #[] }
def o_472 (P : Params) : Obj := { cls := vT "tuple", data := Data.seq #[vS "self" 700, vS "path" 701] }
def o_473 (P : Params) : Obj := { cls := vT "tuple", data := Data.seq #[] }
def o_474 (P : Params) : Obj := { cls := vN, data := Data.func { name := sO "__init__", qualname := sO "Absent.__init__", params := dA (inC (topS 21) 0), body := FuncBody.stmts (dB (inC (topS 21) 0)), scope := dS (inC (topS 21) 0), globals := 0, closure := [], defaults := vN, kwdefaults := vN } }
def o_475 (P : Params) : Obj := { cls := vT "code", data := dF #[vS "__init__" 696, vS "Absent.__init__" 697, vS "/claim/cut.py" 698, vI 93 0, vI 2 0, vI 0 0, vI 0 0, vI 3 0, vR 406, Value.bool true, vI 181 0, vR 407, vN, vR 408, vR 409, vR 410, vI 702 0, vI 93 0, vS "/claim/cut.py" 703] }
def o_476 (P : Params) : Obj := { cls := vT "function", data := Data.func { name := sO "__init__", qualname := sO "Absent.__init__", params := dA (inC (topS 21) 0), body := FuncBody.stmts (dB (inC (topS 21) 0)), scope := dS (inC (topS 21) 0), globals := 3, closure := [(sO "__class__", 400)], defaults := vN, kwdefaults := vN, pyModule := vS "filerights.errors" 194, code := vR 411, closureTuple := vR 405 } }
def o_477 (P : Params) : Obj := { cls := vT "tuple", data := Data.seq #[vS "path" 705] }
def o_478 (P : Params) : Obj := { cls := vT "dict", data := Data.dict #[{ hash := kH P (sO "__module__"), key := vS "__module__" 691, val := vS "filerights.errors" 194 }, { hash := kH P (sO "__firstlineno__"), key := vS "__firstlineno__" 695, val := vI 91 694 }, { hash := kH P (sO "__init__"), key := vS "__init__" 704, val := vR 412 }, { hash := kH P (sO "__static_attributes__"), key := vS "__static_attributes__" 706, val := vR 413 }, { hash := kH P (sO "__doc__"), key := vS "__doc__" 708, val := vN }] 3 }
def o_479 (P : Params) : Obj := { cls := vT "type", data := Data.cls { name := sO "Absent", bases := [vR 44], mro := [vR 415, vR 44, vT "KeyError", vT "LookupError", vT "Exception", vT "BaseException", vT "object"], ns := 414, qualname := sO "Absent" }, slots := #[some (vR 397), none, some (vS "Absent" 684), some (vS "Absent" 692), some (vB "LookupError.__new__"), some (Value.bool true)] }
def o_480 (P : Params) : Obj := { cls := vT "super", data := dF #[vR 415, vR 415, vR 415] }
def o_481 (P : Params) : Obj := { cls := vT "builtin_function_or_method", data := dF #[vB "object.__init_subclass__", vR 415] }
def o_486 (P : Params) : Obj := { cls := vT "tuple", data := Data.seq #[vR 57] }
def o_487 (P : Params) : Obj := { cls := vT "builtin_function_or_method", data := dF #[vB "type.__prepare__", vT "type"] }
def o_488 (P : Params) : Obj := { cls := vT "dict", data := Data.dict #[{ hash := kH P (sO "__module__"), key := vS "__module__" 718, val := vS "filerights.errors" 194 }, { hash := kH P (sO "__qualname__"), key := vS "__qualname__" 720, val := vS "Denied" 719 }, { hash := kH P (sO "__firstlineno__"), key := vS "__firstlineno__" 722, val := vI 96 721 }, { hash := kH P (sO "__init__"), key := vS "__init__" 732, val := vR 433 }, { hash := kH P (sO "__static_attributes__"), key := vS "__static_attributes__" 735, val := vR 434 }, { hash := kH P (sO "__classcell__"), key := vS "__classcell__" 736, val := vR 421 }] 6 }
def o_489 (P : Params) : Obj := { cls := vT "cell", data := Data.cell (some (vR 436)) }
def o_490 (P : Params) : Obj := { cls := vT "tuple", data := Data.seq #[] }
def o_491 (P : Params) : Obj := { cls := vN, data := dF #[vI 98 0, vI 4 0, vR 432] }
def o_492 (P : Params) : Obj := { cls := vT "code", data := dF #[vS "Denied" 713, vS "Denied" 714, vS "/claim/cut.py" 715, vI 96 0, vI 0 0, vI 0 0, vI 0 0, vI 0 0, vR 422, Value.bool false, vI 181 0, vR 423, vN, vN, vN, vN, vI 716 0, vI 96 0, vS "/claim/cut.py" 717] }
def o_493 (P : Params) : Obj := { cls := vT "frame", slots := #[some (vR 424), some (vR 3), some (vR 420), none, some (vS "filerights.errors" 194), none, some (vR 0)] }
def o_494 (P : Params) : Obj := { cls := vT "tuple", data := Data.seq #[vR 421] }
def o_495 (P : Params) : Obj := { cls := vT "tuple", data := Data.seq #[vS "__class__" 726] }
def o_496 (P : Params) : Obj := { cls := vN, data := dF #[] }
def o_497 (P : Params) : Obj := { cls := vT "tuple", data := Data.seq #[vS "self" 727, vS "path" 728, vS "letters" 729] }
def o_498 (P : Params) : Obj := { cls := vT "tuple", data := Data.seq #[] }
def o_499 (P : Params) : Obj := { cls := vN, data := Data.func { name := sO "__init__", qualname := sO "Denied.__init__", params := dA (inC (topS 22) 0), body := FuncBody.stmts (dB (inC (topS 22) 0)), scope := dS (inC (topS 22) 0), globals := 0, closure := [], defaults := vN, kwdefaults := vN } }
def o_500 (P : Params) : Obj := { cls := vT "code", data := dF #[vS "__init__" 723, vS "Denied.__init__" 724, vS "/claim/cut.py" 725, vI 98 0, vI 3 0, vI 0 0, vI 0 0, vI 3 0, vR 427, Value.bool true, vI 181 0, vR 428, vN, vR 429, vR 430, vR 431, vI 730 0, vI 98 0, vS "/claim/cut.py" 731] }
def o_501 (P : Params) : Obj := { cls := vT "function", data := Data.func { name := sO "__init__", qualname := sO "Denied.__init__", params := dA (inC (topS 22) 0), body := FuncBody.stmts (dB (inC (topS 22) 0)), scope := dS (inC (topS 22) 0), globals := 3, closure := [(sO "__class__", 421)], defaults := vN, kwdefaults := vN, pyModule := vS "filerights.errors" 194, code := vR 432, closureTuple := vR 426 } }
def o_502 (P : Params) : Obj := { cls := vT "tuple", data := Data.seq #[vS "letters" 733, vS "path" 734] }
def o_503 (P : Params) : Obj := { cls := vT "dict", data := Data.dict #[{ hash := kH P (sO "__module__"), key := vS "__module__" 718, val := vS "filerights.errors" 194 }, { hash := kH P (sO "__firstlineno__"), key := vS "__firstlineno__" 722, val := vI 96 721 }, { hash := kH P (sO "__init__"), key := vS "__init__" 732, val := vR 433 }, { hash := kH P (sO "__static_attributes__"), key := vS "__static_attributes__" 735, val := vR 434 }, { hash := kH P (sO "__doc__"), key := vS "__doc__" 737, val := vN }] 3 }
def o_504 (P : Params) : Obj := { cls := vT "type", data := Data.cls { name := sO "Denied", bases := [vR 57], mro := [vR 436, vR 57, vT "LookupError", vT "Exception", vT "BaseException", vT "object"], ns := 435, qualname := sO "Denied" }, slots := #[some (vR 418), none, some (vS "Denied" 711), some (vS "Denied" 719), some (vB "LookupError.__new__"), some (Value.bool true)] }
def o_505 (P : Params) : Obj := { cls := vT "super", data := dF #[vR 436, vR 436, vR 436] }
def o_506 (P : Params) : Obj := { cls := vT "builtin_function_or_method", data := dF #[vB "object.__init_subclass__", vR 436] }
def o_511 (P : Params) : Obj := { cls := vT "tuple", data := Data.seq #[vR 57] }
def o_512 (P : Params) : Obj := { cls := vT "builtin_function_or_method", data := dF #[vB "type.__prepare__", vT "type"] }
def o_513 (P : Params) : Obj := { cls := vT "dict", data := Data.dict #[{ hash := kH P (sO "__module__"), key := vS "__module__" 747, val := vS "filerights.errors" 194 }, { hash := kH P (sO "__qualname__"), key := vS "__qualname__" 749, val := vS "NotOwner" 748 }, { hash := kH P (sO "__firstlineno__"), key := vS "__firstlineno__" 751, val := vI 102 750 }, { hash := kH P (sO "__init__"), key := vS "__init__" 760, val := vR 454 }, { hash := kH P (sO "__static_attributes__"), key := vS "__static_attributes__" 762, val := vR 455 }, { hash := kH P (sO "__classcell__"), key := vS "__classcell__" 763, val := vR 442 }] 6 }
def o_514 (P : Params) : Obj := { cls := vT "cell", data := Data.cell (some (vR 457)) }
def o_515 (P : Params) : Obj := { cls := vT "tuple", data := Data.seq #[] }
def o_516 (P : Params) : Obj := { cls := vN, data := dF #[vI 104 0, vI 4 0, vR 453] }
def o_517 (P : Params) : Obj := { cls := vT "code", data := dF #[vS "NotOwner" 742, vS "NotOwner" 743, vS "/claim/cut.py" 744, vI 102 0, vI 0 0, vI 0 0, vI 0 0, vI 0 0, vR 443, Value.bool false, vI 181 0, vR 444, vN, vN, vN, vN, vI 745 0, vI 102 0, vS "/claim/cut.py" 746] }
def o_518 (P : Params) : Obj := { cls := vT "frame", slots := #[some (vR 445), some (vR 3), some (vR 441), none, some (vS "filerights.errors" 194), none, some (vR 0)] }
def o_519 (P : Params) : Obj := { cls := vT "tuple", data := Data.seq #[vR 442] }
def o_520 (P : Params) : Obj := { cls := vT "tuple", data := Data.seq #[vS "__class__" 755] }
def o_521 (P : Params) : Obj := { cls := vN, data := dF #[] }
def o_522 (P : Params) : Obj := { cls := vT "tuple", data := Data.seq #[vS "self" 756, vS "path" 757] }
def o_523 (P : Params) : Obj := { cls := vT "tuple", data := Data.seq #[] }
def o_524 (P : Params) : Obj := { cls := vN, data := Data.func { name := sO "__init__", qualname := sO "NotOwner.__init__", params := dA (inC (topS 23) 0), body := FuncBody.stmts (dB (inC (topS 23) 0)), scope := dS (inC (topS 23) 0), globals := 0, closure := [], defaults := vN, kwdefaults := vN } }
def o_525 (P : Params) : Obj := { cls := vT "code", data := dF #[vS "__init__" 752, vS "NotOwner.__init__" 753, vS "/claim/cut.py" 754, vI 104 0, vI 2 0, vI 0 0, vI 0 0, vI 3 0, vR 448, Value.bool true, vI 181 0, vR 449, vN, vR 450, vR 451, vR 452, vI 758 0, vI 104 0, vS "/claim/cut.py" 759] }
def o_526 (P : Params) : Obj := { cls := vT "function", data := Data.func { name := sO "__init__", qualname := sO "NotOwner.__init__", params := dA (inC (topS 23) 0), body := FuncBody.stmts (dB (inC (topS 23) 0)), scope := dS (inC (topS 23) 0), globals := 3, closure := [(sO "__class__", 442)], defaults := vN, kwdefaults := vN, pyModule := vS "filerights.errors" 194, code := vR 453, closureTuple := vR 447 } }
def o_527 (P : Params) : Obj := { cls := vT "tuple", data := Data.seq #[vS "path" 761] }
def o_528 (P : Params) : Obj := { cls := vT "dict", data := Data.dict #[{ hash := kH P (sO "__module__"), key := vS "__module__" 747, val := vS "filerights.errors" 194 }, { hash := kH P (sO "__firstlineno__"), key := vS "__firstlineno__" 751, val := vI 102 750 }, { hash := kH P (sO "__init__"), key := vS "__init__" 760, val := vR 454 }, { hash := kH P (sO "__static_attributes__"), key := vS "__static_attributes__" 762, val := vR 455 }, { hash := kH P (sO "__doc__"), key := vS "__doc__" 764, val := vN }] 3 }
def o_529 (P : Params) : Obj := { cls := vT "type", data := Data.cls { name := sO "NotOwner", bases := [vR 57], mro := [vR 457, vR 57, vT "LookupError", vT "Exception", vT "BaseException", vT "object"], ns := 456, qualname := sO "NotOwner" }, slots := #[some (vR 439), none, some (vS "NotOwner" 740), some (vS "NotOwner" 748), some (vB "LookupError.__new__"), some (Value.bool true)] }
def o_530 (P : Params) : Obj := { cls := vT "super", data := dF #[vR 457, vR 457, vR 457] }
def o_531 (P : Params) : Obj := { cls := vT "builtin_function_or_method", data := dF #[vB "object.__init_subclass__", vR 457] }
def o_536 (P : Params) : Obj := { cls := vT "tuple", data := Data.seq #[vR 57] }
def o_537 (P : Params) : Obj := { cls := vT "builtin_function_or_method", data := dF #[vB "type.__prepare__", vT "type"] }
def o_538 (P : Params) : Obj := { cls := vT "dict", data := Data.dict #[{ hash := kH P (sO "__module__"), key := vS "__module__" 774, val := vS "filerights.errors" 194 }, { hash := kH P (sO "__qualname__"), key := vS "__qualname__" 776, val := vS "Held" 775 }, { hash := kH P (sO "__firstlineno__"), key := vS "__firstlineno__" 778, val := vI 107 777 }, { hash := kH P (sO "__init__"), key := vS "__init__" 787, val := vR 475 }, { hash := kH P (sO "__static_attributes__"), key := vS "__static_attributes__" 789, val := vR 476 }, { hash := kH P (sO "__classcell__"), key := vS "__classcell__" 790, val := vR 463 }] 6 }
def o_539 (P : Params) : Obj := { cls := vT "cell", data := Data.cell (some (vR 478)) }
def o_540 (P : Params) : Obj := { cls := vT "tuple", data := Data.seq #[] }
def o_541 (P : Params) : Obj := { cls := vN, data := dF #[vI 109 0, vI 4 0, vR 474] }
def o_542 (P : Params) : Obj := { cls := vT "code", data := dF #[vS "Held" 769, vS "Held" 770, vS "/claim/cut.py" 771, vI 107 0, vI 0 0, vI 0 0, vI 0 0, vI 0 0, vR 464, Value.bool false, vI 181 0, vR 465, vN, vN, vN, vN, vI 772 0, vI 107 0, vS "/claim/cut.py" 773] }
def o_543 (P : Params) : Obj := { cls := vT "frame", slots := #[some (vR 466), some (vR 3), some (vR 462), none, some (vS "filerights.errors" 194), none, some (vR 0)] }
def o_544 (P : Params) : Obj := { cls := vT "tuple", data := Data.seq #[vR 463] }
def o_545 (P : Params) : Obj := { cls := vT "tuple", data := Data.seq #[vS "__class__" 782] }
def o_546 (P : Params) : Obj := { cls := vN, data := dF #[] }
def o_547 (P : Params) : Obj := { cls := vT "tuple", data := Data.seq #[vS "self" 783, vS "path" 784] }
def o_548 (P : Params) : Obj := { cls := vT "tuple", data := Data.seq #[] }
def o_549 (P : Params) : Obj := { cls := vN, data := Data.func { name := sO "__init__", qualname := sO "Held.__init__", params := dA (inC (topS 24) 0), body := FuncBody.stmts (dB (inC (topS 24) 0)), scope := dS (inC (topS 24) 0), globals := 0, closure := [], defaults := vN, kwdefaults := vN } }
def o_550 (P : Params) : Obj := { cls := vT "code", data := dF #[vS "__init__" 779, vS "Held.__init__" 780, vS "/claim/cut.py" 781, vI 109 0, vI 2 0, vI 0 0, vI 0 0, vI 3 0, vR 469, Value.bool true, vI 181 0, vR 470, vN, vR 471, vR 472, vR 473, vI 785 0, vI 109 0, vS "/claim/cut.py" 786] }
def o_551 (P : Params) : Obj := { cls := vT "function", data := Data.func { name := sO "__init__", qualname := sO "Held.__init__", params := dA (inC (topS 24) 0), body := FuncBody.stmts (dB (inC (topS 24) 0)), scope := dS (inC (topS 24) 0), globals := 3, closure := [(sO "__class__", 463)], defaults := vN, kwdefaults := vN, pyModule := vS "filerights.errors" 194, code := vR 474, closureTuple := vR 468 } }
def o_552 (P : Params) : Obj := { cls := vT "tuple", data := Data.seq #[vS "path" 788] }
def o_553 (P : Params) : Obj := { cls := vT "dict", data := Data.dict #[{ hash := kH P (sO "__module__"), key := vS "__module__" 774, val := vS "filerights.errors" 194 }, { hash := kH P (sO "__firstlineno__"), key := vS "__firstlineno__" 778, val := vI 107 777 }, { hash := kH P (sO "__init__"), key := vS "__init__" 787, val := vR 475 }, { hash := kH P (sO "__static_attributes__"), key := vS "__static_attributes__" 789, val := vR 476 }, { hash := kH P (sO "__doc__"), key := vS "__doc__" 791, val := vN }] 3 }
def o_554 (P : Params) : Obj := { cls := vT "type", data := Data.cls { name := sO "Held", bases := [vR 57], mro := [vR 478, vR 57, vT "LookupError", vT "Exception", vT "BaseException", vT "object"], ns := 477, qualname := sO "Held" }, slots := #[some (vR 460), none, some (vS "Held" 767), some (vS "Held" 775), some (vB "LookupError.__new__"), some (Value.bool true)] }
def o_555 (P : Params) : Obj := { cls := vT "super", data := dF #[vR 478, vR 478, vR 478] }
def o_556 (P : Params) : Obj := { cls := vT "builtin_function_or_method", data := dF #[vB "object.__init_subclass__", vR 478] }
def o_561 (P : Params) : Obj := { cls := vT "tuple", data := Data.seq #[vR 57] }
def o_562 (P : Params) : Obj := { cls := vT "builtin_function_or_method", data := dF #[vB "type.__prepare__", vT "type"] }
def o_563 (P : Params) : Obj := { cls := vT "dict", data := Data.dict #[{ hash := kH P (sO "__module__"), key := vS "__module__" 801, val := vS "filerights.errors" 194 }, { hash := kH P (sO "__qualname__"), key := vS "__qualname__" 803, val := vS "Taken" 802 }, { hash := kH P (sO "__firstlineno__"), key := vS "__firstlineno__" 805, val := vI 112 804 }, { hash := kH P (sO "__init__"), key := vS "__init__" 814, val := vR 496 }, { hash := kH P (sO "__static_attributes__"), key := vS "__static_attributes__" 816, val := vR 497 }, { hash := kH P (sO "__classcell__"), key := vS "__classcell__" 817, val := vR 484 }] 6 }
def o_564 (P : Params) : Obj := { cls := vT "cell", data := Data.cell (some (vR 499)) }
def o_565 (P : Params) : Obj := { cls := vT "tuple", data := Data.seq #[] }
def o_566 (P : Params) : Obj := { cls := vN, data := dF #[vI 114 0, vI 4 0, vR 495] }
def o_567 (P : Params) : Obj := { cls := vT "code", data := dF #[vS "Taken" 796, vS "Taken" 797, vS "/claim/cut.py" 798, vI 112 0, vI 0 0, vI 0 0, vI 0 0, vI 0 0, vR 485, Value.bool false, vI 181 0, vR 486, vN, vN, vN, vN, vI 799 0, vI 112 0, vS "/claim/cut.py" 800] }
def o_568 (P : Params) : Obj := { cls := vT "frame", slots := #[some (vR 487), some (vR 3), some (vR 483), none, some (vS "filerights.errors" 194), none, some (vR 0)] }
def o_569 (P : Params) : Obj := { cls := vT "tuple", data := Data.seq #[vR 484] }
def o_570 (P : Params) : Obj := { cls := vT "tuple", data := Data.seq #[vS "__class__" 809] }
def o_571 (P : Params) : Obj := { cls := vN, data := dF #[] }
def o_572 (P : Params) : Obj := { cls := vT "tuple", data := Data.seq #[vS "self" 810, vS "path" 811] }
def o_573 (P : Params) : Obj := { cls := vT "tuple", data := Data.seq #[] }
def o_574 (P : Params) : Obj := { cls := vN, data := Data.func { name := sO "__init__", qualname := sO "Taken.__init__", params := dA (inC (topS 25) 0), body := FuncBody.stmts (dB (inC (topS 25) 0)), scope := dS (inC (topS 25) 0), globals := 0, closure := [], defaults := vN, kwdefaults := vN } }
def o_575 (P : Params) : Obj := { cls := vT "code", data := dF #[vS "__init__" 806, vS "Taken.__init__" 807, vS "/claim/cut.py" 808, vI 114 0, vI 2 0, vI 0 0, vI 0 0, vI 3 0, vR 490, Value.bool true, vI 181 0, vR 491, vN, vR 492, vR 493, vR 494, vI 812 0, vI 114 0, vS "/claim/cut.py" 813] }
def o_576 (P : Params) : Obj := { cls := vT "function", data := Data.func { name := sO "__init__", qualname := sO "Taken.__init__", params := dA (inC (topS 25) 0), body := FuncBody.stmts (dB (inC (topS 25) 0)), scope := dS (inC (topS 25) 0), globals := 3, closure := [(sO "__class__", 484)], defaults := vN, kwdefaults := vN, pyModule := vS "filerights.errors" 194, code := vR 495, closureTuple := vR 489 } }
def o_577 (P : Params) : Obj := { cls := vT "tuple", data := Data.seq #[vS "path" 815] }
def o_578 (P : Params) : Obj := { cls := vT "dict", data := Data.dict #[{ hash := kH P (sO "__module__"), key := vS "__module__" 801, val := vS "filerights.errors" 194 }, { hash := kH P (sO "__firstlineno__"), key := vS "__firstlineno__" 805, val := vI 112 804 }, { hash := kH P (sO "__init__"), key := vS "__init__" 814, val := vR 496 }, { hash := kH P (sO "__static_attributes__"), key := vS "__static_attributes__" 816, val := vR 497 }, { hash := kH P (sO "__doc__"), key := vS "__doc__" 818, val := vN }] 3 }
def o_579 (P : Params) : Obj := { cls := vT "type", data := Data.cls { name := sO "Taken", bases := [vR 57], mro := [vR 499, vR 57, vT "LookupError", vT "Exception", vT "BaseException", vT "object"], ns := 498, qualname := sO "Taken" }, slots := #[some (vR 481), none, some (vS "Taken" 794), some (vS "Taken" 802), some (vB "LookupError.__new__"), some (Value.bool true)] }
def o_580 (P : Params) : Obj := { cls := vT "super", data := dF #[vR 499, vR 499, vR 499] }
def o_581 (P : Params) : Obj := { cls := vT "builtin_function_or_method", data := dF #[vB "object.__init_subclass__", vR 499] }
def o_586 (P : Params) : Obj := { cls := vT "tuple", data := Data.seq #[vR 57] }
def o_587 (P : Params) : Obj := { cls := vT "builtin_function_or_method", data := dF #[vB "type.__prepare__", vT "type"] }
def o_588 (P : Params) : Obj := { cls := vT "dict", data := Data.dict #[{ hash := kH P (sO "__module__"), key := vS "__module__" 828, val := vS "filerights.errors" 194 }, { hash := kH P (sO "__qualname__"), key := vS "__qualname__" 830, val := vS "NotFolder" 829 }, { hash := kH P (sO "__firstlineno__"), key := vS "__firstlineno__" 832, val := vI 117 831 }, { hash := kH P (sO "__init__"), key := vS "__init__" 841, val := vR 517 }, { hash := kH P (sO "__static_attributes__"), key := vS "__static_attributes__" 843, val := vR 518 }, { hash := kH P (sO "__classcell__"), key := vS "__classcell__" 844, val := vR 505 }] 6 }
def o_589 (P : Params) : Obj := { cls := vT "cell", data := Data.cell (some (vR 520)) }
def o_590 (P : Params) : Obj := { cls := vT "tuple", data := Data.seq #[] }
def o_591 (P : Params) : Obj := { cls := vN, data := dF #[vI 119 0, vI 4 0, vR 516] }
def o_592 (P : Params) : Obj := { cls := vT "code", data := dF #[vS "NotFolder" 823, vS "NotFolder" 824, vS "/claim/cut.py" 825, vI 117 0, vI 0 0, vI 0 0, vI 0 0, vI 0 0, vR 506, Value.bool false, vI 181 0, vR 507, vN, vN, vN, vN, vI 826 0, vI 117 0, vS "/claim/cut.py" 827] }
def o_593 (P : Params) : Obj := { cls := vT "frame", slots := #[some (vR 508), some (vR 3), some (vR 504), none, some (vS "filerights.errors" 194), none, some (vR 0)] }
def o_594 (P : Params) : Obj := { cls := vT "tuple", data := Data.seq #[vR 505] }
def o_595 (P : Params) : Obj := { cls := vT "tuple", data := Data.seq #[vS "__class__" 836] }
def o_596 (P : Params) : Obj := { cls := vN, data := dF #[] }
def o_597 (P : Params) : Obj := { cls := vT "tuple", data := Data.seq #[vS "self" 837, vS "path" 838] }
def o_598 (P : Params) : Obj := { cls := vT "tuple", data := Data.seq #[] }
def o_599 (P : Params) : Obj := { cls := vN, data := Data.func { name := sO "__init__", qualname := sO "NotFolder.__init__", params := dA (inC (topS 26) 0), body := FuncBody.stmts (dB (inC (topS 26) 0)), scope := dS (inC (topS 26) 0), globals := 0, closure := [], defaults := vN, kwdefaults := vN } }
def o_600 (P : Params) : Obj := { cls := vT "code", data := dF #[vS "__init__" 833, vS "NotFolder.__init__" 834, vS "/claim/cut.py" 835, vI 119 0, vI 2 0, vI 0 0, vI 0 0, vI 3 0, vR 511, Value.bool true, vI 181 0, vR 512, vN, vR 513, vR 514, vR 515, vI 839 0, vI 119 0, vS "/claim/cut.py" 840] }
def o_601 (P : Params) : Obj := { cls := vT "function", data := Data.func { name := sO "__init__", qualname := sO "NotFolder.__init__", params := dA (inC (topS 26) 0), body := FuncBody.stmts (dB (inC (topS 26) 0)), scope := dS (inC (topS 26) 0), globals := 3, closure := [(sO "__class__", 505)], defaults := vN, kwdefaults := vN, pyModule := vS "filerights.errors" 194, code := vR 516, closureTuple := vR 510 } }
def o_602 (P : Params) : Obj := { cls := vT "tuple", data := Data.seq #[vS "path" 842] }
def o_603 (P : Params) : Obj := { cls := vT "dict", data := Data.dict #[{ hash := kH P (sO "__module__"), key := vS "__module__" 828, val := vS "filerights.errors" 194 }, { hash := kH P (sO "__firstlineno__"), key := vS "__firstlineno__" 832, val := vI 117 831 }, { hash := kH P (sO "__init__"), key := vS "__init__" 841, val := vR 517 }, { hash := kH P (sO "__static_attributes__"), key := vS "__static_attributes__" 843, val := vR 518 }, { hash := kH P (sO "__doc__"), key := vS "__doc__" 845, val := vN }] 3 }
def o_604 (P : Params) : Obj := { cls := vT "type", data := Data.cls { name := sO "NotFolder", bases := [vR 57], mro := [vR 520, vR 57, vT "LookupError", vT "Exception", vT "BaseException", vT "object"], ns := 519, qualname := sO "NotFolder" }, slots := #[some (vR 502), none, some (vS "NotFolder" 821), some (vS "NotFolder" 829), some (vB "LookupError.__new__"), some (Value.bool true)] }
def o_605 (P : Params) : Obj := { cls := vT "super", data := dF #[vR 520, vR 520, vR 520] }
def o_606 (P : Params) : Obj := { cls := vT "builtin_function_or_method", data := dF #[vB "object.__init_subclass__", vR 520] }
def o_611 (P : Params) : Obj := { cls := vT "tuple", data := Data.seq #[vR 57] }
def o_612 (P : Params) : Obj := { cls := vT "builtin_function_or_method", data := dF #[vB "type.__prepare__", vT "type"] }
def o_613 (P : Params) : Obj := { cls := vT "dict", data := Data.dict #[{ hash := kH P (sO "__module__"), key := vS "__module__" 855, val := vS "filerights.errors" 194 }, { hash := kH P (sO "__qualname__"), key := vS "__qualname__" 857, val := vS "NotFile" 856 }, { hash := kH P (sO "__firstlineno__"), key := vS "__firstlineno__" 859, val := vI 122 858 }, { hash := kH P (sO "__init__"), key := vS "__init__" 868, val := vR 538 }, { hash := kH P (sO "__static_attributes__"), key := vS "__static_attributes__" 870, val := vR 539 }, { hash := kH P (sO "__classcell__"), key := vS "__classcell__" 871, val := vR 526 }] 6 }
def o_614 (P : Params) : Obj := { cls := vT "cell", data := Data.cell (some (vR 541)) }
def o_615 (P : Params) : Obj := { cls := vT "tuple", data := Data.seq #[] }
def o_616 (P : Params) : Obj := { cls := vN, data := dF #[vI 124 0, vI 4 0, vR 537] }
def o_617 (P : Params) : Obj := { cls := vT "code", data := dF #[vS "NotFile" 850, vS "NotFile" 851, vS "/claim/cut.py" 852, vI 122 0, vI 0 0, vI 0 0, vI 0 0, vI 0 0, vR 527, Value.bool false, vI 181 0, vR 528, vN, vN, vN, vN, vI 853 0, vI 122 0, vS "/claim/cut.py" 854] }
def o_618 (P : Params) : Obj := { cls := vT "frame", slots := #[some (vR 529), some (vR 3), some (vR 525), none, some (vS "filerights.errors" 194), none, some (vR 0)] }
def o_619 (P : Params) : Obj := { cls := vT "tuple", data := Data.seq #[vR 526] }
def o_620 (P : Params) : Obj := { cls := vT "tuple", data := Data.seq #[vS "__class__" 863] }
def o_621 (P : Params) : Obj := { cls := vN, data := dF #[] }
def o_622 (P : Params) : Obj := { cls := vT "tuple", data := Data.seq #[vS "self" 864, vS "path" 865] }
def o_623 (P : Params) : Obj := { cls := vT "tuple", data := Data.seq #[] }
def o_624 (P : Params) : Obj := { cls := vN, data := Data.func { name := sO "__init__", qualname := sO "NotFile.__init__", params := dA (inC (topS 27) 0), body := FuncBody.stmts (dB (inC (topS 27) 0)), scope := dS (inC (topS 27) 0), globals := 0, closure := [], defaults := vN, kwdefaults := vN } }
def o_625 (P : Params) : Obj := { cls := vT "code", data := dF #[vS "__init__" 860, vS "NotFile.__init__" 861, vS "/claim/cut.py" 862, vI 124 0, vI 2 0, vI 0 0, vI 0 0, vI 3 0, vR 532, Value.bool true, vI 181 0, vR 533, vN, vR 534, vR 535, vR 536, vI 866 0, vI 124 0, vS "/claim/cut.py" 867] }
def o_626 (P : Params) : Obj := { cls := vT "function", data := Data.func { name := sO "__init__", qualname := sO "NotFile.__init__", params := dA (inC (topS 27) 0), body := FuncBody.stmts (dB (inC (topS 27) 0)), scope := dS (inC (topS 27) 0), globals := 3, closure := [(sO "__class__", 526)], defaults := vN, kwdefaults := vN, pyModule := vS "filerights.errors" 194, code := vR 537, closureTuple := vR 531 } }
def o_627 (P : Params) : Obj := { cls := vT "tuple", data := Data.seq #[vS "path" 869] }
def o_628 (P : Params) : Obj := { cls := vT "dict", data := Data.dict #[{ hash := kH P (sO "__module__"), key := vS "__module__" 855, val := vS "filerights.errors" 194 }, { hash := kH P (sO "__firstlineno__"), key := vS "__firstlineno__" 859, val := vI 122 858 }, { hash := kH P (sO "__init__"), key := vS "__init__" 868, val := vR 538 }, { hash := kH P (sO "__static_attributes__"), key := vS "__static_attributes__" 870, val := vR 539 }, { hash := kH P (sO "__doc__"), key := vS "__doc__" 872, val := vN }] 3 }
def o_629 (P : Params) : Obj := { cls := vT "type", data := Data.cls { name := sO "NotFile", bases := [vR 57], mro := [vR 541, vR 57, vT "LookupError", vT "Exception", vT "BaseException", vT "object"], ns := 540, qualname := sO "NotFile" }, slots := #[some (vR 523), none, some (vS "NotFile" 848), some (vS "NotFile" 856), some (vB "LookupError.__new__"), some (Value.bool true)] }
def o_630 (P : Params) : Obj := { cls := vT "super", data := dF #[vR 541, vR 541, vR 541] }
def o_631 (P : Params) : Obj := { cls := vT "builtin_function_or_method", data := dF #[vB "object.__init_subclass__", vR 541] }
def o_636 (P : Params) : Obj := { cls := vT "tuple", data := Data.seq #[vR 57] }
def o_637 (P : Params) : Obj := { cls := vT "builtin_function_or_method", data := dF #[vB "type.__prepare__", vT "type"] }
def o_638 (P : Params) : Obj := { cls := vT "dict", data := Data.dict #[{ hash := kH P (sO "__module__"), key := vS "__module__" 882, val := vS "filerights.errors" 194 }, { hash := kH P (sO "__qualname__"), key := vS "__qualname__" 884, val := vS "NotEmpty" 883 }, { hash := kH P (sO "__firstlineno__"), key := vS "__firstlineno__" 886, val := vI 127 885 }, { hash := kH P (sO "__init__"), key := vS "__init__" 895, val := vR 559 }, { hash := kH P (sO "__static_attributes__"), key := vS "__static_attributes__" 897, val := vR 560 }, { hash := kH P (sO "__classcell__"), key := vS "__classcell__" 898, val := vR 547 }] 6 }
def o_639 (P : Params) : Obj := { cls := vT "cell", data := Data.cell (some (vR 562)) }
def o_640 (P : Params) : Obj := { cls := vT "tuple", data := Data.seq #[] }
def o_641 (P : Params) : Obj := { cls := vN, data := dF #[vI 129 0, vI 4 0, vR 558] }
def o_642 (P : Params) : Obj := { cls := vT "code", data := dF #[vS "NotEmpty" 877, vS "NotEmpty" 878, vS "/claim/cut.py" 879, vI 127 0, vI 0 0, vI 0 0, vI 0 0, vI 0 0, vR 548, Value.bool false, vI 181 0, vR 549, vN, vN, vN, vN, vI 880 0, vI 127 0, vS "/claim/cut.py" 881] }
def o_643 (P : Params) : Obj := { cls := vT "frame", slots := #[some (vR 550), some (vR 3), some (vR 546), none, some (vS "filerights.errors" 194), none, some (vR 0)] }
def o_644 (P : Params) : Obj := { cls := vT "tuple", data := Data.seq #[vR 547] }
def o_645 (P : Params) : Obj := { cls := vT "tuple", data := Data.seq #[vS "__class__" 890] }
def o_646 (P : Params) : Obj := { cls := vN, data := dF #[] }
def o_647 (P : Params) : Obj := { cls := vT "tuple", data := Data.seq #[vS "self" 891, vS "path" 892] }
def o_648 (P : Params) : Obj := { cls := vT "tuple", data := Data.seq #[] }
def o_649 (P : Params) : Obj := { cls := vN, data := Data.func { name := sO "__init__", qualname := sO "NotEmpty.__init__", params := dA (inC (topS 28) 0), body := FuncBody.stmts (dB (inC (topS 28) 0)), scope := dS (inC (topS 28) 0), globals := 0, closure := [], defaults := vN, kwdefaults := vN } }
def o_650 (P : Params) : Obj := { cls := vT "code", data := dF #[vS "__init__" 887, vS "NotEmpty.__init__" 888, vS "/claim/cut.py" 889, vI 129 0, vI 2 0, vI 0 0, vI 0 0, vI 3 0, vR 553, Value.bool true, vI 181 0, vR 554, vN, vR 555, vR 556, vR 557, vI 893 0, vI 129 0, vS "/claim/cut.py" 894] }
def o_651 (P : Params) : Obj := { cls := vT "function", data := Data.func { name := sO "__init__", qualname := sO "NotEmpty.__init__", params := dA (inC (topS 28) 0), body := FuncBody.stmts (dB (inC (topS 28) 0)), scope := dS (inC (topS 28) 0), globals := 3, closure := [(sO "__class__", 547)], defaults := vN, kwdefaults := vN, pyModule := vS "filerights.errors" 194, code := vR 558, closureTuple := vR 552 } }
def o_652 (P : Params) : Obj := { cls := vT "tuple", data := Data.seq #[vS "path" 896] }
def o_653 (P : Params) : Obj := { cls := vT "dict", data := Data.dict #[{ hash := kH P (sO "__module__"), key := vS "__module__" 882, val := vS "filerights.errors" 194 }, { hash := kH P (sO "__firstlineno__"), key := vS "__firstlineno__" 886, val := vI 127 885 }, { hash := kH P (sO "__init__"), key := vS "__init__" 895, val := vR 559 }, { hash := kH P (sO "__static_attributes__"), key := vS "__static_attributes__" 897, val := vR 560 }, { hash := kH P (sO "__doc__"), key := vS "__doc__" 899, val := vN }] 3 }
def o_654 (P : Params) : Obj := { cls := vT "type", data := Data.cls { name := sO "NotEmpty", bases := [vR 57], mro := [vR 562, vR 57, vT "LookupError", vT "Exception", vT "BaseException", vT "object"], ns := 561, qualname := sO "NotEmpty" }, slots := #[some (vR 544), none, some (vS "NotEmpty" 875), some (vS "NotEmpty" 883), some (vB "LookupError.__new__"), some (Value.bool true)] }
def o_655 (P : Params) : Obj := { cls := vT "super", data := dF #[vR 562, vR 562, vR 562] }
def o_656 (P : Params) : Obj := { cls := vT "builtin_function_or_method", data := dF #[vB "object.__init_subclass__", vR 562] }
def o_661 (P : Params) : Obj := { cls := vT "tuple", data := Data.seq #[vR 57] }
def o_662 (P : Params) : Obj := { cls := vT "builtin_function_or_method", data := dF #[vB "type.__prepare__", vT "type"] }
def o_663 (P : Params) : Obj := { cls := vT "dict", data := Data.dict #[{ hash := kH P (sO "__module__"), key := vS "__module__" 909, val := vS "filerights.errors" 194 }, { hash := kH P (sO "__qualname__"), key := vS "__qualname__" 911, val := vS "Inside" 910 }, { hash := kH P (sO "__firstlineno__"), key := vS "__firstlineno__" 913, val := vI 132 912 }, { hash := kH P (sO "__init__"), key := vS "__init__" 922, val := vR 580 }, { hash := kH P (sO "__static_attributes__"), key := vS "__static_attributes__" 924, val := vR 581 }, { hash := kH P (sO "__classcell__"), key := vS "__classcell__" 925, val := vR 568 }] 6 }
def o_664 (P : Params) : Obj := { cls := vT "cell", data := Data.cell (some (vR 583)) }
def o_665 (P : Params) : Obj := { cls := vT "tuple", data := Data.seq #[] }
def o_666 (P : Params) : Obj := { cls := vN, data := dF #[vI 134 0, vI 4 0, vR 579] }
def o_667 (P : Params) : Obj := { cls := vT "code", data := dF #[vS "Inside" 904, vS "Inside" 905, vS "/claim/cut.py" 906, vI 132 0, vI 0 0, vI 0 0, vI 0 0, vI 0 0, vR 569, Value.bool false, vI 181 0, vR 570, vN, vN, vN, vN, vI 907 0, vI 132 0, vS "/claim/cut.py" 908] }
def o_668 (P : Params) : Obj := { cls := vT "frame", slots := #[some (vR 571), some (vR 3), some (vR 567), none, some (vS "filerights.errors" 194), none, some (vR 0)] }
def o_669 (P : Params) : Obj := { cls := vT "tuple", data := Data.seq #[vR 568] }
def o_670 (P : Params) : Obj := { cls := vT "tuple", data := Data.seq #[vS "__class__" 917] }
def o_671 (P : Params) : Obj := { cls := vN, data := dF #[] }
def o_672 (P : Params) : Obj := { cls := vT "tuple", data := Data.seq #[vS "self" 918, vS "path" 919] }
def o_673 (P : Params) : Obj := { cls := vT "tuple", data := Data.seq #[] }
def o_674 (P : Params) : Obj := { cls := vN, data := Data.func { name := sO "__init__", qualname := sO "Inside.__init__", params := dA (inC (topS 29) 0), body := FuncBody.stmts (dB (inC (topS 29) 0)), scope := dS (inC (topS 29) 0), globals := 0, closure := [], defaults := vN, kwdefaults := vN } }
def o_675 (P : Params) : Obj := { cls := vT "code", data := dF #[vS "__init__" 914, vS "Inside.__init__" 915, vS "/claim/cut.py" 916, vI 134 0, vI 2 0, vI 0 0, vI 0 0, vI 3 0, vR 574, Value.bool true, vI 181 0, vR 575, vN, vR 576, vR 577, vR 578, vI 920 0, vI 134 0, vS "/claim/cut.py" 921] }
def o_676 (P : Params) : Obj := { cls := vT "function", data := Data.func { name := sO "__init__", qualname := sO "Inside.__init__", params := dA (inC (topS 29) 0), body := FuncBody.stmts (dB (inC (topS 29) 0)), scope := dS (inC (topS 29) 0), globals := 3, closure := [(sO "__class__", 568)], defaults := vN, kwdefaults := vN, pyModule := vS "filerights.errors" 194, code := vR 579, closureTuple := vR 573 } }
def o_677 (P : Params) : Obj := { cls := vT "tuple", data := Data.seq #[vS "path" 923] }
def o_678 (P : Params) : Obj := { cls := vT "dict", data := Data.dict #[{ hash := kH P (sO "__module__"), key := vS "__module__" 909, val := vS "filerights.errors" 194 }, { hash := kH P (sO "__firstlineno__"), key := vS "__firstlineno__" 913, val := vI 132 912 }, { hash := kH P (sO "__init__"), key := vS "__init__" 922, val := vR 580 }, { hash := kH P (sO "__static_attributes__"), key := vS "__static_attributes__" 924, val := vR 581 }, { hash := kH P (sO "__doc__"), key := vS "__doc__" 926, val := vN }] 3 }
def o_679 (P : Params) : Obj := { cls := vT "type", data := Data.cls { name := sO "Inside", bases := [vR 57], mro := [vR 583, vR 57, vT "LookupError", vT "Exception", vT "BaseException", vT "object"], ns := 582, qualname := sO "Inside" }, slots := #[some (vR 565), none, some (vS "Inside" 902), some (vS "Inside" 910), some (vB "LookupError.__new__"), some (Value.bool true)] }
def o_680 (P : Params) : Obj := { cls := vT "super", data := dF #[vR 583, vR 583, vR 583] }
def o_681 (P : Params) : Obj := { cls := vT "builtin_function_or_method", data := dF #[vB "object.__init_subclass__", vR 583] }
def o_683 (P : Params) : Obj := { cls := vT "dict", data := Data.dict #[{ hash := kH P (sO "__name__"), key := vS "__name__" 165, val := vS "filerights.errors" 194 }, { hash := kH P (sO "__doc__"), key := vS "__doc__" 166, val := vN }, { hash := kH P (sO "__package__"), key := vS "__package__" 167, val := vN }, { hash := kH P (sO "__loader__"), key := vS "__loader__" 168, val := vB "__main__.__loader__#opaque" }, { hash := kH P (sO "__spec__"), key := vS "__spec__" 169, val := vN }, { hash := kH P (sO "__annotations__"), key := vS "__annotations__" 170, val := vR 6 }, { hash := kH P (sO "__builtins__"), key := vS "__builtins__" 171, val := vR 4 }, { hash := kH P (sO "__file__"), key := vS "__file__" 173, val := vS "/claim/cut.py" 172 }, { hash := kH P (sO "__cached__"), key := vS "__cached__" 174, val := vN }, { hash := kH P (sO "_wall"), key := vS "_wall" 193, val := vR 21 }, { hash := kH P (sO "RightsError"), key := vS "RightsError" 213, val := vR 31 }, { hash := kH P (sO "MissingError"), key := vS "MissingError" 233, val := vR 44 }, { hash := kH P (sO "RefusedError"), key := vS "RefusedError" 251, val := vR 57 }, { hash := kH P (sO "InvalidInteger"), key := vS "InvalidInteger" 278, val := vR 79 }, { hash := kH P (sO "InvalidName"), key := vS "InvalidName" 305, val := vR 100 }, { hash := kH P (sO "InvalidPath"), key := vS "InvalidPath" 332, val := vR 121 }, { hash := kH P (sO "InvalidRights"), key := vS "InvalidRights" 359, val := vR 142 }, { hash := kH P (sO "InvalidDigits"), key := vS "InvalidDigits" 386, val := vR 163 }, { hash := kH P (sO "InvalidList"), key := vS "InvalidList" 413, val := vR 184 }, { hash := kH P (sO "InvalidPeople"), key := vS "InvalidPeople" 440, val := vR 205 }, { hash := kH P (sO "InvalidNode"), key := vS "InvalidNode" 467, val := vR 226 }, { hash := kH P (sO "InvalidHouse"), key := vS "InvalidHouse" 494, val := vR 247 }, { hash := kH P (sO "InvalidContent"), key := vS "InvalidContent" 521, val := vR 268 }, { hash := kH P (sO "InvalidDeed"), key := vS "InvalidDeed" 548, val := vR 289 }, { hash := kH P (sO "TooMany"), key := vS "TooMany" 575, val := vR 310 }, { hash := kH P (sO "Ground"), key := vS "Ground" 602, val := vR 331 }, { hash := kH P (sO "UnknownUser"), key := vS "UnknownUser" 629, val := vR 352 }, { hash := kH P (sO "UnknownGroup"), key := vS "UnknownGroup" 656, val := vR 373 }, { hash := kH P (sO "UnknownEntry"), key := vS "UnknownEntry" 683, val := vR 394 }, { hash := kH P (sO "Absent"), key := vS "Absent" 710, val := vR 415 }, { hash := kH P (sO "Denied"), key := vS "Denied" 739, val := vR 436 }, { hash := kH P (sO "NotOwner"), key := vS "NotOwner" 766, val := vR 457 }, { hash := kH P (sO "Held"), key := vS "Held" 793, val := vR 478 }, { hash := kH P (sO "Taken"), key := vS "Taken" 820, val := vR 499 }, { hash := kH P (sO "NotFolder"), key := vS "NotFolder" 847, val := vR 520 }, { hash := kH P (sO "NotFile"), key := vS "NotFile" 874, val := vR 541 }, { hash := kH P (sO "NotEmpty"), key := vS "NotEmpty" 901, val := vR 562 }, { hash := kH P (sO "Inside"), key := vS "Inside" 928, val := vR 583 }, { hash := kH P (sO "NotMember"), key := vS "NotMember" 955, val := vR 604 }] 39 }
def o_684 (P : Params) : Obj := { cls := vN, data := dF #[vI 1 0, vI 0 0, vR 20, vI 5 0, vI 0 0, vR 27, vI 7 0, vI 0 0, vR 40, vI 9 0, vI 0 0, vR 53, vI 11 0, vI 0 0, vR 67, vI 16 0, vI 0 0, vR 88, vI 21 0, vI 0 0, vR 109, vI 26 0, vI 0 0, vR 130, vI 31 0, vI 0 0, vR 151, vI 36 0, vI 0 0, vR 172, vI 41 0, vI 0 0, vR 193, vI 46 0, vI 0 0, vR 214, vI 51 0, vI 0 0, vR 235, vI 56 0, vI 0 0, vR 256, vI 61 0, vI 0 0, vR 277, vI 66 0, vI 0 0, vR 298, vI 71 0, vI 0 0, vR 319, vI 76 0, vI 0 0, vR 340, vI 81 0, vI 0 0, vR 361, vI 86 0, vI 0 0, vR 382, vI 91 0, vI 0 0, vR 403, vI 96 0, vI 0 0, vR 424, vI 102 0, vI 0 0, vR 445, vI 107 0, vI 0 0, vR 466, vI 112 0, vI 0 0, vR 487, vI 117 0, vI 0 0, vR 508, vI 122 0, vI 0 0, vR 529, vI 127 0, vI 0 0, vR 550, vI 132 0, vI 0 0, vR 571, vI 137 0, vI 0 0, vR 592] }
def o_685 (P : Params) : Obj := { cls := vT "type", data := Data.cls { name := sO "RefusedError", bases := [vT "LookupError"], mro := [vR 57, vT "LookupError", vT "Exception", vT "BaseException", vT "object"], ns := 56, qualname := sO "RefusedError", subclasses := [vR 436, vR 457, vR 478, vR 499, vR 520, vR 541, vR 562, vR 583, vR 604] }, slots := #[some (vR 48), none, some (vS "RefusedError" 234), some (vS "RefusedError" 242), some (vB "LookupError.__new__"), some (Value.bool true)] }
def o_686 (P : Params) : Obj := { cls := vT "tuple", data := Data.seq #[vR 57] }
def o_687 (P : Params) : Obj := { cls := vT "builtin_function_or_method", data := dF #[vB "type.__prepare__", vT "type"] }
def o_688 (P : Params) : Obj := { cls := vT "dict", data := Data.dict #[{ hash := kH P (sO "__module__"), key := vS "__module__" 936, val := vS "filerights.errors" 194 }, { hash := kH P (sO "__qualname__"), key := vS "__qualname__" 938, val := vS "NotMember" 937 }, { hash := kH P (sO "__firstlineno__"), key := vS "__firstlineno__" 940, val := vI 137 939 }, { hash := kH P (sO "__init__"), key := vS "__init__" 949, val := vR 601 }, { hash := kH P (sO "__static_attributes__"), key := vS "__static_attributes__" 951, val := vR 602 }, { hash := kH P (sO "__classcell__"), key := vS "__classcell__" 952, val := vR 589 }] 6 }
def o_689 (P : Params) : Obj := { cls := vT "cell", data := Data.cell (some (vR 604)) }
def o_690 (P : Params) : Obj := { cls := vT "tuple", data := Data.seq #[] }
def o_691 (P : Params) : Obj := { cls := vN, data := dF #[vI 139 0, vI 4 0, vR 600] }
def o_692 (P : Params) : Obj := { cls := vT "code", data := dF #[vS "NotMember" 931, vS "NotMember" 932, vS "/claim/cut.py" 933, vI 137 0, vI 0 0, vI 0 0, vI 0 0, vI 0 0, vR 590, Value.bool false, vI 181 0, vR 591, vN, vN, vN, vN, vI 934 0, vI 137 0, vS "/claim/cut.py" 935] }
def o_693 (P : Params) : Obj := { cls := vT "frame", slots := #[some (vR 592), some (vR 3), some (vR 588), none, some (vS "filerights.errors" 194), none, some (vR 0)] }
def o_694 (P : Params) : Obj := { cls := vT "tuple", data := Data.seq #[vR 589] }
def o_695 (P : Params) : Obj := { cls := vT "tuple", data := Data.seq #[vS "__class__" 944] }
def o_696 (P : Params) : Obj := { cls := vN, data := dF #[] }
def o_697 (P : Params) : Obj := { cls := vT "tuple", data := Data.seq #[vS "self" 945, vS "name" 946] }
def o_698 (P : Params) : Obj := { cls := vT "tuple", data := Data.seq #[] }
def o_699 (P : Params) : Obj := { cls := vN, data := Data.func { name := sO "__init__", qualname := sO "NotMember.__init__", params := dA (inC (topS 30) 0), body := FuncBody.stmts (dB (inC (topS 30) 0)), scope := dS (inC (topS 30) 0), globals := 0, closure := [], defaults := vN, kwdefaults := vN } }
def o_700 (P : Params) : Obj := { cls := vT "code", data := dF #[vS "__init__" 941, vS "NotMember.__init__" 942, vS "/claim/cut.py" 943, vI 139 0, vI 2 0, vI 0 0, vI 0 0, vI 3 0, vR 595, Value.bool true, vI 181 0, vR 596, vN, vR 597, vR 598, vR 599, vI 947 0, vI 139 0, vS "/claim/cut.py" 948] }
def o_701 (P : Params) : Obj := { cls := vT "function", data := Data.func { name := sO "__init__", qualname := sO "NotMember.__init__", params := dA (inC (topS 30) 0), body := FuncBody.stmts (dB (inC (topS 30) 0)), scope := dS (inC (topS 30) 0), globals := 3, closure := [(sO "__class__", 589)], defaults := vN, kwdefaults := vN, pyModule := vS "filerights.errors" 194, code := vR 600, closureTuple := vR 594 } }
def o_702 (P : Params) : Obj := { cls := vT "tuple", data := Data.seq #[vS "name" 950] }
def o_703 (P : Params) : Obj := { cls := vT "dict", data := Data.dict #[{ hash := kH P (sO "__module__"), key := vS "__module__" 936, val := vS "filerights.errors" 194 }, { hash := kH P (sO "__firstlineno__"), key := vS "__firstlineno__" 940, val := vI 137 939 }, { hash := kH P (sO "__init__"), key := vS "__init__" 949, val := vR 601 }, { hash := kH P (sO "__static_attributes__"), key := vS "__static_attributes__" 951, val := vR 602 }, { hash := kH P (sO "__doc__"), key := vS "__doc__" 953, val := vN }] 3 }
def o_704 (P : Params) : Obj := { cls := vT "type", data := Data.cls { name := sO "NotMember", bases := [vR 57], mro := [vR 604, vR 57, vT "LookupError", vT "Exception", vT "BaseException", vT "object"], ns := 603, qualname := sO "NotMember" }, slots := #[some (vR 586), none, some (vS "NotMember" 929), some (vS "NotMember" 937), some (vB "LookupError.__new__"), some (Value.bool true)] }
def o_705 (P : Params) : Obj := { cls := vT "super", data := dF #[vR 604, vR 604, vR 604] }
def o_706 (P : Params) : Obj := { cls := vT "builtin_function_or_method", data := dF #[vB "object.__init_subclass__", vR 604] }
noncomputable def tree1 (P : Params) : W.BT := nd (W.boot_o_0 P) (nd (W.boot_o_1 P) (nd (o_683 P) (nd (W.boot_o_7 P) (nd (o_7 P) (nd (o_360 P) (nd (o_63 P) (nd (o_139 P) (nd (o_291 P) (nd (o_595 P) nl nl) nl) (nd (o_443 P) nl nl)) (nd (o_215 P) (nd (o_367 P) (nd (o_671 P) nl nl) nl) (nd (o_519 P) nl nl))) (nd (o_99 P) (nd (o_175 P) (nd (o_327 P) (nd (o_631 P) nl nl) nl) (nd (o_479 P) nl nl)) (nd (o_251 P) (nd (o_403 P) nl nl) (nd (o_555 P) nl nl)))) (nd (o_43 P) (nd (o_79 P) (nd (o_155 P) (nd (o_311 P) (nd (o_615 P) nl nl) nl) (nd (o_463 P) nl nl)) (nd (o_231 P) (nd (o_387 P) (nd (o_691 P) nl nl) nl) (nd (o_539 P) nl nl))) (nd (o_119 P) (nd (o_195 P) (nd (o_347 P) (nd (o_651 P) nl nl) nl) (nd (o_499 P) nl nl)) (nd (o_271 P) (nd (o_423 P) nl nl) (nd (o_575 P) nl nl))))) (nd (o_15 P) (nd (o_35 P) (nd (o_71 P) (nd (o_147 P) (nd (o_299 P) (nd (o_603 P) nl nl) nl) (nd (o_451 P) nl nl)) (nd (o_223 P) (nd (o_375 P) (nd (o_679 P) nl nl) nl) (nd (o_527 P) nl nl))) (nd (o_111 P) (nd (o_187 P) (nd (o_339 P) (nd (o_643 P) nl nl) nl) (nd (o_491 P) nl nl)) (nd (o_263 P) (nd (o_415 P) nl nl) (nd (o_567 P) nl nl)))) (nd (o_51 P) (nd (o_91 P) (nd (o_167 P) (nd (o_319 P) (nd (o_623 P) nl nl) nl) (nd (o_471 P) nl nl)) (nd (o_243 P) (nd (o_395 P) (nd (o_699 P) nl nl) nl) (nd (o_547 P) nl nl))) (nd (o_127 P) (nd (o_203 P) (nd (o_355 P) (nd (o_663 P) nl nl) nl) (nd (o_511 P) nl nl)) (nd (o_279 P) (nd (o_431 P) nl nl) (nd (o_587 P) nl nl)))))) (nd (o_1 P) (nd (o_11 P) (nd (o_31 P) (nd (o_67 P) (nd (o_143 P) (nd (o_295 P) (nd (o_599 P) nl nl) nl) (nd (o_447 P) nl nl)) (nd (o_219 P) (nd (o_371 P) (nd (o_675 P) nl nl) nl) (nd (o_523 P) nl nl))) (nd (o_103 P) (nd (o_179 P) (nd (o_331 P) (nd (o_639 P) nl nl) nl) (nd (o_487 P) nl nl)) (nd (o_255 P) (nd (o_411 P) nl nl) (nd (o_563 P) nl nl)))) (nd (o_47 P) (nd (o_87 P) (nd (o_163 P) (nd (o_315 P) (nd (o_619 P) nl nl) nl) (nd (o_467 P) nl nl)) (nd (o_239 P) (nd (o_391 P) (nd (o_695 P) nl nl) nl) (nd (o_543 P) nl nl))) (nd (o_123 P) (nd (o_199 P) (nd (o_351 P) (nd (o_655 P) nl nl) nl) (nd (o_503 P) nl nl)) (nd (o_275 P) (nd (o_427 P) nl nl) (nd (o_579 P) nl nl))))) (nd (o_19 P) (nd (o_39 P) (nd (o_75 P) (nd (o_151 P) (nd (o_303 P) (nd (o_611 P) nl nl) nl) (nd (o_455 P) nl nl)) (nd (o_227 P) (nd (o_379 P) (nd (o_687 P) nl nl) nl) (nd (o_531 P) nl nl))) (nd (o_115 P) (nd (o_191 P) (nd (o_343 P) (nd (o_647 P) nl nl) nl) (nd (o_495 P) nl nl)) (nd (o_267 P) (nd (o_419 P) nl nl) (nd (o_571 P) nl nl)))) (nd (o_55 P) (nd (o_95 P) (nd (o_171 P) (nd (o_323 P) (nd (o_627 P) nl nl) nl) (nd (o_475 P) nl nl)) (nd (o_247 P) (nd (o_399 P) (nd (o_703 P) nl nl) nl) (nd (o_551 P) nl nl))) (nd (o_131 P) (nd (o_211 P) (nd (o_363 P) (nd (o_667 P) nl nl) nl) (nd (o_515 P) nl nl)) (nd (o_287 P) (nd (o_439 P) nl nl) (nd (o_591 P) nl nl))))))) (nd (W.boot_o_5 P) (nd (W.boot_o_9 P) (nd (o_9 P) (nd (o_25 P) (nd (o_65 P) (nd (o_141 P) (nd (o_293 P) (nd (o_597 P) nl nl) nl) (nd (o_445 P) nl nl)) (nd (o_217 P) (nd (o_369 P) (nd (o_673 P) nl nl) nl) (nd (o_521 P) nl nl))) (nd (o_101 P) (nd (o_177 P) (nd (o_329 P) (nd (o_637 P) nl nl) nl) (nd (o_481 P) nl nl)) (nd (o_253 P) (nd (o_405 P) nl nl) (nd (o_561 P) nl nl)))) (nd (o_45 P) (nd (o_81 P) (nd (o_161 P) (nd (o_313 P) (nd (o_617 P) nl nl) nl) (nd (o_465 P) nl nl)) (nd (o_237 P) (nd (o_389 P) (nd (o_693 P) nl nl) nl) (nd (o_541 P) nl nl))) (nd (o_121 P) (nd (o_197 P) (nd (o_349 P) (nd (o_653 P) nl nl) nl) (nd (o_501 P) nl nl)) (nd (o_273 P) (nd (o_425 P) nl nl) (nd (o_577 P) nl nl))))) (nd (o_17 P) (nd (o_37 P) (nd (o_73 P) (nd (o_149 P) (nd (o_301 P) (nd (o_605 P) nl nl) nl) (nd (o_453 P) nl nl)) (nd (o_225 P) (nd (o_377 P) (nd (o_681 P) nl nl) nl) (nd (o_529 P) nl nl))) (nd (o_113 P) (nd (o_189 P) (nd (o_341 P) (nd (o_645 P) nl nl) nl) (nd (o_493 P) nl nl)) (nd (o_265 P) (nd (o_417 P) nl nl) (nd (o_569 P) nl nl)))) (nd (o_685 P) (nd (o_93 P) (nd (o_169 P) (nd (o_321 P) (nd (o_625 P) nl nl) nl) (nd (o_473 P) nl nl)) (nd (o_245 P) (nd (o_397 P) (nd (o_701 P) nl nl) nl) (nd (o_549 P) nl nl))) (nd (o_129 P) (nd (o_205 P) (nd (o_361 P) (nd (o_665 P) nl nl) nl) (nd (o_513 P) nl nl)) (nd (o_281 P) (nd (o_437 P) nl nl) (nd (o_589 P) nl nl)))))) (nd (o_3 P) (nd (o_13 P) (nd (o_33 P) (nd (o_69 P) (nd (o_145 P) (nd (o_297 P) (nd (o_601 P) nl nl) nl) (nd (o_449 P) nl nl)) (nd (o_221 P) (nd (o_373 P) (nd (o_677 P) nl nl) nl) (nd (o_525 P) nl nl))) (nd (o_105 P) (nd (o_181 P) (nd (o_337 P) (nd (o_641 P) nl nl) nl) (nd (o_489 P) nl nl)) (nd (o_261 P) (nd (o_413 P) nl nl) (nd (o_565 P) nl nl)))) (nd (o_49 P) (nd (o_89 P) (nd (o_165 P) (nd (o_317 P) (nd (o_621 P) nl nl) nl) (nd (o_469 P) nl nl)) (nd (o_241 P) (nd (o_393 P) (nd (o_697 P) nl nl) nl) (nd (o_545 P) nl nl))) (nd (o_125 P) (nd (o_201 P) (nd (o_353 P) (nd (o_661 P) nl nl) nl) (nd (o_505 P) nl nl)) (nd (o_277 P) (nd (o_429 P) nl nl) (nd (o_581 P) nl nl))))) (nd (o_21 P) (nd (o_41 P) (nd (o_77 P) (nd (o_153 P) (nd (o_305 P) (nd (o_613 P) nl nl) nl) (nd (o_461 P) nl nl)) (nd (o_229 P) (nd (o_381 P) (nd (o_689 P) nl nl) nl) (nd (o_537 P) nl nl))) (nd (o_117 P) (nd (o_193 P) (nd (o_345 P) (nd (o_649 P) nl nl) nl) (nd (o_497 P) nl nl)) (nd (o_269 P) (nd (o_421 P) nl nl) (nd (o_573 P) nl nl)))) (nd (o_61 P) (nd (o_97 P) (nd (o_173 P) (nd (o_325 P) (nd (o_629 P) nl nl) nl) (nd (o_477 P) nl nl)) (nd (o_249 P) (nd (o_401 P) (nd (o_705 P) nl nl) nl) (nd (o_553 P) nl nl))) (nd (o_137 P) (nd (o_213 P) (nd (o_365 P) (nd (o_669 P) nl nl) nl) (nd (o_517 P) nl nl)) (nd (o_289 P) (nd (o_441 P) nl nl) (nd (o_593 P) nl nl)))))))) (nd (o_28 P) (nd (W.boot_o_4 P) (nd (W.boot_o_8 P) (nd (o_8 P) (nd (o_24 P) (nd (o_64 P) (nd (o_140 P) (nd (o_292 P) (nd (o_596 P) nl nl) nl) (nd (o_444 P) nl nl)) (nd (o_216 P) (nd (o_368 P) (nd (o_672 P) nl nl) nl) (nd (o_520 P) nl nl))) (nd (o_100 P) (nd (o_176 P) (nd (o_328 P) (nd (o_636 P) nl nl) nl) (nd (o_480 P) nl nl)) (nd (o_252 P) (nd (o_404 P) nl nl) (nd (o_556 P) nl nl)))) (nd (o_44 P) (nd (o_80 P) (nd (o_156 P) (nd (o_312 P) (nd (o_616 P) nl nl) nl) (nd (o_464 P) nl nl)) (nd (o_236 P) (nd (o_388 P) (nd (o_692 P) nl nl) nl) (nd (o_540 P) nl nl))) (nd (o_120 P) (nd (o_196 P) (nd (o_348 P) (nd (o_652 P) nl nl) nl) (nd (o_500 P) nl nl)) (nd (o_272 P) (nd (o_424 P) nl nl) (nd (o_576 P) nl nl))))) (nd (o_16 P) (nd (o_36 P) (nd (o_72 P) (nd (o_148 P) (nd (o_300 P) (nd (o_604 P) nl nl) nl) (nd (o_452 P) nl nl)) (nd (o_224 P) (nd (o_376 P) (nd (o_680 P) nl nl) nl) (nd (o_528 P) nl nl))) (nd (o_112 P) (nd (o_188 P) (nd (o_340 P) (nd (o_644 P) nl nl) nl) (nd (o_492 P) nl nl)) (nd (o_264 P) (nd (o_416 P) nl nl) (nd (o_568 P) nl nl)))) (nd (o_52 P) (nd (o_92 P) (nd (o_168 P) (nd (o_320 P) (nd (o_624 P) nl nl) nl) (nd (o_472 P) nl nl)) (nd (o_244 P) (nd (o_396 P) (nd (o_700 P) nl nl) nl) (nd (o_548 P) nl nl))) (nd (o_128 P) (nd (o_204 P) (nd (o_356 P) (nd (o_664 P) nl nl) nl) (nd (o_512 P) nl nl)) (nd (o_280 P) (nd (o_436 P) nl nl) (nd (o_588 P) nl nl)))))) (nd (o_684 P) (nd (o_12 P) (nd (o_32 P) (nd (o_68 P) (nd (o_144 P) (nd (o_296 P) (nd (o_600 P) nl nl) nl) (nd (o_448 P) nl nl)) (nd (o_220 P) (nd (o_372 P) (nd (o_676 P) nl nl) nl) (nd (o_524 P) nl nl))) (nd (o_104 P) (nd (o_180 P) (nd (o_336 P) (nd (o_640 P) nl nl) nl) (nd (o_488 P) nl nl)) (nd (o_256 P) (nd (o_412 P) nl nl) (nd (o_564 P) nl nl)))) (nd (o_48 P) (nd (o_88 P) (nd (o_164 P) (nd (o_316 P) (nd (o_620 P) nl nl) nl) (nd (o_468 P) nl nl)) (nd (o_240 P) (nd (o_392 P) (nd (o_696 P) nl nl) nl) (nd (o_544 P) nl nl))) (nd (o_124 P) (nd (o_200 P) (nd (o_352 P) (nd (o_656 P) nl nl) nl) (nd (o_504 P) nl nl)) (nd (o_276 P) (nd (o_428 P) nl nl) (nd (o_580 P) nl nl))))) (nd (o_20 P) (nd (o_460 P) (nd (o_76 P) (nd (o_152 P) (nd (o_304 P) (nd (o_612 P) nl nl) nl) (nd (o_456 P) nl nl)) (nd (o_228 P) (nd (o_380 P) (nd (o_688 P) nl nl) nl) (nd (o_536 P) nl nl))) (nd (o_116 P) (nd (o_192 P) (nd (o_344 P) (nd (o_648 P) nl nl) nl) (nd (o_496 P) nl nl)) (nd (o_268 P) (nd (o_420 P) nl nl) (nd (o_572 P) nl nl)))) (nd (o_56 P) (nd (o_96 P) (nd (o_172 P) (nd (o_324 P) (nd (o_628 P) nl nl) nl) (nd (o_476 P) nl nl)) (nd (o_248 P) (nd (o_400 P) (nd (o_704 P) nl nl) nl) (nd (o_552 P) nl nl))) (nd (o_136 P) (nd (o_212 P) (nd (o_364 P) (nd (o_668 P) nl nl) nl) (nd (o_516 P) nl nl)) (nd (o_288 P) (nd (o_440 P) nl nl) (nd (o_592 P) nl nl))))))) (nd (W.boot_o_6 P) (nd (W.boot_o_10 P) (nd (o_10 P) (nd (o_26 P) (nd (o_66 P) (nd (o_142 P) (nd (o_294 P) (nd (o_598 P) nl nl) nl) (nd (o_446 P) nl nl)) (nd (o_218 P) (nd (o_370 P) (nd (o_674 P) nl nl) nl) (nd (o_522 P) nl nl))) (nd (o_102 P) (nd (o_178 P) (nd (o_330 P) (nd (o_638 P) nl nl) nl) (nd (o_486 P) nl nl)) (nd (o_254 P) (nd (o_406 P) nl nl) (nd (o_562 P) nl nl)))) (nd (o_46 P) (nd (o_86 P) (nd (o_162 P) (nd (o_314 P) (nd (o_618 P) nl nl) nl) (nd (o_466 P) nl nl)) (nd (o_238 P) (nd (o_390 P) (nd (o_694 P) nl nl) nl) (nd (o_542 P) nl nl))) (nd (o_122 P) (nd (o_198 P) (nd (o_350 P) (nd (o_654 P) nl nl) nl) (nd (o_502 P) nl nl)) (nd (o_274 P) (nd (o_426 P) nl nl) (nd (o_578 P) nl nl))))) (nd (o_18 P) (nd (o_38 P) (nd (o_74 P) (nd (o_150 P) (nd (o_302 P) (nd (o_606 P) nl nl) nl) (nd (o_454 P) nl nl)) (nd (o_226 P) (nd (o_378 P) (nd (o_686 P) nl nl) nl) (nd (o_530 P) nl nl))) (nd (o_114 P) (nd (o_190 P) (nd (o_342 P) (nd (o_646 P) nl nl) nl) (nd (o_494 P) nl nl)) (nd (o_266 P) (nd (o_418 P) nl nl) (nd (o_570 P) nl nl)))) (nd (o_54 P) (nd (o_94 P) (nd (o_170 P) (nd (o_322 P) (nd (o_626 P) nl nl) nl) (nd (o_474 P) nl nl)) (nd (o_246 P) (nd (o_398 P) (nd (o_702 P) nl nl) nl) (nd (o_550 P) nl nl))) (nd (o_130 P) (nd (o_206 P) (nd (o_362 P) (nd (o_666 P) nl nl) nl) (nd (o_514 P) nl nl)) (nd (o_286 P) (nd (o_438 P) nl nl) (nd (o_590 P) nl nl)))))) (nd (o_4 P) (nd (o_14 P) (nd (o_34 P) (nd (o_70 P) (nd (o_146 P) (nd (o_298 P) (nd (o_602 P) nl nl) nl) (nd (o_450 P) nl nl)) (nd (o_222 P) (nd (o_374 P) (nd (o_678 P) nl nl) nl) (nd (o_526 P) nl nl))) (nd (o_106 P) (nd (o_186 P) (nd (o_338 P) (nd (o_642 P) nl nl) nl) (nd (o_490 P) nl nl)) (nd (o_262 P) (nd (o_414 P) nl nl) (nd (o_566 P) nl nl)))) (nd (o_50 P) (nd (o_90 P) (nd (o_166 P) (nd (o_318 P) (nd (o_622 P) nl nl) nl) (nd (o_470 P) nl nl)) (nd (o_242 P) (nd (o_394 P) (nd (o_698 P) nl nl) nl) (nd (o_546 P) nl nl))) (nd (o_126 P) (nd (o_202 P) (nd (o_354 P) (nd (o_662 P) nl nl) nl) (nd (o_506 P) nl nl)) (nd (o_278 P) (nd (o_430 P) nl nl) (nd (o_586 P) nl nl))))) (nd (o_22 P) (nd (o_42 P) (nd (o_78 P) (nd (o_154 P) (nd (o_306 P) (nd (o_614 P) nl nl) nl) (nd (o_462 P) nl nl)) (nd (o_230 P) (nd (o_386 P) (nd (o_690 P) nl nl) nl) (nd (o_538 P) nl nl))) (nd (o_118 P) (nd (o_194 P) (nd (o_346 P) (nd (o_650 P) nl nl) nl) (nd (o_498 P) nl nl)) (nd (o_270 P) (nd (o_422 P) nl nl) (nd (o_574 P) nl nl)))) (nd (o_62 P) (nd (o_98 P) (nd (o_174 P) (nd (o_326 P) (nd (o_630 P) nl nl) nl) (nd (o_478 P) nl nl)) (nd (o_250 P) (nd (o_402 P) (nd (o_706 P) nl nl) nl) (nd (o_554 P) nl nl))) (nd (o_138 P) (nd (o_214 P) (nd (o_366 P) (nd (o_670 P) nl nl) nl) (nd (o_518 P) nl nl)) (nd (o_290 P) (nd (o_442 P) nl nl) (nd (o_594 P) nl nl))))))))
abbrev PR : Program := PySem.Challenge.pw_filerights_k37_whole_numbers_of_copies
def env1 : Env := { scope := PR.main.scope, locals := mainNs, globals := mainNs, cells := [], code := .ref 13, frame := some 14 }
def thr1 : Thread := restOf (PR.main.body.drop 31) env1 (.body (behindTheImports PR) env1) { line := 137, col := 0, endLine := 141, endCol := 24 } [topFrame { line := 0, col := 0, endLine := 0, endCol := 0 }]
noncomputable def st1 (w : World) (os : OsState) : SharedT := { tree := tree1 w.params, n := 607, life := {}, gens := #[], drawn := {}, toks := 956, os := os }
end K37H
end
section
set_option Elab.async false
set_option linter.all false
set_option maxRecDepth 100000
set_option maxHeartbeats 0
/-! H2: the state behind the 64th statement of the top (printed by gen_state2.py). -/
namespace K37H
open PySem PySem.W PySem.Calls PyProof.Rows HandSHeadRun
def o_707 (P : Params) : Obj := { cls := vT "dict", data := Data.dict #[{ hash := kH P (sO "r"), key := vS "r" 960, val := vI 4 961 }, { hash := kH P (sO "w"), key := vS "w" 962, val := vI 2 963 }, { hash := kH P (sO "x"), key := vS "x" 964, val := vI 1 965 }] 3 }
def o_708 (P : Params) : Obj := { cls := vT "tuple", data := Data.seq #[vS "" 970, vS "x" 971, vS "w" 972, vS "wx" 973, vS "r" 974, vS "rx" 975, vS "rw" 976, vS "rwx" 977] }
def o_709 (P : Params) : Obj := { cls := vT "tuple", data := Data.seq #[] }
def o_710 (P : Params) : Obj := { cls := vN, data := dF #[] }
def o_711 (P : Params) : Obj := { cls := vT "tuple", data := Data.seq #[vS "text" 982, vS "found" 983, vS "letter" 984, vS "bit" 985] }
def o_712 (P : Params) : Obj := { cls := vT "tuple", data := Data.seq #[] }
def o_713 (P : Params) : Obj := { cls := vN, data := Data.func { name := sO "digit_of", qualname := sO "digit_of", params := dA (topS 35), body := FuncBody.stmts (dB (topS 35)), scope := dS (topS 35), globals := 0, closure := [], defaults := vN, kwdefaults := vN } }
def o_714 (P : Params) : Obj := { cls := vT "code", data := dF #[vS "digit_of" 979, vS "digit_of" 980, vS "/claim/cut.py" 981, vI 146 0, vI 1 0, vI 0 0, vI 0 0, vI 3 0, vR 609, Value.bool true, vI 181 0, vR 610, vN, vR 611, vR 612, vR 613, vI 986 0, vI 146 0, vS "/claim/cut.py" 987] }
def o_715 (P : Params) : Obj := { cls := vT "function", data := Data.func { name := sO "digit_of", qualname := sO "digit_of", params := dA (topS 35), body := FuncBody.stmts (dB (topS 35)), scope := dS (topS 35), globals := 3, closure := [], defaults := vN, kwdefaults := vN, pyModule := vS "filerights.rights" 956, code := vR 614 } }
def o_721 (P : Params) : Obj := { cls := vT "tuple", data := Data.seq #[] }
def o_722 (P : Params) : Obj := { cls := vT "builtin_function_or_method", data := dF #[vB "type.__prepare__", vT "type"] }
def o_723 (P : Params) : Obj := { cls := vT "dict", data := Data.dict #[{ hash := kH P (sO "__module__"), key := vS "__module__" 996, val := vS "filerights.rights" 956 }, { hash := kH P (sO "__qualname__"), key := vS "__qualname__" 998, val := vS "Rights" 997 }, { hash := kH P (sO "__firstlineno__"), key := vS "__firstlineno__" 1000, val := vI 156 999 }, { hash := kH P (sO "__init__"), key := vS "__init__" 1010, val := vR 630 }, { hash := kH P (sO "from_digit"), key := vS "from_digit" 1030, val := vR 639 }, { hash := kH P (sO "of"), key := vS "of" 1053, val := vR 649 }, { hash := kH P (sO "digit"), key := vS "digit" 1061, val := vR 658 }, { hash := kH P (sO "listed"), key := vS "listed" 1068, val := vR 665 }, { hash := kH P (sO "__len__"), key := vS "__len__" 1075, val := vR 672 }, { hash := kH P (sO "__bool__"), key := vS "__bool__" 1082, val := vR 679 }, { hash := kH P (sO "__contains__"), key := vS "__contains__" 1090, val := vR 686 }, { hash := kH P (sO "__eq__"), key := vS "__eq__" 1098, val := vR 693 }, { hash := kH P (sO "__str__"), key := vS "__str__" 1104, val := vR 698 }, { hash := kH P (sO "__repr__"), key := vS "__repr__" 1111, val := vR 705 }, { hash := kH P (sO "__or__"), key := vS "__or__" 1119, val := vR 712 }, { hash := kH P (sO "__and__"), key := vS "__and__" 1127, val := vR 719 }, { hash := kH P (sO "__sub__"), key := vS "__sub__" 1135, val := vR 726 }, { hash := kH P (sO "__xor__"), key := vS "__xor__" 1143, val := vR 733 }, { hash := kH P (sO "__invert__"), key := vS "__invert__" 1150, val := vR 740 }, { hash := kH P (sO "covers"), key := vS "covers" 1158, val := vR 747 }, { hash := kH P (sO "__static_attributes__"), key := vS "__static_attributes__" 1161, val := vR 748 }] 21 }
def o_724 (P : Params) : Obj := { cls := vT "tuple", data := Data.seq #[] }
def o_725 (P : Params) : Obj := { cls := vN, data := dF #[vI 158 0, vI 4 0, vR 629, vI 166 0, vI 4 0, vR 636, vI 172 0, vI 4 0, vR 646, vI 182 0, vI 4 0, vR 656, vI 185 0, vI 4 0, vR 664, vI 188 0, vI 4 0, vR 671, vI 191 0, vI 4 0, vR 678, vI 194 0, vI 4 0, vR 685, vI 197 0, vI 4 0, vR 692, vI 202 0, vI 4 0, vR 697, vI 205 0, vI 4 0, vR 704, vI 208 0, vI 4 0, vR 711, vI 213 0, vI 4 0, vR 718, vI 218 0, vI 4 0, vR 725, vI 223 0, vI 4 0, vR 732, vI 228 0, vI 4 0, vR 739, vI 231 0, vI 4 0, vR 746] }
def o_726 (P : Params) : Obj := { cls := vT "code", data := dF #[vS "Rights" 991, vS "Rights" 992, vS "/claim/cut.py" 993, vI 156 0, vI 0 0, vI 0 0, vI 0 0, vI 0 0, vR 619, Value.bool false, vI 181 0, vR 620, vN, vN, vN, vN, vI 994 0, vI 156 0, vS "/claim/cut.py" 995] }
def o_727 (P : Params) : Obj := { cls := vT "frame", slots := #[some (vR 621), some (vR 3), some (vR 618), none, some (vS "filerights.rights" 956), none, some (vR 0)] }
def o_728 (P : Params) : Obj := { cls := vT "tuple", data := Data.seq #[vS "" 1001] }
def o_729 (P : Params) : Obj := { cls := vT "tuple", data := Data.seq #[] }
def o_730 (P : Params) : Obj := { cls := vN, data := dF #[] }
def o_731 (P : Params) : Obj := { cls := vT "tuple", data := Data.seq #[vS "self" 1005, vS "letters" 1006, vS "digit" 1007] }
def o_732 (P : Params) : Obj := { cls := vT "tuple", data := Data.seq #[] }
def o_733 (P : Params) : Obj := { cls := vN, data := Data.func { name := sO "__init__", qualname := sO "Rights.__init__", params := dA (inC (topS 36) 0), body := FuncBody.stmts (dB (inC (topS 36) 0)), scope := dS (inC (topS 36) 0), globals := 0, closure := [], defaults := vN, kwdefaults := vN } }
def o_734 (P : Params) : Obj := { cls := vT "code", data := dF #[vS "__init__" 1002, vS "Rights.__init__" 1003, vS "/claim/cut.py" 1004, vI 158 0, vI 2 0, vI 0 0, vI 0 0, vI 3 0, vR 624, Value.bool true, vI 181 0, vR 625, vN, vR 626, vR 627, vR 628, vI 1008 0, vI 158 0, vS "/claim/cut.py" 1009] }
def o_735 (P : Params) : Obj := { cls := vT "function", data := Data.func { name := sO "__init__", qualname := sO "Rights.__init__", params := dA (inC (topS 36) 0), body := FuncBody.stmts (dB (inC (topS 36) 0)), scope := dS (inC (topS 36) 0), globals := 3, closure := [], defaults := vR 623, kwdefaults := vN, pyModule := vS "filerights.rights" 956, code := vR 629 } }
def o_736 (P : Params) : Obj := { cls := vT "tuple", data := Data.seq #[] }
def o_737 (P : Params) : Obj := { cls := vN, data := dF #[] }
def o_738 (P : Params) : Obj := { cls := vT "tuple", data := Data.seq #[vS "cls" 1014, vS "digit" 1015] }
def o_739 (P : Params) : Obj := { cls := vT "tuple", data := Data.seq #[] }
def o_740 (P : Params) : Obj := { cls := vN, data := Data.func { name := sO "from_digit", qualname := sO "Rights.from_digit", params := dA (inC (topS 36) 1), body := FuncBody.stmts (dB (inC (topS 36) 1)), scope := dS (inC (topS 36) 1), globals := 0, closure := [], defaults := vN, kwdefaults := vN } }
def o_741 (P : Params) : Obj := { cls := vT "code", data := dF #[vS "from_digit" 1011, vS "Rights.from_digit" 1012, vS "/claim/cut.py" 1013, vI 165 0, vI 2 0, vI 0 0, vI 0 0, vI 3 0, vR 631, Value.bool true, vI 181 0, vR 632, vN, vR 633, vR 634, vR 635, vI 1016 0, vI 165 0, vS "/claim/cut.py" 1017] }
def o_742 (P : Params) : Obj := { cls := vT "function", data := Data.func { name := sO "from_digit", qualname := sO "Rights.from_digit", params := dA (inC (topS 36) 1), body := FuncBody.stmts (dB (inC (topS 36) 1)), scope := dS (inC (topS 36) 1), globals := 3, closure := [], defaults := vN, kwdefaults := vN, pyModule := vS "filerights.rights" 956, annotations := some 640, code := vR 636 } }
def o_743 (P : Params) : Obj := { cls := vT "dict", data := Data.dict #[{ hash := kH P (sO "__module__"), key := vS "__module__" 1019, val := vS "filerights.rights" 956 }, { hash := kH P (sO "__name__"), key := vS "__name__" 1022, val := vS "from_digit" 1021 }, { hash := kH P (sO "__qualname__"), key := vS "__qualname__" 1025, val := vS "Rights.from_digit" 1024 }, { hash := kH P (sO "__doc__"), key := vS "__doc__" 1027, val := vN }, { hash := kH P (sO "__annotations__"), key := vS "__annotations__" 1029, val := vR 640 }] 5 }
def o_744 (P : Params) : Obj := { cls := vT "classmethod", dict := some 638, data := dF #[vR 637, Value.bool false] }
def o_745 (P : Params) : Obj := { cls := vT "dict", data := Data.dict #[] }
def o_746 (P : Params) : Obj := { cls := vT "tuple", data := Data.seq #[] }
def o_747 (P : Params) : Obj := { cls := vN, data := dF #[] }
def o_748 (P : Params) : Obj := { cls := vT "tuple", data := Data.seq #[vS "cls" 1034, vS "parts" 1035, vS "found" 1036, vS "part" 1037, vS "digit" 1038] }
def o_749 (P : Params) : Obj := { cls := vT "tuple", data := Data.seq #[] }
def o_750 (P : Params) : Obj := { cls := vN, data := Data.func { name := sO "of", qualname := sO "Rights.of", params := dA (inC (topS 36) 2), body := FuncBody.stmts (dB (inC (topS 36) 2)), scope := dS (inC (topS 36) 2), globals := 0, closure := [], defaults := vN, kwdefaults := vN } }
def o_751 (P : Params) : Obj := { cls := vT "code", data := dF #[vS "of" 1031, vS "Rights.of" 1032, vS "/claim/cut.py" 1033, vI 171 0, vI 1 0, vI 0 0, vI 0 0, vI 7 0, vR 641, Value.bool true, vI 181 0, vR 642, vN, vR 643, vR 644, vR 645, vI 1039 0, vI 171 0, vS "/claim/cut.py" 1040] }
def o_752 (P : Params) : Obj := { cls := vT "function", data := Data.func { name := sO "of", qualname := sO "Rights.of", params := dA (inC (topS 36) 2), body := FuncBody.stmts (dB (inC (topS 36) 2)), scope := dS (inC (topS 36) 2), globals := 3, closure := [], defaults := vN, kwdefaults := vN, pyModule := vS "filerights.rights" 956, annotations := some 650, code := vR 646 } }
def o_753 (P : Params) : Obj := { cls := vT "dict", data := Data.dict #[{ hash := kH P (sO "__module__"), key := vS "__module__" 1042, val := vS "filerights.rights" 956 }, { hash := kH P (sO "__name__"), key := vS "__name__" 1045, val := vS "of" 1044 }, { hash := kH P (sO "__qualname__"), key := vS "__qualname__" 1048, val := vS "Rights.of" 1047 }, { hash := kH P (sO "__doc__"), key := vS "__doc__" 1050, val := vN }, { hash := kH P (sO "__annotations__"), key := vS "__annotations__" 1052, val := vR 650 }] 5 }
def o_754 (P : Params) : Obj := { cls := vT "classmethod", dict := some 648, data := dF #[vR 647, Value.bool false] }
def o_755 (P : Params) : Obj := { cls := vT "dict", data := Data.dict #[] }
def o_756 (P : Params) : Obj := { cls := vT "tuple", data := Data.seq #[] }
def o_757 (P : Params) : Obj := { cls := vN, data := dF #[] }
def o_758 (P : Params) : Obj := { cls := vT "tuple", data := Data.seq #[vS "self" 1057] }
def o_759 (P : Params) : Obj := { cls := vT "tuple", data := Data.seq #[] }
def o_760 (P : Params) : Obj := { cls := vN, data := Data.func { name := sO "digit", qualname := sO "Rights.digit", params := dA (inC (topS 36) 3), body := FuncBody.stmts (dB (inC (topS 36) 3)), scope := dS (inC (topS 36) 3), globals := 0, closure := [], defaults := vN, kwdefaults := vN } }
def o_761 (P : Params) : Obj := { cls := vT "code", data := dF #[vS "digit" 1054, vS "Rights.digit" 1055, vS "/claim/cut.py" 1056, vI 181 0, vI 1 0, vI 0 0, vI 0 0, vI 3 0, vR 651, Value.bool true, vI 181 0, vR 652, vN, vR 653, vR 654, vR 655, vI 1058 0, vI 181 0, vS "/claim/cut.py" 1059] }
def o_762 (P : Params) : Obj := { cls := vT "function", data := Data.func { name := sO "digit", qualname := sO "Rights.digit", params := dA (inC (topS 36) 3), body := FuncBody.stmts (dB (inC (topS 36) 3)), scope := dS (inC (topS 36) 3), globals := 3, closure := [], defaults := vN, kwdefaults := vN, pyModule := vS "filerights.rights" 956, code := vR 656 } }
def o_763 (P : Params) : Obj := { cls := vT "property", data := dF #[vR 657, vN, vN, vN, vS "digit" 1061, Value.bool false] }
def o_764 (P : Params) : Obj := { cls := vT "tuple", data := Data.seq #[] }
def o_765 (P : Params) : Obj := { cls := vN, data := dF #[] }
def o_766 (P : Params) : Obj := { cls := vT "tuple", data := Data.seq #[vS "self" 1065] }
def o_767 (P : Params) : Obj := { cls := vT "tuple", data := Data.seq #[] }
def o_768 (P : Params) : Obj := { cls := vN, data := Data.func { name := sO "listed", qualname := sO "Rights.listed", params := dA (inC (topS 36) 4), body := FuncBody.stmts (dB (inC (topS 36) 4)), scope := dS (inC (topS 36) 4), globals := 0, closure := [], defaults := vN, kwdefaults := vN } }
def o_769 (P : Params) : Obj := { cls := vT "code", data := dF #[vS "listed" 1062, vS "Rights.listed" 1063, vS "/claim/cut.py" 1064, vI 185 0, vI 1 0, vI 0 0, vI 0 0, vI 3 0, vR 659, Value.bool true, vI 181 0, vR 660, vN, vR 661, vR 662, vR 663, vI 1066 0, vI 185 0, vS "/claim/cut.py" 1067] }
def o_770 (P : Params) : Obj := { cls := vT "function", data := Data.func { name := sO "listed", qualname := sO "Rights.listed", params := dA (inC (topS 36) 4), body := FuncBody.stmts (dB (inC (topS 36) 4)), scope := dS (inC (topS 36) 4), globals := 3, closure := [], defaults := vN, kwdefaults := vN, pyModule := vS "filerights.rights" 956, code := vR 664 } }
def o_771 (P : Params) : Obj := { cls := vT "tuple", data := Data.seq #[] }
def o_772 (P : Params) : Obj := { cls := vN, data := dF #[] }
def o_773 (P : Params) : Obj := { cls := vT "tuple", data := Data.seq #[vS "self" 1072] }
def o_774 (P : Params) : Obj := { cls := vT "tuple", data := Data.seq #[] }
def o_775 (P : Params) : Obj := { cls := vN, data := Data.func { name := sO "__len__", qualname := sO "Rights.__len__", params := dA (inC (topS 36) 5), body := FuncBody.stmts (dB (inC (topS 36) 5)), scope := dS (inC (topS 36) 5), globals := 0, closure := [], defaults := vN, kwdefaults := vN } }
def o_776 (P : Params) : Obj := { cls := vT "code", data := dF #[vS "__len__" 1069, vS "Rights.__len__" 1070, vS "/claim/cut.py" 1071, vI 188 0, vI 1 0, vI 0 0, vI 0 0, vI 3 0, vR 666, Value.bool true, vI 181 0, vR 667, vN, vR 668, vR 669, vR 670, vI 1073 0, vI 188 0, vS "/claim/cut.py" 1074] }
def o_777 (P : Params) : Obj := { cls := vT "function", data := Data.func { name := sO "__len__", qualname := sO "Rights.__len__", params := dA (inC (topS 36) 5), body := FuncBody.stmts (dB (inC (topS 36) 5)), scope := dS (inC (topS 36) 5), globals := 3, closure := [], defaults := vN, kwdefaults := vN, pyModule := vS "filerights.rights" 956, code := vR 671 } }
def o_778 (P : Params) : Obj := { cls := vT "tuple", data := Data.seq #[] }
def o_779 (P : Params) : Obj := { cls := vN, data := dF #[] }
def o_780 (P : Params) : Obj := { cls := vT "tuple", data := Data.seq #[vS "self" 1079] }
def o_781 (P : Params) : Obj := { cls := vT "tuple", data := Data.seq #[] }
def o_782 (P : Params) : Obj := { cls := vN, data := Data.func { name := sO "__bool__", qualname := sO "Rights.__bool__", params := dA (inC (topS 36) 6), body := FuncBody.stmts (dB (inC (topS 36) 6)), scope := dS (inC (topS 36) 6), globals := 0, closure := [], defaults := vN, kwdefaults := vN } }
def o_783 (P : Params) : Obj := { cls := vT "code", data := dF #[vS "__bool__" 1076, vS "Rights.__bool__" 1077, vS "/claim/cut.py" 1078, vI 191 0, vI 1 0, vI 0 0, vI 0 0, vI 3 0, vR 673, Value.bool true, vI 181 0, vR 674, vN, vR 675, vR 676, vR 677, vI 1080 0, vI 191 0, vS "/claim/cut.py" 1081] }
def o_784 (P : Params) : Obj := { cls := vT "function", data := Data.func { name := sO "__bool__", qualname := sO "Rights.__bool__", params := dA (inC (topS 36) 6), body := FuncBody.stmts (dB (inC (topS 36) 6)), scope := dS (inC (topS 36) 6), globals := 3, closure := [], defaults := vN, kwdefaults := vN, pyModule := vS "filerights.rights" 956, code := vR 678 } }
def o_785 (P : Params) : Obj := { cls := vT "tuple", data := Data.seq #[] }
def o_786 (P : Params) : Obj := { cls := vN, data := dF #[] }
def o_787 (P : Params) : Obj := { cls := vT "tuple", data := Data.seq #[vS "self" 1086, vS "value" 1087] }
def o_788 (P : Params) : Obj := { cls := vT "tuple", data := Data.seq #[] }
def o_789 (P : Params) : Obj := { cls := vN, data := Data.func { name := sO "__contains__", qualname := sO "Rights.__contains__", params := dA (inC (topS 36) 7), body := FuncBody.stmts (dB (inC (topS 36) 7)), scope := dS (inC (topS 36) 7), globals := 0, closure := [], defaults := vN, kwdefaults := vN } }
def o_790 (P : Params) : Obj := { cls := vT "code", data := dF #[vS "__contains__" 1083, vS "Rights.__contains__" 1084, vS "/claim/cut.py" 1085, vI 194 0, vI 2 0, vI 0 0, vI 0 0, vI 3 0, vR 680, Value.bool true, vI 181 0, vR 681, vN, vR 682, vR 683, vR 684, vI 1088 0, vI 194 0, vS "/claim/cut.py" 1089] }
def o_791 (P : Params) : Obj := { cls := vT "function", data := Data.func { name := sO "__contains__", qualname := sO "Rights.__contains__", params := dA (inC (topS 36) 7), body := FuncBody.stmts (dB (inC (topS 36) 7)), scope := dS (inC (topS 36) 7), globals := 3, closure := [], defaults := vN, kwdefaults := vN, pyModule := vS "filerights.rights" 956, code := vR 685 } }
def o_792 (P : Params) : Obj := { cls := vT "tuple", data := Data.seq #[] }
def o_793 (P : Params) : Obj := { cls := vN, data := dF #[] }
def o_794 (P : Params) : Obj := { cls := vT "tuple", data := Data.seq #[vS "self" 1094, vS "other" 1095] }
def o_795 (P : Params) : Obj := { cls := vT "tuple", data := Data.seq #[] }
def o_796 (P : Params) : Obj := { cls := vN, data := Data.func { name := sO "__eq__", qualname := sO "Rights.__eq__", params := dA (inC (topS 36) 8), body := FuncBody.stmts (dB (inC (topS 36) 8)), scope := dS (inC (topS 36) 8), globals := 0, closure := [], defaults := vN, kwdefaults := vN } }
def o_797 (P : Params) : Obj := { cls := vT "code", data := dF #[vS "__eq__" 1091, vS "Rights.__eq__" 1092, vS "/claim/cut.py" 1093, vI 197 0, vI 2 0, vI 0 0, vI 0 0, vI 3 0, vR 687, Value.bool true, vI 181 0, vR 688, vN, vR 689, vR 690, vR 691, vI 1096 0, vI 197 0, vS "/claim/cut.py" 1097] }
def o_798 (P : Params) : Obj := { cls := vT "function", data := Data.func { name := sO "__eq__", qualname := sO "Rights.__eq__", params := dA (inC (topS 36) 8), body := FuncBody.stmts (dB (inC (topS 36) 8)), scope := dS (inC (topS 36) 8), globals := 3, closure := [], defaults := vN, kwdefaults := vN, pyModule := vS "filerights.rights" 956, code := vR 692 } }
def o_799 (P : Params) : Obj := { cls := vT "tuple", data := Data.seq #[] }
def o_800 (P : Params) : Obj := { cls := vN, data := dF #[] }
def o_801 (P : Params) : Obj := { cls := vN, data := Data.func { name := sO "__str__", qualname := sO "Rights.__str__", params := dA (inC (topS 36) 9), body := FuncBody.stmts (dB (inC (topS 36) 9)), scope := dS (inC (topS 36) 9), globals := 0, closure := [], defaults := vN, kwdefaults := vN } }
def o_802 (P : Params) : Obj := { cls := vT "code", data := dF #[vS "__str__" 1099, vS "Rights.__str__" 1100, vS "/claim/cut.py" 1101, vI 202 0, vI 1 0, vI 0 0, vI 0 0, vI 3 0, vR 694, Value.bool true, vI 181 0, vR 695, vN, vN, vN, vR 696, vI 1102 0, vI 202 0, vS "/claim/cut.py" 1103] }
def o_803 (P : Params) : Obj := { cls := vT "function", data := Data.func { name := sO "__str__", qualname := sO "Rights.__str__", params := dA (inC (topS 36) 9), body := FuncBody.stmts (dB (inC (topS 36) 9)), scope := dS (inC (topS 36) 9), globals := 3, closure := [], defaults := vN, kwdefaults := vN, pyModule := vS "filerights.rights" 956, code := vR 697 } }
def o_804 (P : Params) : Obj := { cls := vT "tuple", data := Data.seq #[] }
def o_805 (P : Params) : Obj := { cls := vN, data := dF #[] }
def o_806 (P : Params) : Obj := { cls := vT "tuple", data := Data.seq #[vS "self" 1108] }
def o_807 (P : Params) : Obj := { cls := vT "tuple", data := Data.seq #[] }
def o_808 (P : Params) : Obj := { cls := vN, data := Data.func { name := sO "__repr__", qualname := sO "Rights.__repr__", params := dA (inC (topS 36) 10), body := FuncBody.stmts (dB (inC (topS 36) 10)), scope := dS (inC (topS 36) 10), globals := 0, closure := [], defaults := vN, kwdefaults := vN } }
def o_809 (P : Params) : Obj := { cls := vT "code", data := dF #[vS "__repr__" 1105, vS "Rights.__repr__" 1106, vS "/claim/cut.py" 1107, vI 205 0, vI 1 0, vI 0 0, vI 0 0, vI 3 0, vR 699, Value.bool true, vI 181 0, vR 700, vN, vR 701, vR 702, vR 703, vI 1109 0, vI 205 0, vS "/claim/cut.py" 1110] }
def o_810 (P : Params) : Obj := { cls := vT "function", data := Data.func { name := sO "__repr__", qualname := sO "Rights.__repr__", params := dA (inC (topS 36) 10), body := FuncBody.stmts (dB (inC (topS 36) 10)), scope := dS (inC (topS 36) 10), globals := 3, closure := [], defaults := vN, kwdefaults := vN, pyModule := vS "filerights.rights" 956, code := vR 704 } }
def o_811 (P : Params) : Obj := { cls := vT "tuple", data := Data.seq #[] }
def o_812 (P : Params) : Obj := { cls := vN, data := dF #[] }
def o_813 (P : Params) : Obj := { cls := vT "tuple", data := Data.seq #[vS "self" 1115, vS "other" 1116] }
def o_814 (P : Params) : Obj := { cls := vT "tuple", data := Data.seq #[] }
def o_815 (P : Params) : Obj := { cls := vN, data := Data.func { name := sO "__or__", qualname := sO "Rights.__or__", params := dA (inC (topS 36) 11), body := FuncBody.stmts (dB (inC (topS 36) 11)), scope := dS (inC (topS 36) 11), globals := 0, closure := [], defaults := vN, kwdefaults := vN } }
def o_816 (P : Params) : Obj := { cls := vT "code", data := dF #[vS "__or__" 1112, vS "Rights.__or__" 1113, vS "/claim/cut.py" 1114, vI 208 0, vI 2 0, vI 0 0, vI 0 0, vI 3 0, vR 706, Value.bool true, vI 181 0, vR 707, vN, vR 708, vR 709, vR 710, vI 1117 0, vI 208 0, vS "/claim/cut.py" 1118] }
def o_817 (P : Params) : Obj := { cls := vT "function", data := Data.func { name := sO "__or__", qualname := sO "Rights.__or__", params := dA (inC (topS 36) 11), body := FuncBody.stmts (dB (inC (topS 36) 11)), scope := dS (inC (topS 36) 11), globals := 3, closure := [], defaults := vN, kwdefaults := vN, pyModule := vS "filerights.rights" 956, code := vR 711 } }
def o_818 (P : Params) : Obj := { cls := vT "tuple", data := Data.seq #[] }
def o_819 (P : Params) : Obj := { cls := vN, data := dF #[] }
def o_820 (P : Params) : Obj := { cls := vT "tuple", data := Data.seq #[vS "self" 1123, vS "other" 1124] }
def o_821 (P : Params) : Obj := { cls := vT "tuple", data := Data.seq #[] }
def o_822 (P : Params) : Obj := { cls := vN, data := Data.func { name := sO "__and__", qualname := sO "Rights.__and__", params := dA (inC (topS 36) 12), body := FuncBody.stmts (dB (inC (topS 36) 12)), scope := dS (inC (topS 36) 12), globals := 0, closure := [], defaults := vN, kwdefaults := vN } }
def o_823 (P : Params) : Obj := { cls := vT "code", data := dF #[vS "__and__" 1120, vS "Rights.__and__" 1121, vS "/claim/cut.py" 1122, vI 213 0, vI 2 0, vI 0 0, vI 0 0, vI 3 0, vR 713, Value.bool true, vI 181 0, vR 714, vN, vR 715, vR 716, vR 717, vI 1125 0, vI 213 0, vS "/claim/cut.py" 1126] }
def o_824 (P : Params) : Obj := { cls := vT "function", data := Data.func { name := sO "__and__", qualname := sO "Rights.__and__", params := dA (inC (topS 36) 12), body := FuncBody.stmts (dB (inC (topS 36) 12)), scope := dS (inC (topS 36) 12), globals := 3, closure := [], defaults := vN, kwdefaults := vN, pyModule := vS "filerights.rights" 956, code := vR 718 } }
def o_825 (P : Params) : Obj := { cls := vT "tuple", data := Data.seq #[] }
def o_826 (P : Params) : Obj := { cls := vN, data := dF #[] }
def o_827 (P : Params) : Obj := { cls := vT "tuple", data := Data.seq #[vS "self" 1131, vS "other" 1132] }
def o_828 (P : Params) : Obj := { cls := vT "tuple", data := Data.seq #[] }
def o_829 (P : Params) : Obj := { cls := vN, data := Data.func { name := sO "__sub__", qualname := sO "Rights.__sub__", params := dA (inC (topS 36) 13), body := FuncBody.stmts (dB (inC (topS 36) 13)), scope := dS (inC (topS 36) 13), globals := 0, closure := [], defaults := vN, kwdefaults := vN } }
def o_830 (P : Params) : Obj := { cls := vT "code", data := dF #[vS "__sub__" 1128, vS "Rights.__sub__" 1129, vS "/claim/cut.py" 1130, vI 218 0, vI 2 0, vI 0 0, vI 0 0, vI 3 0, vR 720, Value.bool true, vI 181 0, vR 721, vN, vR 722, vR 723, vR 724, vI 1133 0, vI 218 0, vS "/claim/cut.py" 1134] }
def o_831 (P : Params) : Obj := { cls := vT "function", data := Data.func { name := sO "__sub__", qualname := sO "Rights.__sub__", params := dA (inC (topS 36) 13), body := FuncBody.stmts (dB (inC (topS 36) 13)), scope := dS (inC (topS 36) 13), globals := 3, closure := [], defaults := vN, kwdefaults := vN, pyModule := vS "filerights.rights" 956, code := vR 725 } }
def o_832 (P : Params) : Obj := { cls := vT "tuple", data := Data.seq #[] }
def o_833 (P : Params) : Obj := { cls := vN, data := dF #[] }
def o_834 (P : Params) : Obj := { cls := vT "tuple", data := Data.seq #[vS "self" 1139, vS "other" 1140] }
def o_835 (P : Params) : Obj := { cls := vT "tuple", data := Data.seq #[] }
def o_836 (P : Params) : Obj := { cls := vN, data := Data.func { name := sO "__xor__", qualname := sO "Rights.__xor__", params := dA (inC (topS 36) 14), body := FuncBody.stmts (dB (inC (topS 36) 14)), scope := dS (inC (topS 36) 14), globals := 0, closure := [], defaults := vN, kwdefaults := vN } }
def o_837 (P : Params) : Obj := { cls := vT "code", data := dF #[vS "__xor__" 1136, vS "Rights.__xor__" 1137, vS "/claim/cut.py" 1138, vI 223 0, vI 2 0, vI 0 0, vI 0 0, vI 3 0, vR 727, Value.bool true, vI 181 0, vR 728, vN, vR 729, vR 730, vR 731, vI 1141 0, vI 223 0, vS "/claim/cut.py" 1142] }
def o_838 (P : Params) : Obj := { cls := vT "function", data := Data.func { name := sO "__xor__", qualname := sO "Rights.__xor__", params := dA (inC (topS 36) 14), body := FuncBody.stmts (dB (inC (topS 36) 14)), scope := dS (inC (topS 36) 14), globals := 3, closure := [], defaults := vN, kwdefaults := vN, pyModule := vS "filerights.rights" 956, code := vR 732 } }
def o_839 (P : Params) : Obj := { cls := vT "tuple", data := Data.seq #[] }
def o_840 (P : Params) : Obj := { cls := vN, data := dF #[] }
def o_841 (P : Params) : Obj := { cls := vT "tuple", data := Data.seq #[vS "self" 1147] }
def o_842 (P : Params) : Obj := { cls := vT "tuple", data := Data.seq #[] }
def o_843 (P : Params) : Obj := { cls := vN, data := Data.func { name := sO "__invert__", qualname := sO "Rights.__invert__", params := dA (inC (topS 36) 15), body := FuncBody.stmts (dB (inC (topS 36) 15)), scope := dS (inC (topS 36) 15), globals := 0, closure := [], defaults := vN, kwdefaults := vN } }
def o_844 (P : Params) : Obj := { cls := vT "code", data := dF #[vS "__invert__" 1144, vS "Rights.__invert__" 1145, vS "/claim/cut.py" 1146, vI 228 0, vI 1 0, vI 0 0, vI 0 0, vI 3 0, vR 734, Value.bool true, vI 181 0, vR 735, vN, vR 736, vR 737, vR 738, vI 1148 0, vI 228 0, vS "/claim/cut.py" 1149] }
def o_845 (P : Params) : Obj := { cls := vT "function", data := Data.func { name := sO "__invert__", qualname := sO "Rights.__invert__", params := dA (inC (topS 36) 15), body := FuncBody.stmts (dB (inC (topS 36) 15)), scope := dS (inC (topS 36) 15), globals := 3, closure := [], defaults := vN, kwdefaults := vN, pyModule := vS "filerights.rights" 956, code := vR 739 } }
def o_846 (P : Params) : Obj := { cls := vT "tuple", data := Data.seq #[] }
def o_847 (P : Params) : Obj := { cls := vN, data := dF #[] }
def o_848 (P : Params) : Obj := { cls := vT "tuple", data := Data.seq #[vS "self" 1154, vS "other" 1155] }
def o_849 (P : Params) : Obj := { cls := vT "tuple", data := Data.seq #[] }
def o_850 (P : Params) : Obj := { cls := vN, data := Data.func { name := sO "covers", qualname := sO "Rights.covers", params := dA (inC (topS 36) 16), body := FuncBody.stmts (dB (inC (topS 36) 16)), scope := dS (inC (topS 36) 16), globals := 0, closure := [], defaults := vN, kwdefaults := vN } }
def o_851 (P : Params) : Obj := { cls := vT "code", data := dF #[vS "covers" 1151, vS "Rights.covers" 1152, vS "/claim/cut.py" 1153, vI 231 0, vI 2 0, vI 0 0, vI 0 0, vI 3 0, vR 741, Value.bool true, vI 181 0, vR 742, vN, vR 743, vR 744, vR 745, vI 1156 0, vI 231 0, vS "/claim/cut.py" 1157] }
def o_852 (P : Params) : Obj := { cls := vT "function", data := Data.func { name := sO "covers", qualname := sO "Rights.covers", params := dA (inC (topS 36) 16), body := FuncBody.stmts (dB (inC (topS 36) 16)), scope := dS (inC (topS 36) 16), globals := 3, closure := [], defaults := vN, kwdefaults := vN, pyModule := vS "filerights.rights" 956, code := vR 746 } }
def o_853 (P : Params) : Obj := { cls := vT "tuple", data := Data.seq #[vS "own_digit" 1159, vS "own_letters" 1160] }
def o_854 (P : Params) : Obj := { cls := vT "dict", data := Data.dict #[{ hash := kH P (sO "__module__"), key := vS "__module__" 996, val := vS "filerights.rights" 956 }, { hash := kH P (sO "__firstlineno__"), key := vS "__firstlineno__" 1000, val := vI 156 999 }, { hash := kH P (sO "__init__"), key := vS "__init__" 1010, val := vR 630 }, { hash := kH P (sO "from_digit"), key := vS "from_digit" 1030, val := vR 639 }, { hash := kH P (sO "of"), key := vS "of" 1053, val := vR 649 }, { hash := kH P (sO "digit"), key := vS "digit" 1061, val := vR 658 }, { hash := kH P (sO "listed"), key := vS "listed" 1068, val := vR 665 }, { hash := kH P (sO "__len__"), key := vS "__len__" 1075, val := vR 672 }, { hash := kH P (sO "__bool__"), key := vS "__bool__" 1082, val := vR 679 }, { hash := kH P (sO "__contains__"), key := vS "__contains__" 1090, val := vR 686 }, { hash := kH P (sO "__eq__"), key := vS "__eq__" 1098, val := vR 693 }, { hash := kH P (sO "__str__"), key := vS "__str__" 1104, val := vR 698 }, { hash := kH P (sO "__repr__"), key := vS "__repr__" 1111, val := vR 705 }, { hash := kH P (sO "__or__"), key := vS "__or__" 1119, val := vR 712 }, { hash := kH P (sO "__and__"), key := vS "__and__" 1127, val := vR 719 }, { hash := kH P (sO "__sub__"), key := vS "__sub__" 1135, val := vR 726 }, { hash := kH P (sO "__xor__"), key := vS "__xor__" 1143, val := vR 733 }, { hash := kH P (sO "__invert__"), key := vS "__invert__" 1150, val := vR 740 }, { hash := kH P (sO "covers"), key := vS "covers" 1158, val := vR 747 }, { hash := kH P (sO "__static_attributes__"), key := vS "__static_attributes__" 1161, val := vR 748 }, { hash := kH P (sO "__dict__"), key := vS "__dict__" 1163, val := vR 751 }, { hash := kH P (sO "__weakref__"), key := vS "__weakref__" 1165, val := vR 752 }, { hash := kH P (sO "__doc__"), key := vS "__doc__" 1166, val := vN }, { hash := kH P (sO "__hash__"), key := vS "__hash__" 1167, val := vN }] 5 }
def o_855 (P : Params) : Obj := { cls := vT "type", data := Data.cls { name := sO "Rights", bases := [vT "object"], mro := [vR 750, vT "object"], ns := 749, qualname := sO "Rights" }, slots := #[none, none, some (vS "Rights" 989), some (vS "Rights" 997), some (vB "object.__new__"), some (Value.bool true)] }
def o_856 (P : Params) : Obj := { cls := vT "getset_descriptor", data := dF #[vS "__dict__" 1162, vR 750, vB "function.__dict__", vB "function.__dict__#set"] }
def o_857 (P : Params) : Obj := { cls := vT "getset_descriptor", data := dF #[vS "__weakref__" 1164, vR 750, vB "ExceptionGroup.__weakref__", vN] }
def o_858 (P : Params) : Obj := { cls := vT "super", data := dF #[vR 750, vR 750, vR 750] }
def o_859 (P : Params) : Obj := { cls := vT "builtin_function_or_method", data := dF #[vB "object.__init_subclass__", vR 750] }
def o_981 (P : Params) : Obj := { cls := vT "tuple", data := Data.seq #[] }
def o_982 (P : Params) : Obj := { cls := vN, data := dF #[] }
def o_983 (P : Params) : Obj := { cls := vT "tuple", data := Data.seq #[vS "value" 1173] }
def o_984 (P : Params) : Obj := { cls := vT "tuple", data := Data.seq #[] }
def o_985 (P : Params) : Obj := { cls := vN, data := Data.func { name := sO "digit_in", qualname := sO "digit_in", params := dA (topS 37), body := FuncBody.stmts (dB (topS 37)), scope := dS (topS 37), globals := 0, closure := [], defaults := vN, kwdefaults := vN } }
def o_986 (P : Params) : Obj := { cls := vT "code", data := dF #[vS "digit_in" 1170, vS "digit_in" 1171, vS "/claim/cut.py" 1172, vI 233 0, vI 1 0, vI 0 0, vI 0 0, vI 3 0, vR 755, Value.bool true, vI 181 0, vR 756, vN, vR 757, vR 758, vR 759, vI 1174 0, vI 233 0, vS "/claim/cut.py" 1175] }
def o_987 (P : Params) : Obj := { cls := vT "function", data := Data.func { name := sO "digit_in", qualname := sO "digit_in", params := dA (topS 37), body := FuncBody.stmts (dB (topS 37)), scope := dS (topS 37), globals := 3, closure := [], defaults := vN, kwdefaults := vN, pyModule := vS "filerights.rights" 956, code := vR 760 } }
def o_988 (P : Params) : Obj := { cls := vT "tuple", data := Data.seq #[] }
def o_989 (P : Params) : Obj := { cls := vN, data := dF #[] }
def o_990 (P : Params) : Obj := { cls := vT "tuple", data := Data.seq #[vS "value" 1180] }
def o_991 (P : Params) : Obj := { cls := vT "tuple", data := Data.seq #[] }
def o_992 (P : Params) : Obj := { cls := vN, data := Data.func { name := sO "is_rights", qualname := sO "is_rights", params := dA (topS 38), body := FuncBody.stmts (dB (topS 38)), scope := dS (topS 38), globals := 0, closure := [], defaults := vN, kwdefaults := vN } }
def o_993 (P : Params) : Obj := { cls := vT "code", data := dF #[vS "is_rights" 1177, vS "is_rights" 1178, vS "/claim/cut.py" 1179, vI 235 0, vI 1 0, vI 0 0, vI 0 0, vI 3 0, vR 762, Value.bool true, vI 181 0, vR 763, vN, vR 764, vR 765, vR 766, vI 1181 0, vI 235 0, vS "/claim/cut.py" 1182] }
def o_994 (P : Params) : Obj := { cls := vT "function", data := Data.func { name := sO "is_rights", qualname := sO "is_rights", params := dA (topS 38), body := FuncBody.stmts (dB (topS 38)), scope := dS (topS 38), globals := 3, closure := [], defaults := vN, kwdefaults := vN, pyModule := vS "filerights.rights" 956, code := vR 767 } }
def o_995 (P : Params) : Obj := { cls := vT "tuple", data := Data.seq #[] }
def o_996 (P : Params) : Obj := { cls := vN, data := dF #[] }
def o_997 (P : Params) : Obj := { cls := vT "tuple", data := Data.seq #[vS "value" 1187] }
def o_998 (P : Params) : Obj := { cls := vT "tuple", data := Data.seq #[] }
def o_999 (P : Params) : Obj := { cls := vN, data := Data.func { name := sO "as_rights", qualname := sO "as_rights", params := dA (topS 39), body := FuncBody.stmts (dB (topS 39)), scope := dS (topS 39), globals := 0, closure := [], defaults := vN, kwdefaults := vN } }
def o_1000 (P : Params) : Obj := { cls := vT "code", data := dF #[vS "as_rights" 1184, vS "as_rights" 1185, vS "/claim/cut.py" 1186, vI 237 0, vI 1 0, vI 0 0, vI 0 0, vI 3 0, vR 769, Value.bool true, vI 181 0, vR 770, vN, vR 771, vR 772, vR 773, vI 1188 0, vI 237 0, vS "/claim/cut.py" 1189] }
def o_1001 (P : Params) : Obj := { cls := vT "function", data := Data.func { name := sO "as_rights", qualname := sO "as_rights", params := dA (topS 39), body := FuncBody.stmts (dB (topS 39)), scope := dS (topS 39), globals := 3, closure := [], defaults := vN, kwdefaults := vN, pyModule := vS "filerights.rights" 956, code := vR 774 } }
def o_1002 (P : Params) : Obj := { cls := vT "tuple", data := Data.seq #[] }
def o_1003 (P : Params) : Obj := { cls := vN, data := dF #[] }
def o_1004 (P : Params) : Obj := { cls := vN, data := Data.func { name := sO "is_name", qualname := sO "is_name", params := dA (topS 44), body := FuncBody.stmts (dB (topS 44)), scope := dS (topS 44), globals := 0, closure := [], defaults := vN, kwdefaults := vN } }
def o_1005 (P : Params) : Obj := { cls := vT "code", data := dF #[vS "is_name" 1199, vS "is_name" 1200, vS "/claim/cut.py" 1201, vI 243 0, vI 1 0, vI 0 0, vI 0 0, vI 3 0, vR 776, Value.bool true, vI 181 0, vR 777, vN, vN, vN, vR 778, vI 1202 0, vI 243 0, vS "/claim/cut.py" 1203] }
def o_1006 (P : Params) : Obj := { cls := vT "function", data := Data.func { name := sO "is_name", qualname := sO "is_name", params := dA (topS 44), body := FuncBody.stmts (dB (topS 44)), scope := dS (topS 44), globals := 3, closure := [], defaults := vN, kwdefaults := vN, pyModule := vS "filerights.words" 1191, code := vR 779 } }
def o_1007 (P : Params) : Obj := { cls := vT "tuple", data := Data.seq #[] }
def o_1008 (P : Params) : Obj := { cls := vN, data := dF #[] }
def o_1009 (P : Params) : Obj := { cls := vT "tuple", data := Data.seq #[vS "value" 1208] }
def o_1010 (P : Params) : Obj := { cls := vT "tuple", data := Data.seq #[] }
def o_1011 (P : Params) : Obj := { cls := vN, data := Data.func { name := sO "is_list", qualname := sO "is_list", params := dA (topS 45), body := FuncBody.stmts (dB (topS 45)), scope := dS (topS 45), globals := 0, closure := [], defaults := vN, kwdefaults := vN } }
def o_1012 (P : Params) : Obj := { cls := vT "code", data := dF #[vS "is_list" 1205, vS "is_list" 1206, vS "/claim/cut.py" 1207, vI 247 0, vI 1 0, vI 0 0, vI 0 0, vI 3 0, vR 781, Value.bool true, vI 181 0, vR 782, vN, vR 783, vR 784, vR 785, vI 1209 0, vI 247 0, vS "/claim/cut.py" 1210] }
def o_1013 (P : Params) : Obj := { cls := vT "function", data := Data.func { name := sO "is_list", qualname := sO "is_list", params := dA (topS 45), body := FuncBody.stmts (dB (topS 45)), scope := dS (topS 45), globals := 3, closure := [], defaults := vN, kwdefaults := vN, pyModule := vS "filerights.words" 1191, code := vR 786 } }
def o_1014 (P : Params) : Obj := { cls := vT "tuple", data := Data.seq #[] }
def o_1015 (P : Params) : Obj := { cls := vN, data := dF #[] }
def o_1016 (P : Params) : Obj := { cls := vN, data := Data.func { name := sO "is_path", qualname := sO "is_path", params := dA (topS 46), body := FuncBody.stmts (dB (topS 46)), scope := dS (topS 46), globals := 0, closure := [], defaults := vN, kwdefaults := vN } }
def o_1017 (P : Params) : Obj := { cls := vT "code", data := dF #[vS "is_path" 1212, vS "is_path" 1213, vS "/claim/cut.py" 1214, vI 249 0, vI 1 0, vI 0 0, vI 0 0, vI 3 0, vR 788, Value.bool true, vI 181 0, vR 789, vN, vN, vN, vR 790, vI 1215 0, vI 249 0, vS "/claim/cut.py" 1216] }
def o_1018 (P : Params) : Obj := { cls := vT "function", data := Data.func { name := sO "is_path", qualname := sO "is_path", params := dA (topS 46), body := FuncBody.stmts (dB (topS 46)), scope := dS (topS 46), globals := 3, closure := [], defaults := vN, kwdefaults := vN, pyModule := vS "filerights.words" 1191, code := vR 791 } }
def o_1019 (P : Params) : Obj := { cls := vT "tuple", data := Data.seq #[] }
def o_1020 (P : Params) : Obj := { cls := vN, data := dF #[] }
def o_1021 (P : Params) : Obj := { cls := vT "tuple", data := Data.seq #[vS "path" 1221] }
def o_1022 (P : Params) : Obj := { cls := vT "tuple", data := Data.seq #[] }
def o_1023 (P : Params) : Obj := { cls := vN, data := Data.func { name := sO "need_path", qualname := sO "need_path", params := dA (topS 47), body := FuncBody.stmts (dB (topS 47)), scope := dS (topS 47), globals := 0, closure := [], defaults := vN, kwdefaults := vN } }
def o_1024 (P : Params) : Obj := { cls := vT "code", data := dF #[vS "need_path" 1218, vS "need_path" 1219, vS "/claim/cut.py" 1220, vI 253 0, vI 1 0, vI 0 0, vI 0 0, vI 3 0, vR 793, Value.bool true, vI 181 0, vR 794, vN, vR 795, vR 796, vR 797, vI 1222 0, vI 253 0, vS "/claim/cut.py" 1223] }
def o_1025 (P : Params) : Obj := { cls := vT "function", data := Data.func { name := sO "need_path", qualname := sO "need_path", params := dA (topS 47), body := FuncBody.stmts (dB (topS 47)), scope := dS (topS 47), globals := 3, closure := [], defaults := vN, kwdefaults := vN, pyModule := vS "filerights.words" 1191, code := vR 798 } }
def o_1026 (P : Params) : Obj := { cls := vT "tuple", data := Data.seq #[] }
def o_1027 (P : Params) : Obj := { cls := vN, data := dF #[] }
def o_1028 (P : Params) : Obj := { cls := vT "tuple", data := Data.seq #[vS "path" 1229] }
def o_1029 (P : Params) : Obj := { cls := vT "tuple", data := Data.seq #[] }
def o_1030 (P : Params) : Obj := { cls := vN, data := Data.func { name := sO "parts_of", qualname := sO "parts_of", params := dA (topS 49), body := FuncBody.stmts (dB (topS 49)), scope := dS (topS 49), globals := 0, closure := [], defaults := vN, kwdefaults := vN } }
def o_1031 (P : Params) : Obj := { cls := vT "code", data := dF #[vS "parts_of" 1226, vS "parts_of" 1227, vS "/claim/cut.py" 1228, vI 257 0, vI 1 0, vI 0 0, vI 0 0, vI 3 0, vR 800, Value.bool true, vI 181 0, vR 801, vN, vR 802, vR 803, vR 804, vI 1230 0, vI 257 0, vS "/claim/cut.py" 1231] }
def o_1032 (P : Params) : Obj := { cls := vT "function", data := Data.func { name := sO "parts_of", qualname := sO "parts_of", params := dA (topS 49), body := FuncBody.stmts (dB (topS 49)), scope := dS (topS 49), globals := 3, closure := [], defaults := vN, kwdefaults := vN, pyModule := vS "filerights.words" 1191, code := vR 805 } }
def o_1033 (P : Params) : Obj := { cls := vT "tuple", data := Data.seq #[] }
def o_1034 (P : Params) : Obj := { cls := vN, data := dF #[] }
def o_1035 (P : Params) : Obj := { cls := vT "tuple", data := Data.seq #[vS "names" 1236] }
def o_1036 (P : Params) : Obj := { cls := vT "tuple", data := Data.seq #[] }
def o_1037 (P : Params) : Obj := { cls := vN, data := Data.func { name := sO "path_by", qualname := sO "path_by", params := dA (topS 50), body := FuncBody.stmts (dB (topS 50)), scope := dS (topS 50), globals := 0, closure := [], defaults := vN, kwdefaults := vN } }
def o_1038 (P : Params) : Obj := { cls := vT "code", data := dF #[vS "path_by" 1233, vS "path_by" 1234, vS "/claim/cut.py" 1235, vI 262 0, vI 1 0, vI 0 0, vI 0 0, vI 3 0, vR 807, Value.bool true, vI 181 0, vR 808, vN, vR 809, vR 810, vR 811, vI 1237 0, vI 262 0, vS "/claim/cut.py" 1238] }
def o_1039 (P : Params) : Obj := { cls := vT "function", data := Data.func { name := sO "path_by", qualname := sO "path_by", params := dA (topS 50), body := FuncBody.stmts (dB (topS 50)), scope := dS (topS 50), globals := 3, closure := [], defaults := vN, kwdefaults := vN, pyModule := vS "filerights.words" 1191, code := vR 812 } }
def o_1040 (P : Params) : Obj := { cls := vT "tuple", data := Data.seq #[] }
def o_1041 (P : Params) : Obj := { cls := vN, data := dF #[] }
def o_1042 (P : Params) : Obj := { cls := vT "tuple", data := Data.seq #[vS "path" 1243, vS "names" 1244, vS "found" 1245, vS "name" 1246] }
def o_1043 (P : Params) : Obj := { cls := vT "tuple", data := Data.seq #[] }
def o_1044 (P : Params) : Obj := { cls := vN, data := Data.func { name := sO "joined", qualname := sO "joined", params := dA (topS 51), body := FuncBody.stmts (dB (topS 51)), scope := dS (topS 51), globals := 0, closure := [], defaults := vN, kwdefaults := vN } }
def o_1045 (P : Params) : Obj := { cls := vT "code", data := dF #[vS "joined" 1240, vS "joined" 1241, vS "/claim/cut.py" 1242, vI 264 0, vI 1 0, vI 0 0, vI 0 0, vI 7 0, vR 814, Value.bool true, vI 181 0, vR 815, vN, vR 816, vR 817, vR 818, vI 1247 0, vI 264 0, vS "/claim/cut.py" 1248] }
def o_1046 (P : Params) : Obj := { cls := vT "function", data := Data.func { name := sO "joined", qualname := sO "joined", params := dA (topS 51), body := FuncBody.stmts (dB (topS 51)), scope := dS (topS 51), globals := 3, closure := [], defaults := vN, kwdefaults := vN, pyModule := vS "filerights.words" 1191, code := vR 819 } }
def o_1047 (P : Params) : Obj := { cls := vT "tuple", data := Data.seq #[] }
def o_1048 (P : Params) : Obj := { cls := vN, data := dF #[] }
def o_1049 (P : Params) : Obj := { cls := vT "tuple", data := Data.seq #[vS "path" 1253, vS "found" 1254, vS "last" 1255] }
def o_1050 (P : Params) : Obj := { cls := vT "tuple", data := Data.seq #[] }
def o_1051 (P : Params) : Obj := { cls := vN, data := Data.func { name := sO "above", qualname := sO "above", params := dA (topS 52), body := FuncBody.stmts (dB (topS 52)), scope := dS (topS 52), globals := 0, closure := [], defaults := vN, kwdefaults := vN } }
def o_1052 (P : Params) : Obj := { cls := vT "code", data := dF #[vS "above" 1250, vS "above" 1251, vS "/claim/cut.py" 1252, vI 271 0, vI 1 0, vI 0 0, vI 0 0, vI 3 0, vR 821, Value.bool true, vI 181 0, vR 822, vN, vR 823, vR 824, vR 825, vI 1256 0, vI 271 0, vS "/claim/cut.py" 1257] }
def o_1053 (P : Params) : Obj := { cls := vT "function", data := Data.func { name := sO "above", qualname := sO "above", params := dA (topS 52), body := FuncBody.stmts (dB (topS 52)), scope := dS (topS 52), globals := 3, closure := [], defaults := vN, kwdefaults := vN, pyModule := vS "filerights.words" 1191, code := vR 826 } }
def o_1054 (P : Params) : Obj := { cls := vT "tuple", data := Data.seq #[] }
def o_1055 (P : Params) : Obj := { cls := vN, data := dF #[] }
def o_1056 (P : Params) : Obj := { cls := vT "tuple", data := Data.seq #[vS "path" 1262, vS "other" 1263, vS "names" 1264, vS "others" 1265] }
def o_1057 (P : Params) : Obj := { cls := vT "tuple", data := Data.seq #[] }
def o_1058 (P : Params) : Obj := { cls := vN, data := Data.func { name := sO "is_below", qualname := sO "is_below", params := dA (topS 53), body := FuncBody.stmts (dB (topS 53)), scope := dS (topS 53), globals := 0, closure := [], defaults := vN, kwdefaults := vN } }
def o_1059 (P : Params) : Obj := { cls := vT "code", data := dF #[vS "is_below" 1259, vS "is_below" 1260, vS "/claim/cut.py" 1261, vI 276 0, vI 2 0, vI 0 0, vI 0 0, vI 3 0, vR 828, Value.bool true, vI 181 0, vR 829, vN, vR 830, vR 831, vR 832, vI 1266 0, vI 276 0, vS "/claim/cut.py" 1267] }
def o_1060 (P : Params) : Obj := { cls := vT "function", data := Data.func { name := sO "is_below", qualname := sO "is_below", params := dA (topS 53), body := FuncBody.stmts (dB (topS 53)), scope := dS (topS 53), globals := 3, closure := [], defaults := vN, kwdefaults := vN, pyModule := vS "filerights.words" 1191, code := vR 833 } }
def o_1064 (P : Params) : Obj := { cls := vT "dict", data := Data.dict #[{ hash := kH P (sO "owner"), key := vS "owner" 1273, val := vS "u" 1274 }, { hash := kH P (sO "user"), key := vS "user" 1275, val := vS "u" 1276 }, { hash := kH P (sO "group"), key := vS "group" 1277, val := vS "g" 1278 }, { hash := kH P (sO "named"), key := vS "named" 1279, val := vS "g" 1280 }, { hash := kH P (sO "mask"), key := vS "mask" 1281, val := vS "m" 1282 }, { hash := kH P (sO "other"), key := vS "other" 1283, val := vS "o" 1284 }] 6 }
def o_1065 (P : Params) : Obj := { cls := vT "tuple", data := Data.seq #[] }
def o_1066 (P : Params) : Obj := { cls := vN, data := dF #[] }
def o_1067 (P : Params) : Obj := { cls := vN, data := Data.func { name := sO "is_digits", qualname := sO "is_digits", params := dA (topS 57), body := FuncBody.stmts (dB (topS 57)), scope := dS (topS 57), globals := 0, closure := [], defaults := vN, kwdefaults := vN } }
def o_1068 (P : Params) : Obj := { cls := vT "code", data := dF #[vS "is_digits" 1292, vS "is_digits" 1293, vS "/claim/cut.py" 1294, vI 283 0, vI 1 0, vI 0 0, vI 0 0, vI 3 0, vR 836, Value.bool true, vI 181 0, vR 837, vN, vN, vN, vR 838, vI 1295 0, vI 283 0, vS "/claim/cut.py" 1296] }
def o_1069 (P : Params) : Obj := { cls := vT "function", data := Data.func { name := sO "is_digits", qualname := sO "is_digits", params := dA (topS 57), body := FuncBody.stmts (dB (topS 57)), scope := dS (topS 57), globals := 3, closure := [], defaults := vN, kwdefaults := vN, pyModule := vS "filerights.lists" 1269, code := vR 839 } }
def o_1070 (P : Params) : Obj := { cls := vT "tuple", data := Data.seq #[] }
def o_1071 (P : Params) : Obj := { cls := vN, data := dF #[] }
def o_1072 (P : Params) : Obj := { cls := vT "tuple", data := Data.seq #[vS "digits" 1301] }
def o_1073 (P : Params) : Obj := { cls := vT "tuple", data := Data.seq #[] }
def o_1074 (P : Params) : Obj := { cls := vN, data := Data.func { name := sO "need_digits", qualname := sO "need_digits", params := dA (topS 58), body := FuncBody.stmts (dB (topS 58)), scope := dS (topS 58), globals := 0, closure := [], defaults := vN, kwdefaults := vN } }
def o_1075 (P : Params) : Obj := { cls := vT "code", data := dF #[vS "need_digits" 1298, vS "need_digits" 1299, vS "/claim/cut.py" 1300, vI 285 0, vI 1 0, vI 0 0, vI 0 0, vI 3 0, vR 841, Value.bool true, vI 181 0, vR 842, vN, vR 843, vR 844, vR 845, vI 1302 0, vI 285 0, vS "/claim/cut.py" 1303] }
def o_1076 (P : Params) : Obj := { cls := vT "function", data := Data.func { name := sO "need_digits", qualname := sO "need_digits", params := dA (topS 58), body := FuncBody.stmts (dB (topS 58)), scope := dS (topS 58), globals := 3, closure := [], defaults := vN, kwdefaults := vN, pyModule := vS "filerights.lists" 1269, code := vR 846 } }
def o_1077 (P : Params) : Obj := { cls := vT "tuple", data := Data.seq #[] }
def o_1078 (P : Params) : Obj := { cls := vN, data := dF #[] }
def o_1079 (P : Params) : Obj := { cls := vN, data := Data.func { name := sO "rights_of_digits", qualname := sO "rights_of_digits", params := dA (topS 59), body := FuncBody.stmts (dB (topS 59)), scope := dS (topS 59), globals := 0, closure := [], defaults := vN, kwdefaults := vN } }
def o_1080 (P : Params) : Obj := { cls := vT "code", data := dF #[vS "rights_of_digits" 1305, vS "rights_of_digits" 1306, vS "/claim/cut.py" 1307, vI 288 0, vI 1 0, vI 0 0, vI 0 0, vI 3 0, vR 848, Value.bool true, vI 181 0, vR 849, vN, vN, vN, vR 850, vI 1308 0, vI 288 0, vS "/claim/cut.py" 1309] }
def o_1081 (P : Params) : Obj := { cls := vT "function", data := Data.func { name := sO "rights_of_digits", qualname := sO "rights_of_digits", params := dA (topS 59), body := FuncBody.stmts (dB (topS 59)), scope := dS (topS 59), globals := 3, closure := [], defaults := vN, kwdefaults := vN, pyModule := vS "filerights.lists" 1269, code := vR 851 } }
def o_1082 (P : Params) : Obj := { cls := vT "tuple", data := Data.seq #[] }
def o_1083 (P : Params) : Obj := { cls := vN, data := dF #[] }
def o_1084 (P : Params) : Obj := { cls := vN, data := Data.func { name := sO "without_letters", qualname := sO "without_letters", params := dA (topS 60), body := FuncBody.stmts (dB (topS 60)), scope := dS (topS 60), globals := 0, closure := [], defaults := vN, kwdefaults := vN } }
def o_1085 (P : Params) : Obj := { cls := vT "code", data := dF #[vS "without_letters" 1311, vS "without_letters" 1312, vS "/claim/cut.py" 1313, vI 291 0, vI 2 0, vI 0 0, vI 0 0, vI 3 0, vR 853, Value.bool true, vI 181 0, vR 854, vN, vN, vN, vR 855, vI 1314 0, vI 291 0, vS "/claim/cut.py" 1315] }
def o_1086 (P : Params) : Obj := { cls := vT "function", data := Data.func { name := sO "without_letters", qualname := sO "without_letters", params := dA (topS 60), body := FuncBody.stmts (dB (topS 60)), scope := dS (topS 60), globals := 3, closure := [], defaults := vN, kwdefaults := vN, pyModule := vS "filerights.lists" 1269, code := vR 856 } }
def o_1087 (P : Params) : Obj := { cls := vT "tuple", data := Data.seq #[] }
def o_1088 (P : Params) : Obj := { cls := vN, data := dF #[] }
def o_1089 (P : Params) : Obj := { cls := vT "tuple", data := Data.seq #[vS "value" 1320] }
def o_1090 (P : Params) : Obj := { cls := vT "tuple", data := Data.seq #[] }
def o_1091 (P : Params) : Obj := { cls := vN, data := Data.func { name := sO "is_named", qualname := sO "is_named", params := dA (topS 61), body := FuncBody.stmts (dB (topS 61)), scope := dS (topS 61), globals := 0, closure := [], defaults := vN, kwdefaults := vN } }
def o_1092 (P : Params) : Obj := { cls := vT "code", data := dF #[vS "is_named" 1317, vS "is_named" 1318, vS "/claim/cut.py" 1319, vI 295 0, vI 1 0, vI 0 0, vI 0 0, vI 3 0, vR 858, Value.bool true, vI 181 0, vR 859, vN, vR 860, vR 861, vR 862, vI 1321 0, vI 295 0, vS "/claim/cut.py" 1322] }
def o_1093 (P : Params) : Obj := { cls := vT "function", data := Data.func { name := sO "is_named", qualname := sO "is_named", params := dA (topS 61), body := FuncBody.stmts (dB (topS 61)), scope := dS (topS 61), globals := 3, closure := [], defaults := vN, kwdefaults := vN, pyModule := vS "filerights.lists" 1269, code := vR 863 } }
def o_1094 (P : Params) : Obj := { cls := vT "tuple", data := Data.seq #[] }
def o_1095 (P : Params) : Obj := { cls := vN, data := dF #[] }
def o_1096 (P : Params) : Obj := { cls := vN, data := Data.func { name := sO "named_rights", qualname := sO "named_rights", params := dA (topS 62), body := FuncBody.stmts (dB (topS 62)), scope := dS (topS 62), globals := 0, closure := [], defaults := vN, kwdefaults := vN } }
def o_1097 (P : Params) : Obj := { cls := vT "code", data := dF #[vS "named_rights" 1324, vS "named_rights" 1325, vS "/claim/cut.py" 1326, vI 297 0, vI 1 0, vI 0 0, vI 0 0, vI 3 0, vR 865, Value.bool true, vI 181 0, vR 866, vN, vN, vN, vR 867, vI 1327 0, vI 297 0, vS "/claim/cut.py" 1328] }
def o_1098 (P : Params) : Obj := { cls := vT "function", data := Data.func { name := sO "named_rights", qualname := sO "named_rights", params := dA (topS 62), body := FuncBody.stmts (dB (topS 62)), scope := dS (topS 62), globals := 3, closure := [], defaults := vN, kwdefaults := vN, pyModule := vS "filerights.lists" 1269, code := vR 868 } }
def o_1102 (P : Params) : Obj := { cls := vT "dict", data := Data.dict #[{ hash := kH P (sO "__name__"), key := vS "__name__" 165, val := vS "filerights.lists" 1269 }, { hash := kH P (sO "__doc__"), key := vS "__doc__" 166, val := vN }, { hash := kH P (sO "__package__"), key := vS "__package__" 167, val := vN }, { hash := kH P (sO "__loader__"), key := vS "__loader__" 168, val := vB "__main__.__loader__#opaque" }, { hash := kH P (sO "__spec__"), key := vS "__spec__" 169, val := vN }, { hash := kH P (sO "__annotations__"), key := vS "__annotations__" 170, val := vR 6 }, { hash := kH P (sO "__builtins__"), key := vS "__builtins__" 171, val := vR 4 }, { hash := kH P (sO "__file__"), key := vS "__file__" 173, val := vS "/claim/cut.py" 172 }, { hash := kH P (sO "__cached__"), key := vS "__cached__" 174, val := vN }, { hash := kH P (sO "_wall"), key := vS "_wall" 193, val := vR 21 }, { hash := kH P (sO "RightsError"), key := vS "RightsError" 213, val := vR 31 }, { hash := kH P (sO "MissingError"), key := vS "MissingError" 233, val := vR 44 }, { hash := kH P (sO "RefusedError"), key := vS "RefusedError" 251, val := vR 57 }, { hash := kH P (sO "InvalidInteger"), key := vS "InvalidInteger" 278, val := vR 79 }, { hash := kH P (sO "InvalidName"), key := vS "InvalidName" 305, val := vR 100 }, { hash := kH P (sO "InvalidPath"), key := vS "InvalidPath" 332, val := vR 121 }, { hash := kH P (sO "InvalidRights"), key := vS "InvalidRights" 359, val := vR 142 }, { hash := kH P (sO "InvalidDigits"), key := vS "InvalidDigits" 386, val := vR 163 }, { hash := kH P (sO "InvalidList"), key := vS "InvalidList" 413, val := vR 184 }, { hash := kH P (sO "InvalidPeople"), key := vS "InvalidPeople" 440, val := vR 205 }, { hash := kH P (sO "InvalidNode"), key := vS "InvalidNode" 467, val := vR 226 }, { hash := kH P (sO "InvalidHouse"), key := vS "InvalidHouse" 494, val := vR 247 }, { hash := kH P (sO "InvalidContent"), key := vS "InvalidContent" 521, val := vR 268 }, { hash := kH P (sO "InvalidDeed"), key := vS "InvalidDeed" 548, val := vR 289 }, { hash := kH P (sO "TooMany"), key := vS "TooMany" 575, val := vR 310 }, { hash := kH P (sO "Ground"), key := vS "Ground" 602, val := vR 331 }, { hash := kH P (sO "UnknownUser"), key := vS "UnknownUser" 629, val := vR 352 }, { hash := kH P (sO "UnknownGroup"), key := vS "UnknownGroup" 656, val := vR 373 }, { hash := kH P (sO "UnknownEntry"), key := vS "UnknownEntry" 683, val := vR 394 }, { hash := kH P (sO "Absent"), key := vS "Absent" 710, val := vR 415 }, { hash := kH P (sO "Denied"), key := vS "Denied" 739, val := vR 436 }, { hash := kH P (sO "NotOwner"), key := vS "NotOwner" 766, val := vR 457 }, { hash := kH P (sO "Held"), key := vS "Held" 793, val := vR 478 }, { hash := kH P (sO "Taken"), key := vS "Taken" 820, val := vR 499 }, { hash := kH P (sO "NotFolder"), key := vS "NotFolder" 847, val := vR 520 }, { hash := kH P (sO "NotFile"), key := vS "NotFile" 874, val := vR 541 }, { hash := kH P (sO "NotEmpty"), key := vS "NotEmpty" 901, val := vR 562 }, { hash := kH P (sO "Inside"), key := vS "Inside" 928, val := vR 583 }, { hash := kH P (sO "NotMember"), key := vS "NotMember" 955, val := vR 604 }, { hash := kH P (sO "LETTERS_rights"), key := vS "LETTERS_rights" 959, val := vS "rwx" 958 }, { hash := kH P (sO "BITS"), key := vS "BITS" 969, val := vR 607 }, { hash := kH P (sO "WORDS"), key := vS "WORDS" 978, val := vR 608 }, { hash := kH P (sO "digit_of"), key := vS "digit_of" 988, val := vR 615 }, { hash := kH P (sO "Rights"), key := vS "Rights" 1169, val := vR 750 }, { hash := kH P (sO "digit_in"), key := vS "digit_in" 1176, val := vR 761 }, { hash := kH P (sO "is_rights"), key := vS "is_rights" 1183, val := vR 768 }, { hash := kH P (sO "as_rights"), key := vS "as_rights" 1190, val := vR 775 }, { hash := kH P (sO "MOST_LETTERS"), key := vS "MOST_LETTERS" 1194, val := vI 8 1193 }, { hash := kH P (sO "LETTERS_words"), key := vS "LETTERS_words" 1196, val := vS "abcdefghijklmnopqrstuvwxyz" 1195 }, { hash := kH P (sO "GROUND_words"), key := vS "GROUND_words" 1198, val := vS "/" 1197 }, { hash := kH P (sO "is_name"), key := vS "is_name" 1204, val := vR 780 }, { hash := kH P (sO "is_list"), key := vS "is_list" 1211, val := vR 787 }, { hash := kH P (sO "is_path"), key := vS "is_path" 1217, val := vR 792 }, { hash := kH P (sO "need_path"), key := vS "need_path" 1224, val := vR 799 }, { hash := kH P (sO "need_path_words"), key := vS "need_path_words" 1225, val := vR 799 }, { hash := kH P (sO "parts_of"), key := vS "parts_of" 1232, val := vR 806 }, { hash := kH P (sO "path_by"), key := vS "path_by" 1239, val := vR 813 }, { hash := kH P (sO "joined"), key := vS "joined" 1249, val := vR 820 }, { hash := kH P (sO "above"), key := vS "above" 1258, val := vR 827 }, { hash := kH P (sO "is_below"), key := vS "is_below" 1268, val := vR 834 }, { hash := kH P (sO "MOST_NAMED"), key := vS "MOST_NAMED" 1272, val := vI 6 1271 }, { hash := kH P (sO "SIGNS"), key := vS "SIGNS" 1291, val := vR 835 }, { hash := kH P (sO "is_digits"), key := vS "is_digits" 1297, val := vR 840 }, { hash := kH P (sO "need_digits"), key := vS "need_digits" 1304, val := vR 847 }, { hash := kH P (sO "rights_of_digits"), key := vS "rights_of_digits" 1310, val := vR 852 }, { hash := kH P (sO "without_letters"), key := vS "without_letters" 1316, val := vR 857 }, { hash := kH P (sO "is_named"), key := vS "is_named" 1323, val := vR 864 }, { hash := kH P (sO "named_rights"), key := vS "named_rights" 1329, val := vR 869 }, { hash := kH P (sO "AccessList"), key := vS "AccessList" 1571, val := vR 1038 }] 69 }
def o_1103 (P : Params) : Obj := { cls := vN, data := dF #[vI 1 0, vI 0 0, vR 20, vI 5 0, vI 0 0, vR 27, vI 7 0, vI 0 0, vR 40, vI 9 0, vI 0 0, vR 53, vI 11 0, vI 0 0, vR 67, vI 16 0, vI 0 0, vR 88, vI 21 0, vI 0 0, vR 109, vI 26 0, vI 0 0, vR 130, vI 31 0, vI 0 0, vR 151, vI 36 0, vI 0 0, vR 172, vI 41 0, vI 0 0, vR 193, vI 46 0, vI 0 0, vR 214, vI 51 0, vI 0 0, vR 235, vI 56 0, vI 0 0, vR 256, vI 61 0, vI 0 0, vR 277, vI 66 0, vI 0 0, vR 298, vI 71 0, vI 0 0, vR 319, vI 76 0, vI 0 0, vR 340, vI 81 0, vI 0 0, vR 361, vI 86 0, vI 0 0, vR 382, vI 91 0, vI 0 0, vR 403, vI 96 0, vI 0 0, vR 424, vI 102 0, vI 0 0, vR 445, vI 107 0, vI 0 0, vR 466, vI 112 0, vI 0 0, vR 487, vI 117 0, vI 0 0, vR 508, vI 122 0, vI 0 0, vR 529, vI 127 0, vI 0 0, vR 550, vI 132 0, vI 0 0, vR 571, vI 137 0, vI 0 0, vR 592, vI 146 0, vI 0 0, vR 614, vI 156 0, vI 0 0, vR 621, vI 233 0, vI 0 0, vR 760, vI 235 0, vI 0 0, vR 767, vI 237 0, vI 0 0, vR 774, vI 243 0, vI 0 0, vR 779, vI 247 0, vI 0 0, vR 786, vI 249 0, vI 0 0, vR 791, vI 253 0, vI 0 0, vR 798, vI 257 0, vI 0 0, vR 805, vI 262 0, vI 0 0, vR 812, vI 264 0, vI 0 0, vR 819, vI 271 0, vI 0 0, vR 826, vI 276 0, vI 0 0, vR 833, vI 283 0, vI 0 0, vR 839, vI 285 0, vI 0 0, vR 846, vI 288 0, vI 0 0, vR 851, vI 291 0, vI 0 0, vR 856, vI 295 0, vI 0 0, vR 863, vI 297 0, vI 0 0, vR 868, vI 313 0, vI 0 0, vR 875] }
def o_1104 (P : Params) : Obj := { cls := vT "tuple", data := Data.seq #[] }
def o_1105 (P : Params) : Obj := { cls := vT "builtin_function_or_method", data := dF #[vB "type.__prepare__", vT "type"] }
def o_1106 (P : Params) : Obj := { cls := vT "dict", data := Data.dict #[{ hash := kH P (sO "__module__"), key := vS "__module__" 1337, val := vS "filerights.lists" 1269 }, { hash := kH P (sO "__qualname__"), key := vS "__qualname__" 1339, val := vS "AccessList" 1338 }, { hash := kH P (sO "__firstlineno__"), key := vS "__firstlineno__" 1341, val := vI 313 1340 }, { hash := kH P (sO "__init__"), key := vS "__init__" 1350, val := vR 882 }, { hash := kH P (sO "plain"), key := vS "plain" 1373, val := vR 891 }, { hash := kH P (sO "everything"), key := vS "everything" 1391, val := vR 901 }, { hash := kH P (sO "from_text"), key := vS "from_text" 1411, val := vR 911 }, { hash := kH P (sO "owner"), key := vS "owner" 1419, val := vR 920 }, { hash := kH P (sO "group"), key := vS "group" 1427, val := vR 928 }, { hash := kH P (sO "other"), key := vS "other" 1435, val := vR 936 }, { hash := kH P (sO "mask"), key := vS "mask" 1443, val := vR 944 }, { hash := kH P (sO "digits"), key := vS "digits" 1452, val := vR 952 }, { hash := kH P (sO "users"), key := vS "users" 1459, val := vR 959 }, { hash := kH P (sO "groups"), key := vS "groups" 1466, val := vR 966 }, { hash := kH P (sO "entries"), key := vS "entries" 1473, val := vR 973 }, { hash := kH P (sO "__len__"), key := vS "__len__" 1480, val := vR 980 }, { hash := kH P (sO "__eq__"), key := vS "__eq__" 1488, val := vR 987 }, { hash := kH P (sO "__str__"), key := vS "__str__" 1494, val := vR 992 }, { hash := kH P (sO "__repr__"), key := vS "__repr__" 1501, val := vR 999 }, { hash := kH P (sO "parts"), key := vS "parts" 1509, val := vR 1006 }, { hash := kH P (sO "with_entry"), key := vS "with_entry" 1521, val := vR 1014 }, { hash := kH P (sO "without"), key := vS "without" 1533, val := vR 1021 }, { hash := kH P (sO "with_digits"), key := vS "with_digits" 1541, val := vR 1028 }, { hash := kH P (sO "narrowed"), key := vS "narrowed" 1555, val := vR 1035 }, { hash := kH P (sO "__static_attributes__"), key := vS "__static_attributes__" 1563, val := vR 1036 }] 25 }
def o_1107 (P : Params) : Obj := { cls := vT "tuple", data := Data.seq #[] }
def o_1108 (P : Params) : Obj := { cls := vN, data := dF #[vI 315 0, vI 4 0, vR 881, vI 341 0, vI 4 0, vR 888, vI 346 0, vI 4 0, vR 898, vI 350 0, vI 4 0, vR 908, vI 354 0, vI 4 0, vR 918, vI 358 0, vI 4 0, vR 926, vI 362 0, vI 4 0, vR 934, vI 366 0, vI 4 0, vR 942, vI 370 0, vI 4 0, vR 950, vI 374 0, vI 4 0, vR 958, vI 377 0, vI 4 0, vR 965, vI 380 0, vI 4 0, vR 972, vI 383 0, vI 4 0, vR 979, vI 386 0, vI 4 0, vR 986, vI 395 0, vI 4 0, vR 991, vI 398 0, vI 4 0, vR 998, vI 401 0, vI 4 0, vR 1005, vI 405 0, vI 4 0, vR 1013, vI 408 0, vI 4 0, vR 1020, vI 420 0, vI 4 0, vR 1027, vI 423 0, vI 4 0, vR 1034] }
def o_1109 (P : Params) : Obj := { cls := vT "code", data := dF #[vS "AccessList" 1332, vS "AccessList" 1333, vS "/claim/cut.py" 1334, vI 313 0, vI 0 0, vI 0 0, vI 0 0, vI 0 0, vR 873, Value.bool false, vI 181 0, vR 874, vN, vN, vN, vN, vI 1335 0, vI 313 0, vS "/claim/cut.py" 1336] }
def o_1110 (P : Params) : Obj := { cls := vT "frame", slots := #[some (vR 875), some (vR 3), some (vR 872), none, some (vS "filerights.lists" 1269), none, some (vR 0)] }
def o_1111 (P : Params) : Obj := { cls := vT "dict", data := Data.dict #[{ hash := kH P (sO "users"), key := vS "users" 1342, val := vN }, { hash := kH P (sO "groups"), key := vS "groups" 1343, val := vN }, { hash := kH P (sO "mask"), key := vS "mask" 1344, val := vN }] 3 }
def o_1112 (P : Params) : Obj := { cls := vT "tuple", data := Data.seq #[] }
def o_1113 (P : Params) : Obj := { cls := vN, data := dF #[] }
def o_1114 (P : Params) : Obj := { cls := vN, data := Data.func { name := sO "__init__", qualname := sO "AccessList.__init__", params := dA (inC (topS 63) 0), body := FuncBody.stmts (dB (inC (topS 63) 0)), scope := dS (inC (topS 63) 0), globals := 0, closure := [], defaults := vN, kwdefaults := vN } }
def o_1115 (P : Params) : Obj := { cls := vT "code", data := dF #[vS "__init__" 1345, vS "AccessList.__init__" 1346, vS "/claim/cut.py" 1347, vI 315 0, vI 4 0, vI 0 0, vI 3 0, vI 3 0, vR 878, Value.bool true, vI 181 0, vR 879, vN, vN, vN, vR 880, vI 1348 0, vI 315 0, vS "/claim/cut.py" 1349] }
def o_1116 (P : Params) : Obj := { cls := vT "function", data := Data.func { name := sO "__init__", qualname := sO "AccessList.__init__", params := dA (inC (topS 63) 0), body := FuncBody.stmts (dB (inC (topS 63) 0)), scope := dS (inC (topS 63) 0), globals := 3, closure := [], defaults := vN, kwdefaults := vR 877, pyModule := vS "filerights.lists" 1269, code := vR 881 } }
def o_1117 (P : Params) : Obj := { cls := vT "tuple", data := Data.seq #[] }
def o_1118 (P : Params) : Obj := { cls := vN, data := dF #[] }
def o_1119 (P : Params) : Obj := { cls := vT "tuple", data := Data.seq #[vS "cls" 1354, vS "digits" 1355, vS "owner" 1356, vS "group" 1357, vS "other" 1358] }
def o_1120 (P : Params) : Obj := { cls := vT "tuple", data := Data.seq #[] }
def o_1121 (P : Params) : Obj := { cls := vN, data := Data.func { name := sO "plain", qualname := sO "AccessList.plain", params := dA (inC (topS 63) 1), body := FuncBody.stmts (dB (inC (topS 63) 1)), scope := dS (inC (topS 63) 1), globals := 0, closure := [], defaults := vN, kwdefaults := vN } }
def o_1122 (P : Params) : Obj := { cls := vT "code", data := dF #[vS "plain" 1351, vS "AccessList.plain" 1352, vS "/claim/cut.py" 1353, vI 340 0, vI 2 0, vI 0 0, vI 0 0, vI 3 0, vR 883, Value.bool true, vI 181 0, vR 884, vN, vR 885, vR 886, vR 887, vI 1359 0, vI 340 0, vS "/claim/cut.py" 1360] }
def o_1123 (P : Params) : Obj := { cls := vT "function", data := Data.func { name := sO "plain", qualname := sO "AccessList.plain", params := dA (inC (topS 63) 1), body := FuncBody.stmts (dB (inC (topS 63) 1)), scope := dS (inC (topS 63) 1), globals := 3, closure := [], defaults := vN, kwdefaults := vN, pyModule := vS "filerights.lists" 1269, annotations := some 892, code := vR 888 } }
def o_1124 (P : Params) : Obj := { cls := vT "dict", data := Data.dict #[{ hash := kH P (sO "__module__"), key := vS "__module__" 1362, val := vS "filerights.lists" 1269 }, { hash := kH P (sO "__name__"), key := vS "__name__" 1365, val := vS "plain" 1364 }, { hash := kH P (sO "__qualname__"), key := vS "__qualname__" 1368, val := vS "AccessList.plain" 1367 }, { hash := kH P (sO "__doc__"), key := vS "__doc__" 1370, val := vN }, { hash := kH P (sO "__annotations__"), key := vS "__annotations__" 1372, val := vR 892 }] 5 }
def o_1125 (P : Params) : Obj := { cls := vT "classmethod", dict := some 890, data := dF #[vR 889, Value.bool false] }
def o_1126 (P : Params) : Obj := { cls := vT "dict", data := Data.dict #[] }
def o_1127 (P : Params) : Obj := { cls := vT "tuple", data := Data.seq #[] }
def o_1128 (P : Params) : Obj := { cls := vN, data := dF #[] }
def o_1129 (P : Params) : Obj := { cls := vT "tuple", data := Data.seq #[] }
def o_1130 (P : Params) : Obj := { cls := vT "tuple", data := Data.seq #[] }
def o_1131 (P : Params) : Obj := { cls := vN, data := Data.func { name := sO "everything", qualname := sO "AccessList.everything", params := dA (inC (topS 63) 2), body := FuncBody.stmts (dB (inC (topS 63) 2)), scope := dS (inC (topS 63) 2), globals := 0, closure := [], defaults := vN, kwdefaults := vN } }
def o_1132 (P : Params) : Obj := { cls := vT "code", data := dF #[vS "everything" 1374, vS "AccessList.everything" 1375, vS "/claim/cut.py" 1376, vI 345 0, vI 0 0, vI 0 0, vI 0 0, vI 3 0, vR 893, Value.bool true, vI 181 0, vR 894, vN, vR 895, vR 896, vR 897, vI 1377 0, vI 345 0, vS "/claim/cut.py" 1378] }
def o_1133 (P : Params) : Obj := { cls := vT "function", data := Data.func { name := sO "everything", qualname := sO "AccessList.everything", params := dA (inC (topS 63) 2), body := FuncBody.stmts (dB (inC (topS 63) 2)), scope := dS (inC (topS 63) 2), globals := 3, closure := [], defaults := vN, kwdefaults := vN, pyModule := vS "filerights.lists" 1269, annotations := some 902, code := vR 898 } }
def o_1134 (P : Params) : Obj := { cls := vT "dict", data := Data.dict #[{ hash := kH P (sO "__module__"), key := vS "__module__" 1380, val := vS "filerights.lists" 1269 }, { hash := kH P (sO "__name__"), key := vS "__name__" 1383, val := vS "everything" 1382 }, { hash := kH P (sO "__qualname__"), key := vS "__qualname__" 1386, val := vS "AccessList.everything" 1385 }, { hash := kH P (sO "__doc__"), key := vS "__doc__" 1388, val := vN }, { hash := kH P (sO "__annotations__"), key := vS "__annotations__" 1390, val := vR 902 }] 5 }
def o_1135 (P : Params) : Obj := { cls := vT "staticmethod", dict := some 900, data := dF #[vR 899, Value.bool false] }
def o_1136 (P : Params) : Obj := { cls := vT "dict", data := Data.dict #[] }
def o_1137 (P : Params) : Obj := { cls := vT "tuple", data := Data.seq #[] }
def o_1138 (P : Params) : Obj := { cls := vN, data := dF #[] }
def o_1139 (P : Params) : Obj := { cls := vT "tuple", data := Data.seq #[vS "cls" 1395, vS "text" 1396] }
def o_1140 (P : Params) : Obj := { cls := vT "tuple", data := Data.seq #[] }
def o_1141 (P : Params) : Obj := { cls := vN, data := Data.func { name := sO "from_text", qualname := sO "AccessList.from_text", params := dA (inC (topS 63) 3), body := FuncBody.stmts (dB (inC (topS 63) 3)), scope := dS (inC (topS 63) 3), globals := 0, closure := [], defaults := vN, kwdefaults := vN } }
def o_1142 (P : Params) : Obj := { cls := vT "code", data := dF #[vS "from_text" 1392, vS "AccessList.from_text" 1393, vS "/claim/cut.py" 1394, vI 349 0, vI 2 0, vI 0 0, vI 0 0, vI 3 0, vR 903, Value.bool true, vI 181 0, vR 904, vN, vR 905, vR 906, vR 907, vI 1397 0, vI 349 0, vS "/claim/cut.py" 1398] }
def o_1143 (P : Params) : Obj := { cls := vT "function", data := Data.func { name := sO "from_text", qualname := sO "AccessList.from_text", params := dA (inC (topS 63) 3), body := FuncBody.stmts (dB (inC (topS 63) 3)), scope := dS (inC (topS 63) 3), globals := 3, closure := [], defaults := vN, kwdefaults := vN, pyModule := vS "filerights.lists" 1269, annotations := some 912, code := vR 908 } }
def o_1144 (P : Params) : Obj := { cls := vT "dict", data := Data.dict #[{ hash := kH P (sO "__module__"), key := vS "__module__" 1400, val := vS "filerights.lists" 1269 }, { hash := kH P (sO "__name__"), key := vS "__name__" 1403, val := vS "from_text" 1402 }, { hash := kH P (sO "__qualname__"), key := vS "__qualname__" 1406, val := vS "AccessList.from_text" 1405 }, { hash := kH P (sO "__doc__"), key := vS "__doc__" 1408, val := vN }, { hash := kH P (sO "__annotations__"), key := vS "__annotations__" 1410, val := vR 912 }] 5 }
def o_1145 (P : Params) : Obj := { cls := vT "classmethod", dict := some 910, data := dF #[vR 909, Value.bool false] }
def o_1146 (P : Params) : Obj := { cls := vT "dict", data := Data.dict #[] }
def o_1147 (P : Params) : Obj := { cls := vT "tuple", data := Data.seq #[] }
def o_1148 (P : Params) : Obj := { cls := vN, data := dF #[] }
def o_1149 (P : Params) : Obj := { cls := vT "tuple", data := Data.seq #[vS "self" 1415] }
def o_1150 (P : Params) : Obj := { cls := vT "tuple", data := Data.seq #[] }
def o_1151 (P : Params) : Obj := { cls := vN, data := Data.func { name := sO "owner", qualname := sO "AccessList.owner", params := dA (inC (topS 63) 4), body := FuncBody.stmts (dB (inC (topS 63) 4)), scope := dS (inC (topS 63) 4), globals := 0, closure := [], defaults := vN, kwdefaults := vN } }
def o_1152 (P : Params) : Obj := { cls := vT "code", data := dF #[vS "owner" 1412, vS "AccessList.owner" 1413, vS "/claim/cut.py" 1414, vI 353 0, vI 1 0, vI 0 0, vI 0 0, vI 3 0, vR 913, Value.bool true, vI 181 0, vR 914, vN, vR 915, vR 916, vR 917, vI 1416 0, vI 353 0, vS "/claim/cut.py" 1417] }
def o_1153 (P : Params) : Obj := { cls := vT "function", data := Data.func { name := sO "owner", qualname := sO "AccessList.owner", params := dA (inC (topS 63) 4), body := FuncBody.stmts (dB (inC (topS 63) 4)), scope := dS (inC (topS 63) 4), globals := 3, closure := [], defaults := vN, kwdefaults := vN, pyModule := vS "filerights.lists" 1269, code := vR 918 } }
def o_1154 (P : Params) : Obj := { cls := vT "property", data := dF #[vR 919, vN, vN, vN, vS "owner" 1419, Value.bool false] }
def o_1155 (P : Params) : Obj := { cls := vT "tuple", data := Data.seq #[] }
def o_1156 (P : Params) : Obj := { cls := vN, data := dF #[] }
def o_1157 (P : Params) : Obj := { cls := vT "tuple", data := Data.seq #[vS "self" 1423] }
def o_1158 (P : Params) : Obj := { cls := vT "tuple", data := Data.seq #[] }
def o_1159 (P : Params) : Obj := { cls := vN, data := Data.func { name := sO "group", qualname := sO "AccessList.group", params := dA (inC (topS 63) 5), body := FuncBody.stmts (dB (inC (topS 63) 5)), scope := dS (inC (topS 63) 5), globals := 0, closure := [], defaults := vN, kwdefaults := vN } }
def o_1160 (P : Params) : Obj := { cls := vT "code", data := dF #[vS "group" 1420, vS "AccessList.group" 1421, vS "/claim/cut.py" 1422, vI 357 0, vI 1 0, vI 0 0, vI 0 0, vI 3 0, vR 921, Value.bool true, vI 181 0, vR 922, vN, vR 923, vR 924, vR 925, vI 1424 0, vI 357 0, vS "/claim/cut.py" 1425] }
def o_1161 (P : Params) : Obj := { cls := vT "function", data := Data.func { name := sO "group", qualname := sO "AccessList.group", params := dA (inC (topS 63) 5), body := FuncBody.stmts (dB (inC (topS 63) 5)), scope := dS (inC (topS 63) 5), globals := 3, closure := [], defaults := vN, kwdefaults := vN, pyModule := vS "filerights.lists" 1269, code := vR 926 } }
def o_1162 (P : Params) : Obj := { cls := vT "property", data := dF #[vR 927, vN, vN, vN, vS "group" 1427, Value.bool false] }
def o_1163 (P : Params) : Obj := { cls := vT "tuple", data := Data.seq #[] }
def o_1164 (P : Params) : Obj := { cls := vN, data := dF #[] }
def o_1165 (P : Params) : Obj := { cls := vT "tuple", data := Data.seq #[vS "self" 1431] }
def o_1166 (P : Params) : Obj := { cls := vT "tuple", data := Data.seq #[] }
def o_1167 (P : Params) : Obj := { cls := vN, data := Data.func { name := sO "other", qualname := sO "AccessList.other", params := dA (inC (topS 63) 6), body := FuncBody.stmts (dB (inC (topS 63) 6)), scope := dS (inC (topS 63) 6), globals := 0, closure := [], defaults := vN, kwdefaults := vN } }
def o_1168 (P : Params) : Obj := { cls := vT "code", data := dF #[vS "other" 1428, vS "AccessList.other" 1429, vS "/claim/cut.py" 1430, vI 361 0, vI 1 0, vI 0 0, vI 0 0, vI 3 0, vR 929, Value.bool true, vI 181 0, vR 930, vN, vR 931, vR 932, vR 933, vI 1432 0, vI 361 0, vS "/claim/cut.py" 1433] }
def o_1169 (P : Params) : Obj := { cls := vT "function", data := Data.func { name := sO "other", qualname := sO "AccessList.other", params := dA (inC (topS 63) 6), body := FuncBody.stmts (dB (inC (topS 63) 6)), scope := dS (inC (topS 63) 6), globals := 3, closure := [], defaults := vN, kwdefaults := vN, pyModule := vS "filerights.lists" 1269, code := vR 934 } }
def o_1170 (P : Params) : Obj := { cls := vT "property", data := dF #[vR 935, vN, vN, vN, vS "other" 1435, Value.bool false] }
def o_1171 (P : Params) : Obj := { cls := vT "tuple", data := Data.seq #[] }
def o_1172 (P : Params) : Obj := { cls := vN, data := dF #[] }
def o_1173 (P : Params) : Obj := { cls := vT "tuple", data := Data.seq #[vS "self" 1439] }
def o_1174 (P : Params) : Obj := { cls := vT "tuple", data := Data.seq #[] }
def o_1175 (P : Params) : Obj := { cls := vN, data := Data.func { name := sO "mask", qualname := sO "AccessList.mask", params := dA (inC (topS 63) 7), body := FuncBody.stmts (dB (inC (topS 63) 7)), scope := dS (inC (topS 63) 7), globals := 0, closure := [], defaults := vN, kwdefaults := vN } }
def o_1176 (P : Params) : Obj := { cls := vT "code", data := dF #[vS "mask" 1436, vS "AccessList.mask" 1437, vS "/claim/cut.py" 1438, vI 365 0, vI 1 0, vI 0 0, vI 0 0, vI 3 0, vR 937, Value.bool true, vI 181 0, vR 938, vN, vR 939, vR 940, vR 941, vI 1440 0, vI 365 0, vS "/claim/cut.py" 1441] }
def o_1177 (P : Params) : Obj := { cls := vT "function", data := Data.func { name := sO "mask", qualname := sO "AccessList.mask", params := dA (inC (topS 63) 7), body := FuncBody.stmts (dB (inC (topS 63) 7)), scope := dS (inC (topS 63) 7), globals := 3, closure := [], defaults := vN, kwdefaults := vN, pyModule := vS "filerights.lists" 1269, code := vR 942 } }
def o_1178 (P : Params) : Obj := { cls := vT "property", data := dF #[vR 943, vN, vN, vN, vS "mask" 1443, Value.bool false] }
def o_1179 (P : Params) : Obj := { cls := vT "tuple", data := Data.seq #[] }
def o_1180 (P : Params) : Obj := { cls := vN, data := dF #[] }
def o_1181 (P : Params) : Obj := { cls := vT "tuple", data := Data.seq #[vS "self" 1447, vS "middle" 1448] }
def o_1182 (P : Params) : Obj := { cls := vT "tuple", data := Data.seq #[] }
def o_1183 (P : Params) : Obj := { cls := vN, data := Data.func { name := sO "digits", qualname := sO "AccessList.digits", params := dA (inC (topS 63) 8), body := FuncBody.stmts (dB (inC (topS 63) 8)), scope := dS (inC (topS 63) 8), globals := 0, closure := [], defaults := vN, kwdefaults := vN } }
def o_1184 (P : Params) : Obj := { cls := vT "code", data := dF #[vS "digits" 1444, vS "AccessList.digits" 1445, vS "/claim/cut.py" 1446, vI 369 0, vI 1 0, vI 0 0, vI 0 0, vI 3 0, vR 945, Value.bool true, vI 181 0, vR 946, vN, vR 947, vR 948, vR 949, vI 1449 0, vI 369 0, vS "/claim/cut.py" 1450] }
def o_1185 (P : Params) : Obj := { cls := vT "function", data := Data.func { name := sO "digits", qualname := sO "AccessList.digits", params := dA (inC (topS 63) 8), body := FuncBody.stmts (dB (inC (topS 63) 8)), scope := dS (inC (topS 63) 8), globals := 3, closure := [], defaults := vN, kwdefaults := vN, pyModule := vS "filerights.lists" 1269, code := vR 950 } }
def o_1186 (P : Params) : Obj := { cls := vT "property", data := dF #[vR 951, vN, vN, vN, vS "digits" 1452, Value.bool false] }
def o_1187 (P : Params) : Obj := { cls := vT "tuple", data := Data.seq #[] }
def o_1188 (P : Params) : Obj := { cls := vN, data := dF #[] }
def o_1189 (P : Params) : Obj := { cls := vT "tuple", data := Data.seq #[vS "self" 1456] }
def o_1190 (P : Params) : Obj := { cls := vT "tuple", data := Data.seq #[] }
def o_1191 (P : Params) : Obj := { cls := vN, data := Data.func { name := sO "users", qualname := sO "AccessList.users", params := dA (inC (topS 63) 9), body := FuncBody.stmts (dB (inC (topS 63) 9)), scope := dS (inC (topS 63) 9), globals := 0, closure := [], defaults := vN, kwdefaults := vN } }
def o_1192 (P : Params) : Obj := { cls := vT "code", data := dF #[vS "users" 1453, vS "AccessList.users" 1454, vS "/claim/cut.py" 1455, vI 374 0, vI 1 0, vI 0 0, vI 0 0, vI 3 0, vR 953, Value.bool true, vI 181 0, vR 954, vN, vR 955, vR 956, vR 957, vI 1457 0, vI 374 0, vS "/claim/cut.py" 1458] }
def o_1193 (P : Params) : Obj := { cls := vT "function", data := Data.func { name := sO "users", qualname := sO "AccessList.users", params := dA (inC (topS 63) 9), body := FuncBody.stmts (dB (inC (topS 63) 9)), scope := dS (inC (topS 63) 9), globals := 3, closure := [], defaults := vN, kwdefaults := vN, pyModule := vS "filerights.lists" 1269, code := vR 958 } }
def o_1194 (P : Params) : Obj := { cls := vT "tuple", data := Data.seq #[] }
def o_1195 (P : Params) : Obj := { cls := vN, data := dF #[] }
def o_1196 (P : Params) : Obj := { cls := vT "tuple", data := Data.seq #[vS "self" 1463] }
def o_1197 (P : Params) : Obj := { cls := vT "tuple", data := Data.seq #[] }
def o_1198 (P : Params) : Obj := { cls := vN, data := Data.func { name := sO "groups", qualname := sO "AccessList.groups", params := dA (inC (topS 63) 10), body := FuncBody.stmts (dB (inC (topS 63) 10)), scope := dS (inC (topS 63) 10), globals := 0, closure := [], defaults := vN, kwdefaults := vN } }
def o_1199 (P : Params) : Obj := { cls := vT "code", data := dF #[vS "groups" 1460, vS "AccessList.groups" 1461, vS "/claim/cut.py" 1462, vI 377 0, vI 1 0, vI 0 0, vI 0 0, vI 3 0, vR 960, Value.bool true, vI 181 0, vR 961, vN, vR 962, vR 963, vR 964, vI 1464 0, vI 377 0, vS "/claim/cut.py" 1465] }
def o_1200 (P : Params) : Obj := { cls := vT "function", data := Data.func { name := sO "groups", qualname := sO "AccessList.groups", params := dA (inC (topS 63) 10), body := FuncBody.stmts (dB (inC (topS 63) 10)), scope := dS (inC (topS 63) 10), globals := 3, closure := [], defaults := vN, kwdefaults := vN, pyModule := vS "filerights.lists" 1269, code := vR 965 } }
def o_1201 (P : Params) : Obj := { cls := vT "tuple", data := Data.seq #[] }
def o_1202 (P : Params) : Obj := { cls := vN, data := dF #[] }
def o_1203 (P : Params) : Obj := { cls := vT "tuple", data := Data.seq #[vS "self" 1470] }
def o_1204 (P : Params) : Obj := { cls := vT "tuple", data := Data.seq #[] }
def o_1205 (P : Params) : Obj := { cls := vN, data := Data.func { name := sO "entries", qualname := sO "AccessList.entries", params := dA (inC (topS 63) 11), body := FuncBody.stmts (dB (inC (topS 63) 11)), scope := dS (inC (topS 63) 11), globals := 0, closure := [], defaults := vN, kwdefaults := vN } }
def o_1206 (P : Params) : Obj := { cls := vT "code", data := dF #[vS "entries" 1467, vS "AccessList.entries" 1468, vS "/claim/cut.py" 1469, vI 380 0, vI 1 0, vI 0 0, vI 0 0, vI 3 0, vR 967, Value.bool true, vI 181 0, vR 968, vN, vR 969, vR 970, vR 971, vI 1471 0, vI 380 0, vS "/claim/cut.py" 1472] }
def o_1207 (P : Params) : Obj := { cls := vT "function", data := Data.func { name := sO "entries", qualname := sO "AccessList.entries", params := dA (inC (topS 63) 11), body := FuncBody.stmts (dB (inC (topS 63) 11)), scope := dS (inC (topS 63) 11), globals := 3, closure := [], defaults := vN, kwdefaults := vN, pyModule := vS "filerights.lists" 1269, code := vR 972 } }
def o_1208 (P : Params) : Obj := { cls := vT "tuple", data := Data.seq #[] }
def o_1209 (P : Params) : Obj := { cls := vN, data := dF #[] }
def o_1210 (P : Params) : Obj := { cls := vT "tuple", data := Data.seq #[vS "self" 1477] }
def o_1211 (P : Params) : Obj := { cls := vT "tuple", data := Data.seq #[] }
def o_1212 (P : Params) : Obj := { cls := vN, data := Data.func { name := sO "__len__", qualname := sO "AccessList.__len__", params := dA (inC (topS 63) 12), body := FuncBody.stmts (dB (inC (topS 63) 12)), scope := dS (inC (topS 63) 12), globals := 0, closure := [], defaults := vN, kwdefaults := vN } }
def o_1213 (P : Params) : Obj := { cls := vT "code", data := dF #[vS "__len__" 1474, vS "AccessList.__len__" 1475, vS "/claim/cut.py" 1476, vI 383 0, vI 1 0, vI 0 0, vI 0 0, vI 3 0, vR 974, Value.bool true, vI 181 0, vR 975, vN, vR 976, vR 977, vR 978, vI 1478 0, vI 383 0, vS "/claim/cut.py" 1479] }
def o_1214 (P : Params) : Obj := { cls := vT "function", data := Data.func { name := sO "__len__", qualname := sO "AccessList.__len__", params := dA (inC (topS 63) 12), body := FuncBody.stmts (dB (inC (topS 63) 12)), scope := dS (inC (topS 63) 12), globals := 3, closure := [], defaults := vN, kwdefaults := vN, pyModule := vS "filerights.lists" 1269, code := vR 979 } }
def o_1215 (P : Params) : Obj := { cls := vT "tuple", data := Data.seq #[] }
def o_1216 (P : Params) : Obj := { cls := vN, data := dF #[] }
def o_1217 (P : Params) : Obj := { cls := vT "tuple", data := Data.seq #[vS "self" 1484, vS "other" 1485] }
def o_1218 (P : Params) : Obj := { cls := vT "tuple", data := Data.seq #[] }
def o_1219 (P : Params) : Obj := { cls := vN, data := Data.func { name := sO "__eq__", qualname := sO "AccessList.__eq__", params := dA (inC (topS 63) 13), body := FuncBody.stmts (dB (inC (topS 63) 13)), scope := dS (inC (topS 63) 13), globals := 0, closure := [], defaults := vN, kwdefaults := vN } }
def o_1220 (P : Params) : Obj := { cls := vT "code", data := dF #[vS "__eq__" 1481, vS "AccessList.__eq__" 1482, vS "/claim/cut.py" 1483, vI 386 0, vI 2 0, vI 0 0, vI 0 0, vI 3 0, vR 981, Value.bool true, vI 181 0, vR 982, vN, vR 983, vR 984, vR 985, vI 1486 0, vI 386 0, vS "/claim/cut.py" 1487] }
def o_1221 (P : Params) : Obj := { cls := vT "function", data := Data.func { name := sO "__eq__", qualname := sO "AccessList.__eq__", params := dA (inC (topS 63) 13), body := FuncBody.stmts (dB (inC (topS 63) 13)), scope := dS (inC (topS 63) 13), globals := 3, closure := [], defaults := vN, kwdefaults := vN, pyModule := vS "filerights.lists" 1269, code := vR 986 } }
def o_1222 (P : Params) : Obj := { cls := vT "tuple", data := Data.seq #[] }
def o_1223 (P : Params) : Obj := { cls := vN, data := dF #[] }
def o_1224 (P : Params) : Obj := { cls := vN, data := Data.func { name := sO "__str__", qualname := sO "AccessList.__str__", params := dA (inC (topS 63) 14), body := FuncBody.stmts (dB (inC (topS 63) 14)), scope := dS (inC (topS 63) 14), globals := 0, closure := [], defaults := vN, kwdefaults := vN } }
def o_1225 (P : Params) : Obj := { cls := vT "code", data := dF #[vS "__str__" 1489, vS "AccessList.__str__" 1490, vS "/claim/cut.py" 1491, vI 395 0, vI 1 0, vI 0 0, vI 0 0, vI 3 0, vR 988, Value.bool true, vI 181 0, vR 989, vN, vN, vN, vR 990, vI 1492 0, vI 395 0, vS "/claim/cut.py" 1493] }
def o_1226 (P : Params) : Obj := { cls := vT "function", data := Data.func { name := sO "__str__", qualname := sO "AccessList.__str__", params := dA (inC (topS 63) 14), body := FuncBody.stmts (dB (inC (topS 63) 14)), scope := dS (inC (topS 63) 14), globals := 3, closure := [], defaults := vN, kwdefaults := vN, pyModule := vS "filerights.lists" 1269, code := vR 991 } }
def o_1227 (P : Params) : Obj := { cls := vT "tuple", data := Data.seq #[] }
def o_1228 (P : Params) : Obj := { cls := vN, data := dF #[] }
def o_1229 (P : Params) : Obj := { cls := vT "tuple", data := Data.seq #[vS "self" 1498] }
def o_1230 (P : Params) : Obj := { cls := vT "tuple", data := Data.seq #[] }
def o_1231 (P : Params) : Obj := { cls := vN, data := Data.func { name := sO "__repr__", qualname := sO "AccessList.__repr__", params := dA (inC (topS 63) 15), body := FuncBody.stmts (dB (inC (topS 63) 15)), scope := dS (inC (topS 63) 15), globals := 0, closure := [], defaults := vN, kwdefaults := vN } }
def o_1232 (P : Params) : Obj := { cls := vT "code", data := dF #[vS "__repr__" 1495, vS "AccessList.__repr__" 1496, vS "/claim/cut.py" 1497, vI 398 0, vI 1 0, vI 0 0, vI 0 0, vI 3 0, vR 993, Value.bool true, vI 181 0, vR 994, vN, vR 995, vR 996, vR 997, vI 1499 0, vI 398 0, vS "/claim/cut.py" 1500] }
def o_1233 (P : Params) : Obj := { cls := vT "function", data := Data.func { name := sO "__repr__", qualname := sO "AccessList.__repr__", params := dA (inC (topS 63) 15), body := FuncBody.stmts (dB (inC (topS 63) 15)), scope := dS (inC (topS 63) 15), globals := 3, closure := [], defaults := vN, kwdefaults := vN, pyModule := vS "filerights.lists" 1269, code := vR 998 } }
def o_1234 (P : Params) : Obj := { cls := vT "tuple", data := Data.seq #[] }
def o_1235 (P : Params) : Obj := { cls := vN, data := dF #[] }
def o_1236 (P : Params) : Obj := { cls := vT "tuple", data := Data.seq #[vS "self" 1505, vS "plain" 1506] }
def o_1237 (P : Params) : Obj := { cls := vT "tuple", data := Data.seq #[] }
def o_1238 (P : Params) : Obj := { cls := vN, data := Data.func { name := sO "parts", qualname := sO "AccessList.parts", params := dA (inC (topS 63) 16), body := FuncBody.stmts (dB (inC (topS 63) 16)), scope := dS (inC (topS 63) 16), globals := 0, closure := [], defaults := vN, kwdefaults := vN } }
def o_1239 (P : Params) : Obj := { cls := vT "code", data := dF #[vS "parts" 1502, vS "AccessList.parts" 1503, vS "/claim/cut.py" 1504, vI 401 0, vI 1 0, vI 0 0, vI 0 0, vI 3 0, vR 1000, Value.bool true, vI 181 0, vR 1001, vN, vR 1002, vR 1003, vR 1004, vI 1507 0, vI 401 0, vS "/claim/cut.py" 1508] }
def o_1240 (P : Params) : Obj := { cls := vT "function", data := Data.func { name := sO "parts", qualname := sO "AccessList.parts", params := dA (inC (topS 63) 16), body := FuncBody.stmts (dB (inC (topS 63) 16)), scope := dS (inC (topS 63) 16), globals := 3, closure := [], defaults := vN, kwdefaults := vN, pyModule := vS "filerights.lists" 1269, code := vR 1005 } }
def o_1241 (P : Params) : Obj := { cls := vT "dict", data := Data.dict #[{ hash := kH P (sO "name"), key := vS "name" 1511, val := vS "" 1510 }] 1 }
def o_1242 (P : Params) : Obj := { cls := vT "tuple", data := Data.seq #[] }
def o_1243 (P : Params) : Obj := { cls := vN, data := dF #[] }
def o_1244 (P : Params) : Obj := { cls := vT "tuple", data := Data.seq #[vS "self" 1515, vS "kind" 1516, vS "rights" 1517, vS "name" 1518] }
def o_1245 (P : Params) : Obj := { cls := vT "tuple", data := Data.seq #[] }
def o_1246 (P : Params) : Obj := { cls := vN, data := Data.func { name := sO "with_entry", qualname := sO "AccessList.with_entry", params := dA (inC (topS 63) 17), body := FuncBody.stmts (dB (inC (topS 63) 17)), scope := dS (inC (topS 63) 17), globals := 0, closure := [], defaults := vN, kwdefaults := vN } }
def o_1247 (P : Params) : Obj := { cls := vT "code", data := dF #[vS "with_entry" 1512, vS "AccessList.with_entry" 1513, vS "/claim/cut.py" 1514, vI 405 0, vI 3 0, vI 0 0, vI 1 0, vI 3 0, vR 1008, Value.bool true, vI 181 0, vR 1009, vN, vR 1010, vR 1011, vR 1012, vI 1519 0, vI 405 0, vS "/claim/cut.py" 1520] }
def o_1248 (P : Params) : Obj := { cls := vT "function", data := Data.func { name := sO "with_entry", qualname := sO "AccessList.with_entry", params := dA (inC (topS 63) 17), body := FuncBody.stmts (dB (inC (topS 63) 17)), scope := dS (inC (topS 63) 17), globals := 3, closure := [], defaults := vN, kwdefaults := vR 1007, pyModule := vS "filerights.lists" 1269, code := vR 1013 } }
def o_1249 (P : Params) : Obj := { cls := vT "tuple", data := Data.seq #[] }
def o_1250 (P : Params) : Obj := { cls := vN, data := dF #[] }
def o_1251 (P : Params) : Obj := { cls := vT "tuple", data := Data.seq #[vS "self" 1525, vS "kind" 1526, vS "name" 1527, vS "plain" 1528, vS "users" 1529, vS "groups" 1530] }
def o_1252 (P : Params) : Obj := { cls := vT "tuple", data := Data.seq #[] }
def o_1253 (P : Params) : Obj := { cls := vN, data := Data.func { name := sO "without", qualname := sO "AccessList.without", params := dA (inC (topS 63) 18), body := FuncBody.stmts (dB (inC (topS 63) 18)), scope := dS (inC (topS 63) 18), globals := 0, closure := [], defaults := vN, kwdefaults := vN } }
def o_1254 (P : Params) : Obj := { cls := vT "code", data := dF #[vS "without" 1522, vS "AccessList.without" 1523, vS "/claim/cut.py" 1524, vI 408 0, vI 3 0, vI 0 0, vI 0 0, vI 3 0, vR 1015, Value.bool true, vI 181 0, vR 1016, vN, vR 1017, vR 1018, vR 1019, vI 1531 0, vI 408 0, vS "/claim/cut.py" 1532] }
def o_1255 (P : Params) : Obj := { cls := vT "function", data := Data.func { name := sO "without", qualname := sO "AccessList.without", params := dA (inC (topS 63) 18), body := FuncBody.stmts (dB (inC (topS 63) 18)), scope := dS (inC (topS 63) 18), globals := 3, closure := [], defaults := vN, kwdefaults := vN, pyModule := vS "filerights.lists" 1269, code := vR 1020 } }
def o_1256 (P : Params) : Obj := { cls := vT "tuple", data := Data.seq #[] }
def o_1257 (P : Params) : Obj := { cls := vN, data := dF #[] }
def o_1258 (P : Params) : Obj := { cls := vT "tuple", data := Data.seq #[vS "self" 1537, vS "digits" 1538] }
def o_1259 (P : Params) : Obj := { cls := vT "tuple", data := Data.seq #[] }
def o_1260 (P : Params) : Obj := { cls := vN, data := Data.func { name := sO "with_digits", qualname := sO "AccessList.with_digits", params := dA (inC (topS 63) 19), body := FuncBody.stmts (dB (inC (topS 63) 19)), scope := dS (inC (topS 63) 19), globals := 0, closure := [], defaults := vN, kwdefaults := vN } }
def o_1261 (P : Params) : Obj := { cls := vT "code", data := dF #[vS "with_digits" 1534, vS "AccessList.with_digits" 1535, vS "/claim/cut.py" 1536, vI 420 0, vI 2 0, vI 0 0, vI 0 0, vI 3 0, vR 1022, Value.bool true, vI 181 0, vR 1023, vN, vR 1024, vR 1025, vR 1026, vI 1539 0, vI 420 0, vS "/claim/cut.py" 1540] }
def o_1262 (P : Params) : Obj := { cls := vT "function", data := Data.func { name := sO "with_digits", qualname := sO "AccessList.with_digits", params := dA (inC (topS 63) 19), body := FuncBody.stmts (dB (inC (topS 63) 19)), scope := dS (inC (topS 63) 19), globals := 3, closure := [], defaults := vN, kwdefaults := vN, pyModule := vS "filerights.lists" 1269, code := vR 1027 } }
def o_1263 (P : Params) : Obj := { cls := vT "tuple", data := Data.seq #[] }
def o_1264 (P : Params) : Obj := { cls := vN, data := dF #[] }
def o_1265 (P : Params) : Obj := { cls := vT "tuple", data := Data.seq #[vS "self" 1545, vS "digits" 1546, vS "owner" 1547, vS "middle" 1548, vS "other" 1549, vS "plain" 1550, vS "users" 1551, vS "groups" 1552] }
def o_1266 (P : Params) : Obj := { cls := vT "tuple", data := Data.seq #[] }
def o_1267 (P : Params) : Obj := { cls := vN, data := Data.func { name := sO "narrowed", qualname := sO "AccessList.narrowed", params := dA (inC (topS 63) 20), body := FuncBody.stmts (dB (inC (topS 63) 20)), scope := dS (inC (topS 63) 20), globals := 0, closure := [], defaults := vN, kwdefaults := vN } }
def o_1268 (P : Params) : Obj := { cls := vT "code", data := dF #[vS "narrowed" 1542, vS "AccessList.narrowed" 1543, vS "/claim/cut.py" 1544, vI 423 0, vI 2 0, vI 0 0, vI 0 0, vI 3 0, vR 1029, Value.bool true, vI 181 0, vR 1030, vN, vR 1031, vR 1032, vR 1033, vI 1553 0, vI 423 0, vS "/claim/cut.py" 1554] }
def o_1269 (P : Params) : Obj := { cls := vT "function", data := Data.func { name := sO "narrowed", qualname := sO "AccessList.narrowed", params := dA (inC (topS 63) 20), body := FuncBody.stmts (dB (inC (topS 63) 20)), scope := dS (inC (topS 63) 20), globals := 3, closure := [], defaults := vN, kwdefaults := vN, pyModule := vS "filerights.lists" 1269, code := vR 1034 } }
def o_1270 (P : Params) : Obj := { cls := vT "tuple", data := Data.seq #[vS "own_entries" 1556, vS "own_group" 1557, vS "own_groups" 1558, vS "own_mask" 1559, vS "own_other" 1560, vS "own_owner" 1561, vS "own_users" 1562] }
def o_1271 (P : Params) : Obj := { cls := vT "dict", data := Data.dict #[{ hash := kH P (sO "__module__"), key := vS "__module__" 1337, val := vS "filerights.lists" 1269 }, { hash := kH P (sO "__firstlineno__"), key := vS "__firstlineno__" 1341, val := vI 313 1340 }, { hash := kH P (sO "__init__"), key := vS "__init__" 1350, val := vR 882 }, { hash := kH P (sO "plain"), key := vS "plain" 1373, val := vR 891 }, { hash := kH P (sO "everything"), key := vS "everything" 1391, val := vR 901 }, { hash := kH P (sO "from_text"), key := vS "from_text" 1411, val := vR 911 }, { hash := kH P (sO "owner"), key := vS "owner" 1419, val := vR 920 }, { hash := kH P (sO "group"), key := vS "group" 1427, val := vR 928 }, { hash := kH P (sO "other"), key := vS "other" 1435, val := vR 936 }, { hash := kH P (sO "mask"), key := vS "mask" 1443, val := vR 944 }, { hash := kH P (sO "digits"), key := vS "digits" 1452, val := vR 952 }, { hash := kH P (sO "users"), key := vS "users" 1459, val := vR 959 }, { hash := kH P (sO "groups"), key := vS "groups" 1466, val := vR 966 }, { hash := kH P (sO "entries"), key := vS "entries" 1473, val := vR 973 }, { hash := kH P (sO "__len__"), key := vS "__len__" 1480, val := vR 980 }, { hash := kH P (sO "__eq__"), key := vS "__eq__" 1488, val := vR 987 }, { hash := kH P (sO "__str__"), key := vS "__str__" 1494, val := vR 992 }, { hash := kH P (sO "__repr__"), key := vS "__repr__" 1501, val := vR 999 }, { hash := kH P (sO "parts"), key := vS "parts" 1509, val := vR 1006 }, { hash := kH P (sO "with_entry"), key := vS "with_entry" 1521, val := vR 1014 }, { hash := kH P (sO "without"), key := vS "without" 1533, val := vR 1021 }, { hash := kH P (sO "with_digits"), key := vS "with_digits" 1541, val := vR 1028 }, { hash := kH P (sO "narrowed"), key := vS "narrowed" 1555, val := vR 1035 }, { hash := kH P (sO "__static_attributes__"), key := vS "__static_attributes__" 1563, val := vR 1036 }, { hash := kH P (sO "__dict__"), key := vS "__dict__" 1565, val := vR 1039 }, { hash := kH P (sO "__weakref__"), key := vS "__weakref__" 1567, val := vR 1040 }, { hash := kH P (sO "__doc__"), key := vS "__doc__" 1568, val := vN }, { hash := kH P (sO "__hash__"), key := vS "__hash__" 1569, val := vN }] 5 }
def o_1272 (P : Params) : Obj := { cls := vT "type", data := Data.cls { name := sO "AccessList", bases := [vT "object"], mro := [vR 1038, vT "object"], ns := 1037, qualname := sO "AccessList" }, slots := #[none, none, some (vS "AccessList" 1330), some (vS "AccessList" 1338), some (vB "object.__new__"), some (Value.bool true)] }
def o_1273 (P : Params) : Obj := { cls := vT "getset_descriptor", data := dF #[vS "__dict__" 1564, vR 1038, vB "function.__dict__", vB "function.__dict__#set"] }
def o_1274 (P : Params) : Obj := { cls := vT "getset_descriptor", data := dF #[vS "__weakref__" 1566, vR 1038, vB "ExceptionGroup.__weakref__", vN] }
def o_1275 (P : Params) : Obj := { cls := vT "super", data := dF #[vR 1038, vR 1038, vR 1038] }
def o_1276 (P : Params) : Obj := { cls := vT "builtin_function_or_method", data := dF #[vB "object.__init_subclass__", vR 1038] }
noncomputable def tree2 (P : Params) : W.BT := nd (W.boot_o_0 P) (nd (W.boot_o_1 P) (nd (o_1102 P) (nd (W.boot_o_7 P) (nd (o_7 P) (nd (o_360 P) (nd (o_63 P) (nd (o_139 P) (nd (o_291 P) (nd (o_595 P) (nd (o_1257 P) nl nl) nl) (nd (o_993 P) nl nl)) (nd (o_443 P) (nd (o_744 P) nl nl) (nd (o_1129 P) nl nl))) (nd (o_215 P) (nd (o_367 P) (nd (o_671 P) nl nl) (nd (o_1057 P) nl nl)) (nd (o_519 P) (nd (o_808 P) nl nl) (nd (o_1193 P) nl nl)))) (nd (o_99 P) (nd (o_175 P) (nd (o_327 P) (nd (o_631 P) nl nl) (nd (o_1025 P) nl nl)) (nd (o_479 P) (nd (o_776 P) nl nl) (nd (o_1161 P) nl nl))) (nd (o_251 P) (nd (o_403 P) (nd (o_707 P) nl nl) (nd (o_1092 P) nl nl)) (nd (o_555 P) (nd (o_840 P) nl nl) (nd (o_1225 P) nl nl))))) (nd (o_43 P) (nd (o_79 P) (nd (o_155 P) (nd (o_311 P) (nd (o_615 P) (nd (o_1273 P) nl nl) nl) (nd (o_1009 P) nl nl)) (nd (o_463 P) (nd (o_760 P) nl nl) (nd (o_1145 P) nl nl))) (nd (o_231 P) (nd (o_387 P) (nd (o_691 P) nl nl) (nd (o_1076 P) nl nl)) (nd (o_539 P) (nd (o_824 P) nl nl) (nd (o_1209 P) nl nl)))) (nd (o_119 P) (nd (o_195 P) (nd (o_347 P) (nd (o_651 P) nl nl) (nd (o_1041 P) nl nl)) (nd (o_499 P) (nd (o_792 P) nl nl) (nd (o_1177 P) nl nl))) (nd (o_271 P) (nd (o_423 P) (nd (o_728 P) nl nl) (nd (o_1113 P) nl nl)) (nd (o_575 P) (nd (o_856 P) nl nl) (nd (o_1241 P) nl nl)))))) (nd (o_15 P) (nd (o_35 P) (nd (o_71 P) (nd (o_147 P) (nd (o_299 P) (nd (o_603 P) (nd (o_1265 P) nl nl) nl) (nd (o_1001 P) nl nl)) (nd (o_451 P) (nd (o_752 P) nl nl) (nd (o_1137 P) nl nl))) (nd (o_223 P) (nd (o_375 P) (nd (o_679 P) nl nl) (nd (o_1068 P) nl nl)) (nd (o_527 P) (nd (o_816 P) nl nl) (nd (o_1201 P) nl nl)))) (nd (o_111 P) (nd (o_187 P) (nd (o_339 P) (nd (o_643 P) nl nl) (nd (o_1033 P) nl nl)) (nd (o_491 P) (nd (o_784 P) nl nl) (nd (o_1169 P) nl nl))) (nd (o_263 P) (nd (o_415 P) (nd (o_715 P) nl nl) (nd (o_1105 P) nl nl)) (nd (o_567 P) (nd (o_848 P) nl nl) (nd (o_1233 P) nl nl))))) (nd (o_51 P) (nd (o_91 P) (nd (o_167 P) (nd (o_319 P) (nd (o_623 P) nl nl) (nd (o_1017 P) nl nl)) (nd (o_471 P) (nd (o_768 P) nl nl) (nd (o_1153 P) nl nl))) (nd (o_243 P) (nd (o_395 P) (nd (o_699 P) nl nl) (nd (o_1084 P) nl nl)) (nd (o_547 P) (nd (o_832 P) nl nl) (nd (o_1217 P) nl nl)))) (nd (o_127 P) (nd (o_203 P) (nd (o_355 P) (nd (o_663 P) nl nl) (nd (o_1049 P) nl nl)) (nd (o_511 P) (nd (o_800 P) nl nl) (nd (o_1185 P) nl nl))) (nd (o_279 P) (nd (o_431 P) (nd (o_736 P) nl nl) (nd (o_1121 P) nl nl)) (nd (o_587 P) (nd (o_985 P) nl nl) (nd (o_1249 P) nl nl))))))) (nd (o_1 P) (nd (o_11 P) (nd (o_31 P) (nd (o_67 P) (nd (o_143 P) (nd (o_295 P) (nd (o_599 P) (nd (o_1261 P) nl nl) nl) (nd (o_997 P) nl nl)) (nd (o_447 P) (nd (o_748 P) nl nl) (nd (o_1133 P) nl nl))) (nd (o_219 P) (nd (o_371 P) (nd (o_675 P) nl nl) (nd (o_1064 P) nl nl)) (nd (o_523 P) (nd (o_812 P) nl nl) (nd (o_1197 P) nl nl)))) (nd (o_103 P) (nd (o_179 P) (nd (o_331 P) (nd (o_639 P) nl nl) (nd (o_1029 P) nl nl)) (nd (o_487 P) (nd (o_780 P) nl nl) (nd (o_1165 P) nl nl))) (nd (o_255 P) (nd (o_411 P) (nd (o_711 P) nl nl) (nd (o_1096 P) nl nl)) (nd (o_563 P) (nd (o_844 P) nl nl) (nd (o_1229 P) nl nl))))) (nd (o_47 P) (nd (o_87 P) (nd (o_163 P) (nd (o_315 P) (nd (o_619 P) nl nl) (nd (o_1013 P) nl nl)) (nd (o_467 P) (nd (o_764 P) nl nl) (nd (o_1149 P) nl nl))) (nd (o_239 P) (nd (o_391 P) (nd (o_695 P) nl nl) (nd (o_1080 P) nl nl)) (nd (o_543 P) (nd (o_828 P) nl nl) (nd (o_1213 P) nl nl)))) (nd (o_123 P) (nd (o_199 P) (nd (o_351 P) (nd (o_655 P) nl nl) (nd (o_1045 P) nl nl)) (nd (o_503 P) (nd (o_796 P) nl nl) (nd (o_1181 P) nl nl))) (nd (o_275 P) (nd (o_427 P) (nd (o_732 P) nl nl) (nd (o_1117 P) nl nl)) (nd (o_579 P) (nd (o_981 P) nl nl) (nd (o_1245 P) nl nl)))))) (nd (o_19 P) (nd (o_39 P) (nd (o_75 P) (nd (o_151 P) (nd (o_303 P) (nd (o_611 P) (nd (o_1269 P) nl nl) nl) (nd (o_1005 P) nl nl)) (nd (o_455 P) (nd (o_756 P) nl nl) (nd (o_1141 P) nl nl))) (nd (o_227 P) (nd (o_379 P) (nd (o_687 P) nl nl) (nd (o_1072 P) nl nl)) (nd (o_531 P) (nd (o_820 P) nl nl) (nd (o_1205 P) nl nl)))) (nd (o_115 P) (nd (o_191 P) (nd (o_343 P) (nd (o_647 P) nl nl) (nd (o_1037 P) nl nl)) (nd (o_495 P) (nd (o_788 P) nl nl) (nd (o_1173 P) nl nl))) (nd (o_267 P) (nd (o_419 P) (nd (o_724 P) nl nl) (nd (o_1109 P) nl nl)) (nd (o_571 P) (nd (o_852 P) nl nl) (nd (o_1237 P) nl nl))))) (nd (o_55 P) (nd (o_95 P) (nd (o_171 P) (nd (o_323 P) (nd (o_627 P) nl nl) (nd (o_1021 P) nl nl)) (nd (o_475 P) (nd (o_772 P) nl nl) (nd (o_1157 P) nl nl))) (nd (o_247 P) (nd (o_399 P) (nd (o_703 P) nl nl) (nd (o_1088 P) nl nl)) (nd (o_551 P) (nd (o_836 P) nl nl) (nd (o_1221 P) nl nl)))) (nd (o_131 P) (nd (o_211 P) (nd (o_363 P) (nd (o_667 P) nl nl) (nd (o_1053 P) nl nl)) (nd (o_515 P) (nd (o_804 P) nl nl) (nd (o_1189 P) nl nl))) (nd (o_287 P) (nd (o_439 P) (nd (o_740 P) nl nl) (nd (o_1125 P) nl nl)) (nd (o_591 P) (nd (o_989 P) nl nl) (nd (o_1253 P) nl nl)))))))) (nd (W.boot_o_5 P) (nd (W.boot_o_9 P) (nd (o_9 P) (nd (o_25 P) (nd (o_65 P) (nd (o_141 P) (nd (o_293 P) (nd (o_597 P) (nd (o_1259 P) nl nl) nl) (nd (o_995 P) nl nl)) (nd (o_445 P) (nd (o_746 P) nl nl) (nd (o_1131 P) nl nl))) (nd (o_217 P) (nd (o_369 P) (nd (o_673 P) nl nl) (nd (o_1059 P) nl nl)) (nd (o_521 P) (nd (o_810 P) nl nl) (nd (o_1195 P) nl nl)))) (nd (o_101 P) (nd (o_177 P) (nd (o_329 P) (nd (o_637 P) nl nl) (nd (o_1027 P) nl nl)) (nd (o_481 P) (nd (o_778 P) nl nl) (nd (o_1163 P) nl nl))) (nd (o_253 P) (nd (o_405 P) (nd (o_709 P) nl nl) (nd (o_1094 P) nl nl)) (nd (o_561 P) (nd (o_842 P) nl nl) (nd (o_1227 P) nl nl))))) (nd (o_45 P) (nd (o_81 P) (nd (o_161 P) (nd (o_313 P) (nd (o_617 P) (nd (o_1275 P) nl nl) nl) (nd (o_1011 P) nl nl)) (nd (o_465 P) (nd (o_762 P) nl nl) (nd (o_1147 P) nl nl))) (nd (o_237 P) (nd (o_389 P) (nd (o_693 P) nl nl) (nd (o_1078 P) nl nl)) (nd (o_541 P) (nd (o_826 P) nl nl) (nd (o_1211 P) nl nl)))) (nd (o_121 P) (nd (o_197 P) (nd (o_349 P) (nd (o_653 P) nl nl) (nd (o_1043 P) nl nl)) (nd (o_501 P) (nd (o_794 P) nl nl) (nd (o_1179 P) nl nl))) (nd (o_273 P) (nd (o_425 P) (nd (o_730 P) nl nl) (nd (o_1115 P) nl nl)) (nd (o_577 P) (nd (o_858 P) nl nl) (nd (o_1243 P) nl nl)))))) (nd (o_17 P) (nd (o_37 P) (nd (o_73 P) (nd (o_149 P) (nd (o_301 P) (nd (o_605 P) (nd (o_1267 P) nl nl) nl) (nd (o_1003 P) nl nl)) (nd (o_453 P) (nd (o_754 P) nl nl) (nd (o_1139 P) nl nl))) (nd (o_225 P) (nd (o_377 P) (nd (o_681 P) nl nl) (nd (o_1070 P) nl nl)) (nd (o_529 P) (nd (o_818 P) nl nl) (nd (o_1203 P) nl nl)))) (nd (o_113 P) (nd (o_189 P) (nd (o_341 P) (nd (o_645 P) nl nl) (nd (o_1035 P) nl nl)) (nd (o_493 P) (nd (o_786 P) nl nl) (nd (o_1171 P) nl nl))) (nd (o_265 P) (nd (o_417 P) (nd (o_722 P) nl nl) (nd (o_1107 P) nl nl)) (nd (o_569 P) (nd (o_850 P) nl nl) (nd (o_1235 P) nl nl))))) (nd (o_685 P) (nd (o_93 P) (nd (o_169 P) (nd (o_321 P) (nd (o_625 P) nl nl) (nd (o_1019 P) nl nl)) (nd (o_473 P) (nd (o_770 P) nl nl) (nd (o_1155 P) nl nl))) (nd (o_245 P) (nd (o_397 P) (nd (o_701 P) nl nl) (nd (o_1086 P) nl nl)) (nd (o_549 P) (nd (o_834 P) nl nl) (nd (o_1219 P) nl nl)))) (nd (o_129 P) (nd (o_205 P) (nd (o_361 P) (nd (o_665 P) nl nl) (nd (o_1051 P) nl nl)) (nd (o_513 P) (nd (o_802 P) nl nl) (nd (o_1187 P) nl nl))) (nd (o_281 P) (nd (o_437 P) (nd (o_738 P) nl nl) (nd (o_1123 P) nl nl)) (nd (o_589 P) (nd (o_987 P) nl nl) (nd (o_1251 P) nl nl))))))) (nd (o_3 P) (nd (o_13 P) (nd (o_33 P) (nd (o_69 P) (nd (o_145 P) (nd (o_297 P) (nd (o_601 P) (nd (o_1263 P) nl nl) nl) (nd (o_999 P) nl nl)) (nd (o_449 P) (nd (o_750 P) nl nl) (nd (o_1135 P) nl nl))) (nd (o_221 P) (nd (o_373 P) (nd (o_677 P) nl nl) (nd (o_1066 P) nl nl)) (nd (o_525 P) (nd (o_814 P) nl nl) (nd (o_1199 P) nl nl)))) (nd (o_105 P) (nd (o_181 P) (nd (o_337 P) (nd (o_641 P) nl nl) (nd (o_1031 P) nl nl)) (nd (o_489 P) (nd (o_782 P) nl nl) (nd (o_1167 P) nl nl))) (nd (o_261 P) (nd (o_413 P) (nd (o_713 P) nl nl) (nd (o_1098 P) nl nl)) (nd (o_565 P) (nd (o_846 P) nl nl) (nd (o_1231 P) nl nl))))) (nd (o_49 P) (nd (o_89 P) (nd (o_165 P) (nd (o_317 P) (nd (o_621 P) nl nl) (nd (o_1015 P) nl nl)) (nd (o_469 P) (nd (o_766 P) nl nl) (nd (o_1151 P) nl nl))) (nd (o_241 P) (nd (o_393 P) (nd (o_697 P) nl nl) (nd (o_1082 P) nl nl)) (nd (o_545 P) (nd (o_830 P) nl nl) (nd (o_1215 P) nl nl)))) (nd (o_125 P) (nd (o_201 P) (nd (o_353 P) (nd (o_661 P) nl nl) (nd (o_1047 P) nl nl)) (nd (o_505 P) (nd (o_798 P) nl nl) (nd (o_1183 P) nl nl))) (nd (o_277 P) (nd (o_429 P) (nd (o_734 P) nl nl) (nd (o_1119 P) nl nl)) (nd (o_581 P) (nd (o_983 P) nl nl) (nd (o_1247 P) nl nl)))))) (nd (o_21 P) (nd (o_41 P) (nd (o_77 P) (nd (o_153 P) (nd (o_305 P) (nd (o_613 P) (nd (o_1271 P) nl nl) nl) (nd (o_1007 P) nl nl)) (nd (o_461 P) (nd (o_758 P) nl nl) (nd (o_1143 P) nl nl))) (nd (o_229 P) (nd (o_381 P) (nd (o_689 P) nl nl) (nd (o_1074 P) nl nl)) (nd (o_537 P) (nd (o_822 P) nl nl) (nd (o_1207 P) nl nl)))) (nd (o_117 P) (nd (o_193 P) (nd (o_345 P) (nd (o_649 P) nl nl) (nd (o_1039 P) nl nl)) (nd (o_497 P) (nd (o_790 P) nl nl) (nd (o_1175 P) nl nl))) (nd (o_269 P) (nd (o_421 P) (nd (o_726 P) nl nl) (nd (o_1111 P) nl nl)) (nd (o_573 P) (nd (o_854 P) nl nl) (nd (o_1239 P) nl nl))))) (nd (o_61 P) (nd (o_97 P) (nd (o_173 P) (nd (o_325 P) (nd (o_629 P) nl nl) (nd (o_1023 P) nl nl)) (nd (o_477 P) (nd (o_774 P) nl nl) (nd (o_1159 P) nl nl))) (nd (o_249 P) (nd (o_401 P) (nd (o_705 P) nl nl) (nd (o_1090 P) nl nl)) (nd (o_553 P) (nd (o_838 P) nl nl) (nd (o_1223 P) nl nl)))) (nd (o_137 P) (nd (o_213 P) (nd (o_365 P) (nd (o_669 P) nl nl) (nd (o_1055 P) nl nl)) (nd (o_517 P) (nd (o_806 P) nl nl) (nd (o_1191 P) nl nl))) (nd (o_289 P) (nd (o_441 P) (nd (o_742 P) nl nl) (nd (o_1127 P) nl nl)) (nd (o_593 P) (nd (o_991 P) nl nl) (nd (o_1255 P) nl nl))))))))) (nd (o_28 P) (nd (W.boot_o_4 P) (nd (W.boot_o_8 P) (nd (o_8 P) (nd (o_24 P) (nd (o_64 P) (nd (o_140 P) (nd (o_292 P) (nd (o_596 P) (nd (o_1258 P) nl nl) nl) (nd (o_994 P) nl nl)) (nd (o_444 P) (nd (o_745 P) nl nl) (nd (o_1130 P) nl nl))) (nd (o_216 P) (nd (o_368 P) (nd (o_672 P) nl nl) (nd (o_1058 P) nl nl)) (nd (o_520 P) (nd (o_809 P) nl nl) (nd (o_1194 P) nl nl)))) (nd (o_100 P) (nd (o_176 P) (nd (o_328 P) (nd (o_636 P) nl nl) (nd (o_1026 P) nl nl)) (nd (o_480 P) (nd (o_777 P) nl nl) (nd (o_1162 P) nl nl))) (nd (o_252 P) (nd (o_404 P) (nd (o_708 P) nl nl) (nd (o_1093 P) nl nl)) (nd (o_556 P) (nd (o_841 P) nl nl) (nd (o_1226 P) nl nl))))) (nd (o_44 P) (nd (o_80 P) (nd (o_156 P) (nd (o_312 P) (nd (o_616 P) (nd (o_1274 P) nl nl) nl) (nd (o_1010 P) nl nl)) (nd (o_464 P) (nd (o_761 P) nl nl) (nd (o_1146 P) nl nl))) (nd (o_236 P) (nd (o_388 P) (nd (o_692 P) nl nl) (nd (o_1077 P) nl nl)) (nd (o_540 P) (nd (o_825 P) nl nl) (nd (o_1210 P) nl nl)))) (nd (o_120 P) (nd (o_196 P) (nd (o_348 P) (nd (o_652 P) nl nl) (nd (o_1042 P) nl nl)) (nd (o_500 P) (nd (o_793 P) nl nl) (nd (o_1178 P) nl nl))) (nd (o_272 P) (nd (o_424 P) (nd (o_729 P) nl nl) (nd (o_1114 P) nl nl)) (nd (o_576 P) (nd (o_857 P) nl nl) (nd (o_1242 P) nl nl)))))) (nd (o_16 P) (nd (o_36 P) (nd (o_72 P) (nd (o_148 P) (nd (o_300 P) (nd (o_604 P) (nd (o_1266 P) nl nl) nl) (nd (o_1002 P) nl nl)) (nd (o_452 P) (nd (o_753 P) nl nl) (nd (o_1138 P) nl nl))) (nd (o_224 P) (nd (o_376 P) (nd (o_680 P) nl nl) (nd (o_1069 P) nl nl)) (nd (o_528 P) (nd (o_817 P) nl nl) (nd (o_1202 P) nl nl)))) (nd (o_112 P) (nd (o_188 P) (nd (o_340 P) (nd (o_644 P) nl nl) (nd (o_1034 P) nl nl)) (nd (o_492 P) (nd (o_785 P) nl nl) (nd (o_1170 P) nl nl))) (nd (o_264 P) (nd (o_416 P) (nd (o_721 P) nl nl) (nd (o_1106 P) nl nl)) (nd (o_568 P) (nd (o_849 P) nl nl) (nd (o_1234 P) nl nl))))) (nd (o_52 P) (nd (o_92 P) (nd (o_168 P) (nd (o_320 P) (nd (o_624 P) nl nl) (nd (o_1018 P) nl nl)) (nd (o_472 P) (nd (o_769 P) nl nl) (nd (o_1154 P) nl nl))) (nd (o_244 P) (nd (o_396 P) (nd (o_700 P) nl nl) (nd (o_1085 P) nl nl)) (nd (o_548 P) (nd (o_833 P) nl nl) (nd (o_1218 P) nl nl)))) (nd (o_128 P) (nd (o_204 P) (nd (o_356 P) (nd (o_664 P) nl nl) (nd (o_1050 P) nl nl)) (nd (o_512 P) (nd (o_801 P) nl nl) (nd (o_1186 P) nl nl))) (nd (o_280 P) (nd (o_436 P) (nd (o_737 P) nl nl) (nd (o_1122 P) nl nl)) (nd (o_588 P) (nd (o_986 P) nl nl) (nd (o_1250 P) nl nl))))))) (nd (o_1103 P) (nd (o_12 P) (nd (o_32 P) (nd (o_68 P) (nd (o_144 P) (nd (o_296 P) (nd (o_600 P) (nd (o_1262 P) nl nl) nl) (nd (o_998 P) nl nl)) (nd (o_448 P) (nd (o_749 P) nl nl) (nd (o_1134 P) nl nl))) (nd (o_220 P) (nd (o_372 P) (nd (o_676 P) nl nl) (nd (o_1065 P) nl nl)) (nd (o_524 P) (nd (o_813 P) nl nl) (nd (o_1198 P) nl nl)))) (nd (o_104 P) (nd (o_180 P) (nd (o_336 P) (nd (o_640 P) nl nl) (nd (o_1030 P) nl nl)) (nd (o_488 P) (nd (o_781 P) nl nl) (nd (o_1166 P) nl nl))) (nd (o_256 P) (nd (o_412 P) (nd (o_712 P) nl nl) (nd (o_1097 P) nl nl)) (nd (o_564 P) (nd (o_845 P) nl nl) (nd (o_1230 P) nl nl))))) (nd (o_48 P) (nd (o_88 P) (nd (o_164 P) (nd (o_316 P) (nd (o_620 P) nl nl) (nd (o_1014 P) nl nl)) (nd (o_468 P) (nd (o_765 P) nl nl) (nd (o_1150 P) nl nl))) (nd (o_240 P) (nd (o_392 P) (nd (o_696 P) nl nl) (nd (o_1081 P) nl nl)) (nd (o_544 P) (nd (o_829 P) nl nl) (nd (o_1214 P) nl nl)))) (nd (o_124 P) (nd (o_200 P) (nd (o_352 P) (nd (o_656 P) nl nl) (nd (o_1046 P) nl nl)) (nd (o_504 P) (nd (o_797 P) nl nl) (nd (o_1182 P) nl nl))) (nd (o_276 P) (nd (o_428 P) (nd (o_733 P) nl nl) (nd (o_1118 P) nl nl)) (nd (o_580 P) (nd (o_982 P) nl nl) (nd (o_1246 P) nl nl)))))) (nd (o_20 P) (nd (o_460 P) (nd (o_76 P) (nd (o_152 P) (nd (o_304 P) (nd (o_612 P) (nd (o_1270 P) nl nl) nl) (nd (o_1006 P) nl nl)) (nd (o_456 P) (nd (o_757 P) nl nl) (nd (o_1142 P) nl nl))) (nd (o_228 P) (nd (o_380 P) (nd (o_688 P) nl nl) (nd (o_1073 P) nl nl)) (nd (o_536 P) (nd (o_821 P) nl nl) (nd (o_1206 P) nl nl)))) (nd (o_116 P) (nd (o_192 P) (nd (o_344 P) (nd (o_648 P) nl nl) (nd (o_1038 P) nl nl)) (nd (o_496 P) (nd (o_789 P) nl nl) (nd (o_1174 P) nl nl))) (nd (o_268 P) (nd (o_420 P) (nd (o_725 P) nl nl) (nd (o_1110 P) nl nl)) (nd (o_572 P) (nd (o_853 P) nl nl) (nd (o_1238 P) nl nl))))) (nd (o_56 P) (nd (o_96 P) (nd (o_172 P) (nd (o_324 P) (nd (o_628 P) nl nl) (nd (o_1022 P) nl nl)) (nd (o_476 P) (nd (o_773 P) nl nl) (nd (o_1158 P) nl nl))) (nd (o_248 P) (nd (o_400 P) (nd (o_704 P) nl nl) (nd (o_1089 P) nl nl)) (nd (o_552 P) (nd (o_837 P) nl nl) (nd (o_1222 P) nl nl)))) (nd (o_136 P) (nd (o_212 P) (nd (o_364 P) (nd (o_668 P) nl nl) (nd (o_1054 P) nl nl)) (nd (o_516 P) (nd (o_805 P) nl nl) (nd (o_1190 P) nl nl))) (nd (o_288 P) (nd (o_440 P) (nd (o_741 P) nl nl) (nd (o_1126 P) nl nl)) (nd (o_592 P) (nd (o_990 P) nl nl) (nd (o_1254 P) nl nl)))))))) (nd (W.boot_o_6 P) (nd (W.boot_o_10 P) (nd (o_10 P) (nd (o_26 P) (nd (o_66 P) (nd (o_142 P) (nd (o_294 P) (nd (o_598 P) (nd (o_1260 P) nl nl) nl) (nd (o_996 P) nl nl)) (nd (o_446 P) (nd (o_747 P) nl nl) (nd (o_1132 P) nl nl))) (nd (o_218 P) (nd (o_370 P) (nd (o_674 P) nl nl) (nd (o_1060 P) nl nl)) (nd (o_522 P) (nd (o_811 P) nl nl) (nd (o_1196 P) nl nl)))) (nd (o_102 P) (nd (o_178 P) (nd (o_330 P) (nd (o_638 P) nl nl) (nd (o_1028 P) nl nl)) (nd (o_486 P) (nd (o_779 P) nl nl) (nd (o_1164 P) nl nl))) (nd (o_254 P) (nd (o_406 P) (nd (o_710 P) nl nl) (nd (o_1095 P) nl nl)) (nd (o_562 P) (nd (o_843 P) nl nl) (nd (o_1228 P) nl nl))))) (nd (o_46 P) (nd (o_86 P) (nd (o_162 P) (nd (o_314 P) (nd (o_618 P) (nd (o_1276 P) nl nl) nl) (nd (o_1012 P) nl nl)) (nd (o_466 P) (nd (o_763 P) nl nl) (nd (o_1148 P) nl nl))) (nd (o_238 P) (nd (o_390 P) (nd (o_694 P) nl nl) (nd (o_1079 P) nl nl)) (nd (o_542 P) (nd (o_827 P) nl nl) (nd (o_1212 P) nl nl)))) (nd (o_122 P) (nd (o_198 P) (nd (o_350 P) (nd (o_654 P) nl nl) (nd (o_1044 P) nl nl)) (nd (o_502 P) (nd (o_795 P) nl nl) (nd (o_1180 P) nl nl))) (nd (o_274 P) (nd (o_426 P) (nd (o_731 P) nl nl) (nd (o_1116 P) nl nl)) (nd (o_578 P) (nd (o_859 P) nl nl) (nd (o_1244 P) nl nl)))))) (nd (o_18 P) (nd (o_38 P) (nd (o_74 P) (nd (o_150 P) (nd (o_302 P) (nd (o_606 P) (nd (o_1268 P) nl nl) nl) (nd (o_1004 P) nl nl)) (nd (o_454 P) (nd (o_755 P) nl nl) (nd (o_1140 P) nl nl))) (nd (o_226 P) (nd (o_378 P) (nd (o_686 P) nl nl) (nd (o_1071 P) nl nl)) (nd (o_530 P) (nd (o_819 P) nl nl) (nd (o_1204 P) nl nl)))) (nd (o_114 P) (nd (o_190 P) (nd (o_342 P) (nd (o_646 P) nl nl) (nd (o_1036 P) nl nl)) (nd (o_494 P) (nd (o_787 P) nl nl) (nd (o_1172 P) nl nl))) (nd (o_266 P) (nd (o_418 P) (nd (o_723 P) nl nl) (nd (o_1108 P) nl nl)) (nd (o_570 P) (nd (o_851 P) nl nl) (nd (o_1236 P) nl nl))))) (nd (o_54 P) (nd (o_94 P) (nd (o_170 P) (nd (o_322 P) (nd (o_626 P) nl nl) (nd (o_1020 P) nl nl)) (nd (o_474 P) (nd (o_771 P) nl nl) (nd (o_1156 P) nl nl))) (nd (o_246 P) (nd (o_398 P) (nd (o_702 P) nl nl) (nd (o_1087 P) nl nl)) (nd (o_550 P) (nd (o_835 P) nl nl) (nd (o_1220 P) nl nl)))) (nd (o_130 P) (nd (o_206 P) (nd (o_362 P) (nd (o_666 P) nl nl) (nd (o_1052 P) nl nl)) (nd (o_514 P) (nd (o_803 P) nl nl) (nd (o_1188 P) nl nl))) (nd (o_286 P) (nd (o_438 P) (nd (o_739 P) nl nl) (nd (o_1124 P) nl nl)) (nd (o_590 P) (nd (o_988 P) nl nl) (nd (o_1252 P) nl nl))))))) (nd (o_4 P) (nd (o_14 P) (nd (o_34 P) (nd (o_70 P) (nd (o_146 P) (nd (o_298 P) (nd (o_602 P) (nd (o_1264 P) nl nl) nl) (nd (o_1000 P) nl nl)) (nd (o_450 P) (nd (o_751 P) nl nl) (nd (o_1136 P) nl nl))) (nd (o_222 P) (nd (o_374 P) (nd (o_678 P) nl nl) (nd (o_1067 P) nl nl)) (nd (o_526 P) (nd (o_815 P) nl nl) (nd (o_1200 P) nl nl)))) (nd (o_106 P) (nd (o_186 P) (nd (o_338 P) (nd (o_642 P) nl nl) (nd (o_1032 P) nl nl)) (nd (o_490 P) (nd (o_783 P) nl nl) (nd (o_1168 P) nl nl))) (nd (o_262 P) (nd (o_414 P) (nd (o_714 P) nl nl) (nd (o_1104 P) nl nl)) (nd (o_566 P) (nd (o_847 P) nl nl) (nd (o_1232 P) nl nl))))) (nd (o_50 P) (nd (o_90 P) (nd (o_166 P) (nd (o_318 P) (nd (o_622 P) nl nl) (nd (o_1016 P) nl nl)) (nd (o_470 P) (nd (o_767 P) nl nl) (nd (o_1152 P) nl nl))) (nd (o_242 P) (nd (o_394 P) (nd (o_698 P) nl nl) (nd (o_1083 P) nl nl)) (nd (o_546 P) (nd (o_831 P) nl nl) (nd (o_1216 P) nl nl)))) (nd (o_126 P) (nd (o_202 P) (nd (o_354 P) (nd (o_662 P) nl nl) (nd (o_1048 P) nl nl)) (nd (o_506 P) (nd (o_799 P) nl nl) (nd (o_1184 P) nl nl))) (nd (o_278 P) (nd (o_430 P) (nd (o_735 P) nl nl) (nd (o_1120 P) nl nl)) (nd (o_586 P) (nd (o_984 P) nl nl) (nd (o_1248 P) nl nl)))))) (nd (o_22 P) (nd (o_42 P) (nd (o_78 P) (nd (o_154 P) (nd (o_306 P) (nd (o_614 P) (nd (o_1272 P) nl nl) nl) (nd (o_1008 P) nl nl)) (nd (o_462 P) (nd (o_759 P) nl nl) (nd (o_1144 P) nl nl))) (nd (o_230 P) (nd (o_386 P) (nd (o_690 P) nl nl) (nd (o_1075 P) nl nl)) (nd (o_538 P) (nd (o_823 P) nl nl) (nd (o_1208 P) nl nl)))) (nd (o_118 P) (nd (o_194 P) (nd (o_346 P) (nd (o_650 P) nl nl) (nd (o_1040 P) nl nl)) (nd (o_498 P) (nd (o_791 P) nl nl) (nd (o_1176 P) nl nl))) (nd (o_270 P) (nd (o_422 P) (nd (o_727 P) nl nl) (nd (o_1112 P) nl nl)) (nd (o_574 P) (nd (o_855 P) nl nl) (nd (o_1240 P) nl nl))))) (nd (o_62 P) (nd (o_98 P) (nd (o_174 P) (nd (o_326 P) (nd (o_630 P) nl nl) (nd (o_1024 P) nl nl)) (nd (o_478 P) (nd (o_775 P) nl nl) (nd (o_1160 P) nl nl))) (nd (o_250 P) (nd (o_402 P) (nd (o_706 P) nl nl) (nd (o_1091 P) nl nl)) (nd (o_554 P) (nd (o_839 P) nl nl) (nd (o_1224 P) nl nl)))) (nd (o_138 P) (nd (o_214 P) (nd (o_366 P) (nd (o_670 P) nl nl) (nd (o_1056 P) nl nl)) (nd (o_518 P) (nd (o_807 P) nl nl) (nd (o_1192 P) nl nl))) (nd (o_290 P) (nd (o_442 P) (nd (o_743 P) nl nl) (nd (o_1128 P) nl nl)) (nd (o_594 P) (nd (o_992 P) nl nl) (nd (o_1256 P) nl nl)))))))))
abbrev p2 : Pos := { line := 313, col := 0, endLine := 431, endCol := 44 }
noncomputable def st2 (w : World) (os : OsState) : SharedT := { tree := tree2 w.params, n := 1043, life := {}, gens := #[], drawn := {}, toks := 1572, os := os }
end K37H
end
section
set_option Elab.async false
set_option linter.all false
set_option maxRecDepth 100000
namespace K37
open PySem L2

def top (i : Nat) : Stmt := PySem.Challenge.pw_filerights_k37_whole_numbers_of_copies.main.body.getD i (.Pass ⟨0, 0, 0, 0⟩)
abbrev s_digit_of : Stmt := top 35
theorem sc_digit_of : FnScope ["text", "found", "letter", "bit"] ["text"] (defScope s_digit_of) := ⟨rfl, rfl, rfl, by decide +kernel, rfl, by decide +kernel, by decide +kernel⟩
abbrev s_R_init : Stmt := inClass (top 36) 0
theorem sc_R_init : FnScope ["self", "letters", "digit"] ["self", "letters"] (defScope s_R_init) := ⟨rfl, rfl, rfl, by decide +kernel, rfl, by decide +kernel, by decide +kernel⟩
abbrev s_R_from_digit : Stmt := inClass (top 36) 1
theorem sc_R_from_digit : FnScope ["cls", "digit"] ["cls", "digit"] (defScope s_R_from_digit) := ⟨rfl, rfl, rfl, by decide +kernel, rfl, by decide +kernel, by decide +kernel⟩
abbrev s_R_of : Stmt := inClass (top 36) 2
theorem sc_R_of : FnScope ["cls", "parts", "found", "part", "digit"] ["cls", "parts"] (defScope s_R_of) := ⟨rfl, rfl, rfl, by decide +kernel, rfl, by decide +kernel, by decide +kernel⟩
abbrev s_R_digit : Stmt := inClass (top 36) 3
theorem sc_R_digit : FnScope ["self"] ["self"] (defScope s_R_digit) := ⟨rfl, rfl, rfl, by decide +kernel, rfl, by decide +kernel, by decide +kernel⟩
abbrev s_R_sub : Stmt := inClass (top 36) 13
theorem sc_R_sub : FnScope ["self", "other"] ["self", "other"] (defScope s_R_sub) := ⟨rfl, rfl, rfl, by decide +kernel, rfl, by decide +kernel, by decide +kernel⟩
abbrev s_digit_in : Stmt := top 37
theorem sc_digit_in : FnScope ["value"] ["value"] (defScope s_digit_in) := ⟨rfl, rfl, rfl, by decide +kernel, rfl, by decide +kernel, by decide +kernel⟩
abbrev s_is_rights : Stmt := top 38
theorem sc_is_rights : FnScope ["value"] ["value"] (defScope s_is_rights) := ⟨rfl, rfl, rfl, by decide +kernel, rfl, by decide +kernel, by decide +kernel⟩
abbrev s_as_rights : Stmt := top 39
theorem sc_as_rights : FnScope ["value"] ["value"] (defScope s_as_rights) := ⟨rfl, rfl, rfl, by decide +kernel, rfl, by decide +kernel, by decide +kernel⟩
abbrev s_is_name : Stmt := top 44
theorem sc_is_name : FnScope ["value", "sign"] ["value"] (defScope s_is_name) := ⟨rfl, rfl, rfl, by decide +kernel, rfl, by decide +kernel, by decide +kernel⟩
abbrev s_is_list : Stmt := top 45
theorem sc_is_list : FnScope ["value"] ["value"] (defScope s_is_list) := ⟨rfl, rfl, rfl, by decide +kernel, rfl, by decide +kernel, by decide +kernel⟩
abbrev s_is_path : Stmt := top 46
theorem sc_is_path : FnScope ["value", "name"] ["value"] (defScope s_is_path) := ⟨rfl, rfl, rfl, by decide +kernel, rfl, by decide +kernel, by decide +kernel⟩
abbrev s_need_path_words : Stmt := top 47
theorem sc_need_path_words : FnScope ["path"] ["path"] (defScope s_need_path_words) := ⟨rfl, rfl, rfl, by decide +kernel, rfl, by decide +kernel, by decide +kernel⟩
abbrev s_parts_of : Stmt := top 49
theorem sc_parts_of : FnScope ["path"] ["path"] (defScope s_parts_of) := ⟨rfl, rfl, rfl, by decide +kernel, rfl, by decide +kernel, by decide +kernel⟩
abbrev s_path_by : Stmt := top 50
theorem sc_path_by : FnScope ["names"] ["names"] (defScope s_path_by) := ⟨rfl, rfl, rfl, by decide +kernel, rfl, by decide +kernel, by decide +kernel⟩
abbrev s_joined : Stmt := top 51
theorem sc_joined : FnScope ["path", "names", "found", "name"] ["path", "names"] (defScope s_joined) := ⟨rfl, rfl, rfl, by decide +kernel, rfl, by decide +kernel, by decide +kernel⟩
abbrev s_above : Stmt := top 52
theorem sc_above : FnScope ["path", "found", "last"] ["path"] (defScope s_above) := ⟨rfl, rfl, rfl, by decide +kernel, rfl, by decide +kernel, by decide +kernel⟩
abbrev s_is_below : Stmt := top 53
theorem sc_is_below : FnScope ["path", "other", "names", "others"] ["path", "other"] (defScope s_is_below) := ⟨rfl, rfl, rfl, by decide +kernel, rfl, by decide +kernel, by decide +kernel⟩
abbrev s_is_digits : Stmt := top 57
theorem sc_is_digits : FnScope ["value", "sign"] ["value"] (defScope s_is_digits) := ⟨rfl, rfl, rfl, by decide +kernel, rfl, by decide +kernel, by decide +kernel⟩
abbrev s_need_digits : Stmt := top 58
theorem sc_need_digits : FnScope ["digits"] ["digits"] (defScope s_need_digits) := ⟨rfl, rfl, rfl, by decide +kernel, rfl, by decide +kernel, by decide +kernel⟩
abbrev s_rights_of_digits : Stmt := top 59
theorem sc_rights_of_digits : FnScope ["digits", "sign"] ["digits"] (defScope s_rights_of_digits) := ⟨rfl, rfl, rfl, by decide +kernel, rfl, by decide +kernel, by decide +kernel⟩
abbrev s_without_letters : Stmt := top 60
theorem sc_without_letters : FnScope ["digits", "umask", "less", "place", "one"] ["digits", "umask"] (defScope s_without_letters) := ⟨rfl, rfl, rfl, by decide +kernel, rfl, by decide +kernel, by decide +kernel⟩
abbrev s_named_rights : Stmt := top 62
theorem sc_named_rights : FnScope ["value", "others", "found", "key"] ["value"] (defScope s_named_rights) := ⟨rfl, rfl, rfl, by decide +kernel, rfl, by decide +kernel, by decide +kernel⟩
abbrev s_A_init : Stmt := inClass (top 63) 0
theorem sc_A_init : FnScope ["self", "owner", "group", "other", "users", "groups", "mask", "rights", "some", "name"] ["self", "owner", "group", "other", "users", "groups", "mask"] (defScope s_A_init) := ⟨rfl, rfl, rfl, by decide +kernel, rfl, by decide +kernel, by decide +kernel⟩
abbrev s_A_plain : Stmt := inClass (top 63) 1
theorem sc_A_plain : FnScope ["cls", "digits", "owner", "group", "other"] ["cls", "digits"] (defScope s_A_plain) := ⟨rfl, rfl, rfl, by decide +kernel, rfl, by decide +kernel, by decide +kernel⟩
abbrev s_A_everything : Stmt := inClass (top 63) 2
theorem sc_A_everything : FnScope [] [] (defScope s_A_everything) := ⟨rfl, rfl, rfl, by decide +kernel, rfl, by decide +kernel, by decide +kernel⟩
abbrev s_A_owner : Stmt := inClass (top 63) 4
theorem sc_A_owner : FnScope ["self"] ["self"] (defScope s_A_owner) := ⟨rfl, rfl, rfl, by decide +kernel, rfl, by decide +kernel, by decide +kernel⟩
abbrev s_A_group : Stmt := inClass (top 63) 5
theorem sc_A_group : FnScope ["self"] ["self"] (defScope s_A_group) := ⟨rfl, rfl, rfl, by decide +kernel, rfl, by decide +kernel, by decide +kernel⟩
abbrev s_A_other : Stmt := inClass (top 63) 6
theorem sc_A_other : FnScope ["self"] ["self"] (defScope s_A_other) := ⟨rfl, rfl, rfl, by decide +kernel, rfl, by decide +kernel, by decide +kernel⟩
abbrev s_A_mask : Stmt := inClass (top 63) 7
theorem sc_A_mask : FnScope ["self"] ["self"] (defScope s_A_mask) := ⟨rfl, rfl, rfl, by decide +kernel, rfl, by decide +kernel, by decide +kernel⟩
abbrev s_A_users : Stmt := inClass (top 63) 9
theorem sc_A_users : FnScope ["self"] ["self"] (defScope s_A_users) := ⟨rfl, rfl, rfl, by decide +kernel, rfl, by decide +kernel, by decide +kernel⟩
abbrev s_A_groups : Stmt := inClass (top 63) 10
theorem sc_A_groups : FnScope ["self"] ["self"] (defScope s_A_groups) := ⟨rfl, rfl, rfl, by decide +kernel, rfl, by decide +kernel, by decide +kernel⟩
abbrev s_is_folk : Stmt := top 69
theorem sc_is_folk : FnScope ["value"] ["value"] (defScope s_is_folk) := ⟨rfl, rfl, rfl, by decide +kernel, rfl, by decide +kernel, by decide +kernel⟩
abbrev s_are_groups : Stmt := top 70
theorem sc_are_groups : FnScope ["value", "name"] ["value"] (defScope s_are_groups) := ⟨rfl, rfl, rfl, by decide +kernel, rfl, by decide +kernel, by decide +kernel⟩
abbrev s_P_init : Stmt := inClass (top 71) 0
theorem sc_P_init : FnScope ["self", "members", "user", "groups", "group"] ["self", "members"] (defScope s_P_init) := ⟨rfl, rfl, rfl, by decide +kernel, rfl, by decide +kernel, by decide +kernel⟩
abbrev s_P_contains : Stmt := inClass (top 71) 2
theorem sc_P_contains : FnScope ["self", "value"] ["self", "value"] (defScope s_P_contains) := ⟨rfl, rfl, rfl, by decide +kernel, rfl, by decide +kernel, by decide +kernel⟩
abbrev s_P_users : Stmt := inClass (top 71) 5
theorem sc_P_users : FnScope ["self"] ["self"] (defScope s_P_users) := ⟨rfl, rfl, rfl, by decide +kernel, rfl, by decide +kernel, by decide +kernel⟩
abbrev s_P_need_user : Stmt := inClass (top 71) 7
theorem sc_P_need_user : FnScope ["self", "user"] ["self", "user"] (defScope s_P_need_user) := ⟨rfl, rfl, rfl, by decide +kernel, rfl, by decide +kernel, by decide +kernel⟩
abbrev s_P_groups_of : Stmt := inClass (top 71) 8
theorem sc_P_groups_of : FnScope ["self", "user"] ["self", "user"] (defScope s_P_groups_of) := ⟨rfl, rfl, rfl, by decide +kernel, rfl, by decide +kernel, by decide +kernel⟩
abbrev s_P_first_group : Stmt := inClass (top 71) 9
theorem sc_P_first_group : FnScope ["self", "user"] ["self", "user"] (defScope s_P_first_group) := ⟨rfl, rfl, rfl, by decide +kernel, rfl, by decide +kernel, by decide +kernel⟩
abbrev s_J_init : Stmt := inClass (top 73) 0
theorem sc_J_init : FnScope ["self", "people"] ["self", "people"] (defScope s_J_init) := ⟨rfl, rfl, rfl, by decide +kernel, rfl, by decide +kernel, by decide +kernel⟩
abbrev s_J_call : Stmt := inClass (top 73) 1
theorem sc_J_call : FnScope ["self", "user", "owner", "group", "access", "letters"] ["self", "user", "owner", "group", "access", "letters"] (defScope s_J_call) := ⟨rfl, rfl, rfl, by decide +kernel, rfl, by decide +kernel, by decide +kernel⟩
abbrev s_J_need_case : Stmt := inClass (top 73) 2
theorem sc_J_need_case : FnScope ["self", "user", "owner", "group", "access"] ["self", "user", "owner", "group", "access"] (defScope s_J_need_case) := ⟨rfl, rfl, rfl, by decide +kernel, rfl, by decide +kernel, by decide +kernel⟩
abbrev s_J_entries_for : Stmt := inClass (top 73) 3
theorem sc_J_entries_for : FnScope ["self", "user", "owner", "group", "access", "mask", "named", "groups", "found", "name", "rights"] ["self", "user", "owner", "group", "access"] (defScope s_J_entries_for) := ⟨rfl, rfl, rfl, by decide +kernel, rfl, by decide +kernel, by decide +kernel⟩
abbrev s_J_deciding : Stmt := inClass (top 73) 4
theorem sc_J_deciding : FnScope ["self", "user", "owner", "group", "access", "letters", "wanted", "entries", "granting", "kind", "name", "digit"] ["self", "user", "owner", "group", "access", "letters"] (defScope s_J_deciding) := ⟨rfl, rfl, rfl, by decide +kernel, rfl, by decide +kernel, by decide +kernel⟩
abbrev s_N_init : Stmt := inClass (top 78) 0
theorem sc_N_init : FnScope ["self", "number", "fields"] ["self", "number", "fields"] (defScope s_N_init) := ⟨rfl, rfl, rfl, by decide +kernel, rfl, by decide +kernel, by decide +kernel⟩
abbrev s_N_kind : Stmt := inClass (top 78) 1
theorem sc_N_kind : FnScope ["self"] ["self"] (defScope s_N_kind) := ⟨rfl, rfl, rfl, by decide +kernel, rfl, by decide +kernel, by decide +kernel⟩
abbrev s_N_owner : Stmt := inClass (top 78) 2
theorem sc_N_owner : FnScope ["self"] ["self"] (defScope s_N_owner) := ⟨rfl, rfl, rfl, by decide +kernel, rfl, by decide +kernel, by decide +kernel⟩
abbrev s_N_group : Stmt := inClass (top 78) 3
theorem sc_N_group : FnScope ["self"] ["self"] (defScope s_N_group) := ⟨rfl, rfl, rfl, by decide +kernel, rfl, by decide +kernel, by decide +kernel⟩
abbrev s_N_access : Stmt := inClass (top 78) 4
theorem sc_N_access : FnScope ["self"] ["self"] (defScope s_N_access) := ⟨rfl, rfl, rfl, by decide +kernel, rfl, by decide +kernel, by decide +kernel⟩
abbrev s_N_passes : Stmt := inClass (top 78) 6
theorem sc_N_passes : FnScope ["self"] ["self"] (defScope s_N_passes) := ⟨rfl, rfl, rfl, by decide +kernel, rfl, by decide +kernel, by decide +kernel⟩
abbrev s_N_default : Stmt := inClass (top 78) 7
theorem sc_N_default : FnScope ["self"] ["self"] (defScope s_N_default) := ⟨rfl, rfl, rfl, by decide +kernel, rfl, by decide +kernel, by decide +kernel⟩
abbrev s_N_number : Stmt := inClass (top 78) 9
theorem sc_N_number : FnScope ["self"] ["self"] (defScope s_N_number) := ⟨rfl, rfl, rfl, by decide +kernel, rfl, by decide +kernel, by decide +kernel⟩
abbrev s_N_with_field : Stmt := inClass (top 78) 12
theorem sc_N_with_field : FnScope ["self", "name", "value"] ["self", "name", "value"] (defScope s_N_with_field) := ⟨rfl, rfl, rfl, by decide +kernel, rfl, by decide +kernel, by decide +kernel⟩
abbrev s_new_node : Stmt := top 79
theorem sc_new_node : FnScope ["number", "kind", "owner", "group", "access", "content", "passes", "default", "fields"] ["number", "kind", "owner", "group", "access", "content", "passes", "default"] (defScope s_new_node) := ⟨rfl, rfl, rfl, by decide +kernel, rfl, by decide +kernel, by decide +kernel⟩
abbrev s_need_path_house : Stmt := top 80
theorem sc_need_path_house : FnScope ["path"] ["path"] (defScope s_need_path_house) := ⟨rfl, rfl, rfl, by decide +kernel, rfl, by decide +kernel, by decide +kernel⟩
abbrev s_H_init : Stmt := inClass (top 82) 0
theorem sc_H_init : FnScope ["self", "people", "ground", "common", "umasks", "user"] ["self", "people"] (defScope s_H_init) := ⟨rfl, rfl, rfl, by decide +kernel, rfl, by decide +kernel, by decide +kernel⟩
abbrev s_H_people : Stmt := inClass (top 82) 1
theorem sc_H_people : FnScope ["self"] ["self"] (defScope s_H_people) := ⟨rfl, rfl, rfl, by decide +kernel, rfl, by decide +kernel, by decide +kernel⟩
abbrev s_H_nodes : Stmt := inClass (top 82) 3
theorem sc_H_nodes : FnScope ["self"] ["self"] (defScope s_H_nodes) := ⟨rfl, rfl, rfl, by decide +kernel, rfl, by decide +kernel, by decide +kernel⟩
abbrev s_H_contains : Stmt := inClass (top 82) 6
theorem sc_H_contains : FnScope ["self", "value"] ["self", "value"] (defScope s_H_contains) := ⟨rfl, rfl, rfl, by decide +kernel, rfl, by decide +kernel, by decide +kernel⟩
abbrev s_H_getitem : Stmt := inClass (top 82) 10
theorem sc_H_getitem : FnScope ["self", "path"] ["self", "path"] (defScope s_H_getitem) := ⟨rfl, rfl, rfl, by decide +kernel, rfl, by decide +kernel, by decide +kernel⟩
abbrev s_H_need_changeable : Stmt := inClass (top 82) 12
theorem sc_H_need_changeable : FnScope ["self", "path"] ["self", "path"] (defScope s_H_need_changeable) := ⟨rfl, rfl, rfl, by decide +kernel, rfl, by decide +kernel, by decide +kernel⟩
abbrev s_H_need_folder : Stmt := inClass (top 82) 13
theorem sc_H_need_folder : FnScope ["self", "path"] ["self", "path"] (defScope s_H_need_folder) := ⟨rfl, rfl, rfl, by decide +kernel, rfl, by decide +kernel, by decide +kernel⟩
abbrev s_H_paths : Stmt := inClass (top 82) 15
theorem sc_H_paths : FnScope ["self", "path"] ["self"] (defScope s_H_paths) := ⟨rfl, rfl, rfl, by decide +kernel, rfl, by decide +kernel, by decide +kernel⟩
abbrev s_H_put : Stmt := inClass (top 82) 18
theorem sc_H_put : FnScope ["self", "path", "node", "nodes"] ["self", "path", "node"] (defScope s_H_put) := ⟨rfl, rfl, rfl, by decide +kernel, rfl, by decide +kernel, by decide +kernel⟩
abbrev s_H_need_place : Stmt := inClass (top 82) 19
theorem sc_H_need_place : FnScope ["self", "path"] ["self", "path"] (defScope s_H_need_place) := ⟨rfl, rfl, rfl, by decide +kernel, rfl, by decide +kernel, by decide +kernel⟩
abbrev s_H_need_folk : Stmt := inClass (top 82) 20
theorem sc_H_need_folk : FnScope ["self", "owner", "group"] ["self", "owner", "group"] (defScope s_H_need_folk) := ⟨rfl, rfl, rfl, by decide +kernel, rfl, by decide +kernel, by decide +kernel⟩
abbrev s_H_add : Stmt := inClass (top 82) 21
theorem sc_H_add : FnScope ["self", "path", "kind", "owner", "group", "access", "content", "given"] ["self", "path", "kind", "owner", "group", "access", "content"] (defScope s_H_add) := ⟨rfl, rfl, rfl, by decide +kernel, rfl, by decide +kernel, by decide +kernel⟩
abbrev s_H_cut : Stmt := inClass (top 82) 22
theorem sc_H_cut : FnScope ["self", "path", "nodes", "one", "node"] ["self", "path"] (defScope s_H_cut) := ⟨rfl, rfl, rfl, by decide +kernel, rfl, by decide +kernel, by decide +kernel⟩
abbrev s_H_shift : Stmt := inClass (top 82) 23
theorem sc_H_shift : FnScope ["self", "path", "to", "nodes", "one", "node", "rest"] ["self", "path", "to"] (defScope s_H_shift) := ⟨rfl, rfl, rfl, by decide +kernel, rfl, by decide +kernel, by decide +kernel⟩
abbrev s_H_umask_of : Stmt := inClass (top 82) 29
theorem sc_H_umask_of : FnScope ["self", "user"] ["self", "user"] (defScope s_H_umask_of) := ⟨rfl, rfl, rfl, by decide +kernel, rfl, by decide +kernel, by decide +kernel⟩
abbrev s_H_restore : Stmt := inClass (top 82) 30
theorem sc_H_restore : FnScope ["self", "kept"] ["self", "kept"] (defScope s_H_restore) := ⟨rfl, rfl, rfl, by decide +kernel, rfl, by decide +kernel, by decide +kernel⟩
abbrev s_H_copied : Stmt := inClass (top 82) 31
theorem sc_H_copied : FnScope ["self", "found"] ["self"] (defScope s_H_copied) := ⟨rfl, rfl, rfl, by decide +kernel, rfl, by decide +kernel, by decide +kernel⟩
abbrev s_H_grants : Stmt := inClass (top 82) 32
theorem sc_H_grants : FnScope ["self", "user", "path", "letters", "node"] ["self", "user", "path", "letters"] (defScope s_H_grants) := ⟨rfl, rfl, rfl, by decide +kernel, rfl, by decide +kernel, by decide +kernel⟩
abbrev s_need_asked : Stmt := top 83
theorem sc_need_asked : FnScope ["house", "user", "path"] ["house", "user", "path"] (defScope s_need_asked) := ⟨rfl, rfl, rfl, by decide +kernel, rfl, by decide +kernel, by decide +kernel⟩
abbrev s_lacking : Stmt := top 84
theorem sc_lacking : FnScope ["house", "user", "path", "nodes", "here", "name"] ["house", "user", "path"] (defScope s_lacking) := ⟨rfl, rfl, rfl, by decide +kernel, rfl, by decide +kernel, by decide +kernel⟩
abbrev s_is_deed : Stmt := top 91
theorem sc_is_deed : FnScope ["value", "form", "test", "thing"] ["value"] (defScope s_is_deed) := ⟨rfl, rfl, rfl, by decide +kernel, rfl, by decide +kernel, by decide +kernel⟩
abbrev s_need_way : Stmt := top 92
theorem sc_need_way : FnScope ["house", "user", "path", "place"] ["house", "user", "path"] (defScope s_need_way) := ⟨rfl, rfl, rfl, by decide +kernel, rfl, by decide +kernel, by decide +kernel⟩
abbrev s_need_granted : Stmt := top 93
theorem sc_need_granted : FnScope ["house", "user", "path", "letters"] ["house", "user", "path", "letters"] (defScope s_need_granted) := ⟨rfl, rfl, rfl, by decide +kernel, rfl, by decide +kernel, by decide +kernel⟩
abbrev s_d_need_place : Stmt := top 94
theorem sc_d_need_place : FnScope ["house", "user", "path", "folder"] ["house", "user", "path"] (defScope s_d_need_place) := ⟨rfl, rfl, rfl, by decide +kernel, rfl, by decide +kernel, by decide +kernel⟩
abbrev s_make : Stmt := top 100
theorem sc_make : FnScope ["house", "user", "path", "kind", "digits", "folder", "group", "access", "node"] ["house", "user", "path", "kind", "digits"] (defScope s_make) := ⟨rfl, rfl, rfl, by decide +kernel, rfl, by decide +kernel, by decide +kernel⟩
abbrev s_do_file : Stmt := top 101
theorem sc_do_file : FnScope ["house", "user", "path", "digits"] ["house", "user", "path", "digits"] (defScope s_do_file) := ⟨rfl, rfl, rfl, by decide +kernel, rfl, by decide +kernel, by decide +kernel⟩
abbrev s_do_folder : Stmt := top 102
theorem sc_do_folder : FnScope ["house", "user", "path", "digits"] ["house", "user", "path", "digits"] (defScope s_do_folder) := ⟨rfl, rfl, rfl, by decide +kernel, rfl, by decide +kernel, by decide +kernel⟩
abbrev s_need_house : Stmt := top 111
theorem sc_need_house : FnScope ["house"] ["house"] (defScope s_need_house) := ⟨rfl, rfl, rfl, by decide +kernel, rfl, by decide +kernel, by decide +kernel⟩
abbrev s_do : Stmt := top 112
theorem sc_do : FnScope ["house", "deed", "user", "word", "things", "action"] ["house", "deed"] (defScope s_do) := ⟨rfl, rfl, rfl, by decide +kernel, rfl, by decide +kernel, by decide +kernel⟩
abbrev s_l_cell : Stmt := top 114
theorem sc_l_cell : FnScope ["_law_script", "_law_k"] ["_law_script", "_law_k"] (defScope s_l_cell) := ⟨rfl, rfl, rfl, by decide +kernel, rfl, by decide +kernel, by decide +kernel⟩
abbrev s_l_box : Stmt := top 115
theorem sc_l_box : FnScope ["_law_cell_here"] ["_law_cell_here"] (defScope s_l_box) := ⟨rfl, rfl, rfl, by decide +kernel, rfl, by decide +kernel, by decide +kernel⟩
abbrev s_l_take : Stmt := top 116
theorem sc_l_take : FnScope ["_law_box_here", "_law_many", "_law_digit", "_law_mixed"] ["_law_box_here", "_law_many"] (defScope s_l_take) := ⟨rfl, rfl, rfl, by decide +kernel, rfl, by decide +kernel, by decide +kernel⟩
abbrev s_l_marks : Stmt := top 117
theorem sc_l_marks : FnScope ["_law_house", "_law_path"] ["_law_house"] (defScope s_l_marks) := ⟨rfl, rfl, rfl, by decide +kernel, rfl, by decide +kernel, by decide +kernel⟩
abbrev s_l_below : Stmt := top 118
theorem sc_l_below : FnScope ["_law_path", "_law_other"] ["_law_path", "_law_other"] (defScope s_l_below) := ⟨rfl, rfl, rfl, by decide +kernel, rfl, by decide +kernel, by decide +kernel⟩
abbrev s_l_put : Stmt := top 119
theorem sc_l_put : FnScope ["_law_box_here", "_law_house", "_law_marks_here", "_law_users", "_law_folder", "_law_at", "_law_way", "_law_name", "_law_path", "_law_kind"] ["_law_box_here", "_law_house", "_law_marks_here", "_law_users"] (defScope s_l_put) := ⟨rfl, rfl, rfl, by decide +kernel, rfl, by decide +kernel, by decide +kernel⟩
abbrev s_l_shifted : Stmt := top 120
theorem sc_l_shifted : FnScope ["_law_box_here", "_law_house", "_law_marks_here", "_law_paths", "_law_path", "_law_to", "_law_found", "_law_one"] ["_law_box_here", "_law_house", "_law_marks_here"] (defScope s_l_shifted) := ⟨rfl, rfl, rfl, by decide +kernel, rfl, by decide +kernel, by decide +kernel⟩
abbrev s_l_cut : Stmt := top 121
theorem sc_l_cut : FnScope ["_law_box_here", "_law_house", "_law_marks_here", "_law_paths", "_law_path", "_law_one"] ["_law_box_here", "_law_house", "_law_marks_here"] (defScope s_l_cut) := ⟨rfl, rfl, rfl, by decide +kernel, rfl, by decide +kernel, by decide +kernel⟩
abbrev s_l_turn : Stmt := top 122
theorem sc_l_turn : FnScope ["_law_box_here", "_law_family", "_law_kept", "_law_users", "_law_at", "_law_way", "_law_house", "_law_marks_here", "_law_some", "_law_row", "_law_due", "_law_path"] ["_law_box_here", "_law_family", "_law_kept", "_law_users"] (defScope s_l_turn) := ⟨rfl, rfl, rfl, by decide +kernel, rfl, by decide +kernel, by decide +kernel⟩
abbrev s_l_family_right : Stmt := top 123
theorem sc_l_family_right : FnScope ["_law_family", "_law_house", "_law_marks_here", "_law_numbers", "_law_path", "_law_one"] ["_law_family"] (defScope s_l_family_right) := ⟨rfl, rfl, rfl, by decide +kernel, rfl, by decide +kernel, by decide +kernel⟩
abbrev s_law : Stmt := top 124
theorem sc_law : FnScope ["_law_script", "_law_k", "_law_box_here", "_law_users", "_law_house", "_law_family", "_law_kept", "_law_turn_here", "_law_at", "_law_user"] ["_law_script"] (defScope s_law) := ⟨rfl, rfl, rfl, by decide +kernel, rfl, by decide +kernel, by decide +kernel⟩
def kT (f : Bool) : Str := if f then Str.ofString "file" else Str.ofString "folder"
def wds : List Str := ["", "x", "w", "wx", "r", "rx", "rw", "rwx"]
end K37
end
section
set_option Elab.async false
set_option linter.all false
set_option maxRecDepth 100000
set_option maxHeartbeats 0
noncomputable section
namespace K37H
open PySem PySem.W PySem.Calls PyProof.Rows HandSHeadRun
/-! ### runs that are cut -/
section
variable (st : SharedT → Thread → Option (SharedT × Thread)) (n0 : Nat) (ann : Option Value)
/-- steps until the thread meets a sign -/
def unF (stop : Thread → Bool) : Nat → SharedT → Thread → Option (SharedT × Thread)
  | 0, _, _ => none
  | m + 1, s, t => match stop t with
    | true => some (s, t)
    | false => match through t with
      | true => none
      | false => match stepOk n0 ann t with
        | false => none
        | true => match st s t with
          | some (s', t') => frS s' fun s' => unF stop m s' t'
          | none => none
/-- steps until the code of one frame is through -/
def sgF (d : Nat) : Nat → SharedT → Thread → Option (Flow × SharedT × Code × Pos)
  | 0, _, _ => none
  | m + 1, s, t => match endAt d t with
    | some f => some (f, s, t.code, t.pos)
    | none => match stepOk n0 ann t with
      | false => none
      | true => match st s t with
        | some (s', t') => frS s' fun s' => sgF d m s' t'
        | none => none
end
section
variable {tb : String → Option Builtin} {p : Program} {w : World} {n0 : Nat} {ann : Option Value}
theorem unF_top {stop : Thread → Bool} {N : Nat} {r : Shared} : ∀ {m : Nat} {s s' : SharedT} {t t' : Thread}, unF (stepT (denote tb) p w) n0 ann stop m s t = some (s', t') → topRun tb p w n0 ann N s'.abs t' = some r → topRun tb p w n0 ann (m + N) s.abs t = some r
  | 0, _, _, _, _, h, _ => nomatch h
  | m + 1, s, s', t, t', h, k => by
    simp only [unF] at h
    cases e1 : stop t with
    | true =>
      simp only [e1, Option.some.injEq, Prod.mk.injEq] at h
      obtain ⟨rfl, rfl⟩ := h
      have z := topRun_mono (m + 1) _ _ _ _ k
      rwa [Nat.add_comm N (m + 1)] at z
    | false =>
      simp only [e1] at h
      cases e2 : through t with
      | true => simp only [e2] at h; cases h
      | false =>
        simp only [e2] at h
        cases e3 : stepOk n0 ann t with
        | false => simp only [e3] at h; cases h
        | true =>
          simp only [e3] at h
          cases e4 : stepT (denote tb) p w s t with
          | none => simp only [e4] at h; cases h
          | some q =>
            obtain ⟨s2, t2⟩ := q
            simp only [e4, frS_eq] at h
            have z := unF_top h k
            rw [show m + 1 + N = m + N + 1 by omega]
            unfold topRun
            rw [e2, e3, stepT_spec e4]
            exact z
theorem sgF_seg {d : Nat} {f : Flow} {c : Code} {q : Pos} : ∀ {m : Nat} {s s' : SharedT} {t : Thread}, sgF (stepT (denote tb) p w) n0 ann d m s t = some (f, s', c, q) → segRun tb p w n0 ann d m s.abs t = some (f, s'.abs, c, q)
  | 0, _, _, _, h => nomatch h
  | m + 1, s, s', t, h => by
    simp only [sgF] at h
    unfold segRun
    cases e1 : endAt d t with
    | some g =>
      simp only [e1, Option.some.injEq, Prod.mk.injEq] at h
      obtain ⟨rfl, rfl, rfl, rfl⟩ := h
      rfl
    | none =>
      simp only [e1] at h
      cases e3 : stepOk n0 ann t with
      | false => simp only [e3] at h; cases h
      | true =>
        simp only [e3] at h
        cases e4 : stepT (denote tb) p w s t with
        | none => simp only [e4] at h; cases h
        | some z =>
          obtain ⟨s2, t2⟩ := z
          simp only [e4, frS_eq] at h
          have z := sgF_seg h
          show (match step (denote tb) p w s.abs t with | .go s' t' => segRun tb p w n0 ann d m s' t' | .halt _ _ => none) = _
          rw [stepT_spec e4]
          exact z
end
/-! ### the places -/
def o_2 (P : Params) : Obj := { cls := vN, data := dF #[] }
def tree0 (P : Params) : W.BT := nd (W.boot_o_0 P) (nd (W.boot_o_1 P) (nd (W.boot_o_3 P) (nd (W.boot_o_7 P) nl nl) (nd (o_1 P) nl nl)) (nd (W.boot_o_5 P) (nd (W.boot_o_9 P) nl nl) (nd (o_3 P) nl nl)))
  (nd (W.boot_o_2 P) (nd (W.boot_o_4 P) (nd (W.boot_o_8 P) nl nl) (nd (o_2 P) nl nl)) (nd (W.boot_o_6 P) (nd (W.boot_o_10 P) nl nl) (nd (o_4 P) nl nl)))
abbrev bE : List Stmt := behindTheImports PR
abbrev cE : Code := .body bE env1
abbrev p0 : Pos := { line := 0, col := 0, endLine := 0, endCol := 0 }
abbrev p1 : Pos := { line := 137, col := 0, endLine := 141, endCol := 24 }
abbrev fB : List Frame := [topFrame p0]
def st0 (w : World) (os : OsState) : SharedT := { tree := tree0 w.params, n := 15, life := {}, gens := #[], drawn := {}, toks := 187, os := os }
abbrev aN : Option Value := some (.ref 6)
def boot0 (w : World) (os : OsState) : Option SharedT := match putAll (boot_heap w.params).objs.toList .nil 0 with
  | some (t, n) => some (bootT w os (t, n))
  | none => none
def pre0 (w : World) (os : OsState) : Option (SharedT × Thread) := (boot0 w os).bind fun s => unF (stepQ (denQ tabQ) PR w) 11 aN (fun t => Nat.beq t.stack.length 1) 200 s (topStub PR)
def sa (w : World) (os : OsState) : SharedT := match pre0 w os with
  | some (s, _) => s
  | none => st0 w os
theorem pre_ok (w : World) (os : OsState) : pre0 w os = some (sa w os, ⟨denQ tabQ cE, cE, p0, fB⟩) := by
  kernel_rfl
theorem blk_ok (w : World) (os : OsState) : sgF (stepQ (denQ tabQ) PR w) 11 aN 1 200 (sa w os) (blockOf bE env1 cE p0 fB) = some (.next, st0 w os, cE, p0) := by
  kernel_rfl
theorem grp_ok (w : World) (os : OsState) : sgF (stepQ (denQ tabQ) PR w) 11 aN 1 8000 (st0 w os) (piecesOf (bE.take 31) env1 cE p0 fB) = some (.next, st1 w os, cE, p1) := by
  kernel_rfl
/-- the top up to the cut -/
theorem to_cut (w : World) (os : OsState) {N : Nat} {r : Shared} (k : topRun treeTable PR w 11 aN N (st1 w os).abs (restOf (bE.drop 31) env1 cE p1 fB) = some r) :
    ∃ s, boot0 w os = some s ∧ topRun treeTable PR w 11 aN (200 + (200 + (8000 + N))) s.abs (topStub PR) = some r := by
  have e1 := pre_ok w os
  have e2 := blk_ok w os
  have e3 := grp_ok w os
  unfold pre0 at e1
  rw [← stepQ_eq, ← denQ_eq, ← tabQ_eq] at e1 e2 e3
  obtain ⟨s, hs, e1⟩ := Option.bind_eq_some_iff.mp e1
  refine ⟨s, hs, ?_⟩
  refine unF_top e1 ?_
  refine piece_block (sgF_seg e2) ?_
  have e : bE = bE.take 31 ++ bE.drop 31 := (List.take_append_drop 31 bE).symm
  have z := piece_app (rest := bE.drop 31) (sgF_seg e3) k
  rw [← e] at z
  exact z
end K37H
end
end
section
set_option Elab.async false
set_option linter.all false
set_option maxRecDepth 100000
set_option maxHeartbeats 0
noncomputable section
namespace K37H
open PySem PySem.W PySem.Calls PyProof.Rows HandSHeadRun
def execsQ : List Stmt → Env → Sem Flow := PySem.W.Fast.tw12563942051412417395
theorem execsQ_eq : @PySem.execs = execsQ := PySem.W.Fast.te12563942051412417395
def leavingQ : Env → Value → Sem Unit := PySem.W.Fast.tw9442747609961115081
theorem leavingQ_eq : @PySem.leaving = leavingQ := PySem.W.Fast.te9442747609961115081
/-- the rest of a block, by the twins -/
def restQ (rest : List Stmt) (env : Env) (c : Code) (p : Pos) (B : List Frame) : Thread := ⟨(execsQ rest env).wrap doneF (fun e => ((leavingQ env e).bind fun _ => (.raise e : Sem Flow)).wrap doneF .raise id id) id id, c, p, B⟩
theorem restQ_eq (rest : List Stmt) (env : Env) (c : Code) (p : Pos) (B : List Frame) : restOf rest env c p B = restQ rest env c p B := by
  unfold restOf restQ
  rw [← execsQ_eq, ← leavingQ_eq]
end K37H
end
end
section
set_option Elab.async false
set_option linter.all false
set_option maxRecDepth 100000
set_option maxHeartbeats 4000000
/-! H5: what is looked at behind the top; the walk's facts from it. -/
noncomputable section
namespace K37H
open PySem PySem.Spec PyProof.Rows L2 ClX StX K37
/-! ### defs, wherever they stand -/
structure DefE where
  at_ : PySem.W.Frag → Addr
  name : PySem.Str
  qual : PySem.Str
  st : Stmt
  dvs : List V
  kws : List (PySem.Str × V)
def DefE.val (d : DefE) : He.FnW := some (d.name, d.qual, defArgs d.st, .stmts (defBody d.st), defScope d.st, mainGlobals, [], builtinsNs)
def fnE (K : PySem.W.Frag) (d : DefE) : He.FnW := match K.lookup (d.at_ K) with
  | some ⟨_, _, .func fd, _⟩ => some (fd.name, fd.qualname, fd.params, fd.body, fd.scope, fd.globals, fd.closure, fd.builtins)
  | _ => none
def DefE.ok (K : PySem.W.Frag) (d : DefE) : Bool := PySem.W.keepIn K (.ref (d.at_ K)) && (match K.lookup (d.at_ K) with
  | some ⟨_, _, .func fd, _⟩ => PySem.W.codeIn K fd.code d.qual && (He.dflB K fd.defaults d.dvs && He.kwdB K fd.kwdefaults d.kws)
  | _ => false)
theorem ba {a b : Bool} (h : (a && b) = true) : a = true ∧ b = true := Bool.and_eq_true_iff.mp h
theorem DefE.funD {K : PySem.W.Frag} {d : DefE} (e : fnE K d = d.val) (c : d.ok K = true) : ∃ fd, FunD K d.name d.qual (defArgs d.st) (defBody d.st) (defScope d.st) d.dvs d.kws (d.at_ K) fd := by
  obtain ⟨kp, c2⟩ := ba c
  unfold fnE at e
  cases q : K.lookup (d.at_ K) with
  | none =>
    rw [q] at c2
    cases c2
  | some o =>
    obtain ⟨oc, od, dt, osl⟩ := o
    rw [q] at c2 e
    cases dt with
    | func fd =>
      obtain ⟨n1, n2, n3, n4, n5, n6, n7, n8, n9, n10, n11, n12, n13, n14, n15⟩ := fd
      have e2 : (some (n1, n2, n3, n4, n5, n6, n7, n15) : He.FnW) = some (d.name, d.qual, defArgs d.st, .stmts (defBody d.st), defScope d.st, mainGlobals, [], builtinsNs) := e
      simp only [Option.some.injEq, Prod.mk.injEq] at e2
      obtain ⟨h1, h2, h3, h4, h5, h6, h7, h8⟩ := e2
      subst h1 h2 h3 h4 h5 h6 h7 h8
      have c3 : (PySem.W.codeIn K n13 d.qual && (He.dflB K n8 d.dvs && He.kwdB K n9 d.kws)) = true := c2
      obtain ⟨k1, k2⟩ := ba c3
      obtain ⟨k3, k4⟩ := ba k2
      exact ⟨_, ⟨oc, od, n8, n9, n10, n11, n12, n13, n14, osl, rfl, q, k1, He.dflB_ok k3, He.kwdB_ok k4⟩, kp⟩
    | _ => cases c2
/-! ### records: properties, class methods -/
def recA (K : PySem.W.Frag) (p : Addr) (T : String) : Addr := match PySem.W.recIn K p T with
  | some (.ref g :: _) => g
  | _ => 0
def recB (K : PySem.W.Frag) (p : Addr) (T : String) : Bool := match PySem.W.recIn K p T with
  | some (.ref _ :: _) => true
  | _ => false
theorem rec_ok {K : PySem.W.Frag} {p : Addr} {T : String} (h : recB K p T = true) : ∃ rest, PySem.W.recIn K p T = some (.ref (recA K p T) :: rest) := by
  unfold recB at h
  unfold recA
  split at h
  · rename_i g r e
    rw [e]
    exact ⟨r, rfl⟩
  · cases h
def proB (K : PySem.W.Frag) (C : Addr) (m : PySem.Str) : Bool := He.eqO (PySem.W.findIn K (.ref C) m) (some (some (.ref (He.ma K C m)))) && (He.eqO (PySem.W.specialIn K (.ref (He.ma K C m)) "__get__") (some (some (.builtin "property.__get__"))) &&
  (decide (PySem.W.takesIn K (.ref (He.ma K C m)) = some true) && recB K (He.ma K C m) "property"))
theorem pro_ok {K : PySem.W.Frag} {C : Addr} {m : PySem.Str} (h : proB K C m = true) : PropOf K C m (He.ma K C m) (recA K (He.ma K C m) "property") := by
  obtain ⟨h1, h⟩ := ba h
  obtain ⟨h2, h⟩ := ba h
  obtain ⟨h3, h4⟩ := ba h
  exact ⟨He.eqO_ok h1, He.eqO_ok h2, of_decide_eq_true h3, rec_ok h4⟩
def clsB (K : PySem.W.Frag) (C : Addr) : Bool := PySem.W.readsIn K C (.type "type") && He.eqO (PySem.W.specialIn K (.ref C) "__getattribute__") (some (some (.builtin "type.__getattribute__")))
theorem cls_ok {K : PySem.W.Frag} {C : Addr} (h : clsB K C = true) : CRead K C (.type "type") := by
  obtain ⟨h1, h2⟩ := ba h
  exact ⟨h1, He.eqO_ok h2⟩
def foundB (r : Option PySem.W.CFound) (b : String) (p C : Addr) : Bool := match r with
  | some (.get g a o t) => decide (g = .builtin b) && (decide (a = .ref p) && (decide (o = .none) && decide (t = .ref C)))
  | _ => false
theorem found_ok {r : Option PySem.W.CFound} {b : String} {p C : Addr} (h : foundB r b p C = true) : r = some (.get (.builtin b) (.ref p) .none (.ref C)) := by
  unfold foundB at h
  split at h
  · obtain ⟨h1, h⟩ := ba h
    obtain ⟨h2, h⟩ := ba h
    obtain ⟨h3, h4⟩ := ba h
    rw [of_decide_eq_true h1, of_decide_eq_true h2, of_decide_eq_true h3, of_decide_eq_true h4]
  · cases h
def cmB (K : PySem.W.Frag) (C : Addr) (m : PySem.Str) : Bool := foundB (PySem.W.findCls K (.ref C) (.type "type") m) "classmethod.__get__" (He.ma K C m) C && (recB K (He.ma K C m) "classmethod" && PySem.W.fnIn K (recA K (He.ma K C m) "classmethod"))
theorem cm_ok {K : PySem.W.Frag} {C : Addr} {m : PySem.Str} (h : cmB K C m = true) : CMet K C (.type "type") m (He.ma K C m) (recA K (He.ma K C m) "classmethod") := by
  obtain ⟨h1, h⟩ := ba h
  obtain ⟨h2, h3⟩ := ba h
  exact ⟨found_ok h1, rec_ok h2, h3⟩
def smB (K : PySem.W.Frag) (C : Addr) (m : PySem.Str) : Bool := foundB (PySem.W.findCls K (.ref C) (.type "type") m) "staticmethod.__get__" (He.ma K C m) C && (recB K (He.ma K C m) "staticmethod" && PySem.W.keepIn K (.ref (recA K (He.ma K C m) "staticmethod")))
def noB (K : PySem.W.Frag) (x : PySem.Str) (fs : List PySem.Str) : Bool := fs.all fun f => (He.Fa.noat x f).ok K
/-! ### tables -/
def tupAt (K : PySem.W.Frag) (t : Addr) (vs : List V) : Bool := match K.lookup t with
  | some ⟨.type c, _, .seq its _, _⟩ => decide (c = "tuple") && (decide (its.size ≤ sizeLine) && He.relAll vs its.toList)
  | _ => false
theorem tupAt_ok {K : PySem.W.Frag} {t : Addr} {vs : List V} (h : tupAt K t vs = true) (H : Hp) : SqT K H t vs := by
  unfold tupAt at h
  split at h
  · rename_i c d its n sl q
    obtain ⟨h1, h⟩ := ba h
    obtain ⟨h2, h3⟩ := ba h
    exact .inr ⟨_, its, n, q, congrArg Value.type (of_decide_eq_true h1), rfl, of_decide_eq_true h2, He.relAll_ok h3⟩
  · cases h
def bitsB (K : PySem.W.Frag) : Bool := He.valsB K (He.ga K "BITS") [(⟨#[114]⟩, .int 4), (⟨#[119]⟩, .int 2), (⟨#[120]⟩, .int 1)]
def plainB (K : PySem.W.Frag) : Bool := He.valsB K (He.ga K "PLAIN") [(kT true, .str "644"), (kT false, .str "755")]
def formB (K : PySem.W.Frag) (f : Bool) : Bool := match PySem.W.nsIn K (He.ga K "FORMS") (kT f) with
  | some (some (.ref t)) => tupAt K t [.ref (He.ga K "is_path"), .ref (He.ga K "is_digits")]
  | _ => false
def formsB (K : PySem.W.Frag) : Bool := formB K true && formB K false
def deedsB (K : PySem.W.Frag) : Bool := He.eqO (PySem.W.nsIn K (He.ga K "DEEDS") (kT true)) (some (some (.ref (He.ga K "do_file")))) && He.eqO (PySem.W.nsIn K (He.ga K "DEEDS") (kT false)) (some (some (.ref (He.ga K "do_folder"))))
/-! ### the lists -/

def fns0 : List DefE := [⟨fun K => He.ga K "is_name", "is_name", "is_name", s_is_name, [], []⟩,
  ⟨fun K => He.ga K "is_path", "is_path", "is_path", s_is_path, [], []⟩,
  ⟨fun K => He.ga K "need_path_words", "need_path", "need_path", s_need_path_words, [], []⟩,
  ⟨fun K => He.ga K "parts_of", "parts_of", "parts_of", s_parts_of, [], []⟩,
  ⟨fun K => He.ga K "path_by", "path_by", "path_by", s_path_by, [], []⟩,
  ⟨fun K => He.ga K "above", "above", "above", s_above, [], []⟩,
  ⟨fun K => He.ga K "is_below", "is_below", "is_below", s_is_below, [], []⟩,
  ⟨fun K => He.ga K "digit_of", "digit_of", "digit_of", s_digit_of, [], []⟩,
  ⟨fun K => He.ma K (He.ga K "Rights") "__init__", "__init__", "Rights.__init__", s_R_init, [.str ""], []⟩,
  ⟨fun K => recA K (He.ma K (He.ga K "Rights") "from_digit") "classmethod", "from_digit", "Rights.from_digit", s_R_from_digit, [], []⟩,
  ⟨fun K => recA K (He.ma K (He.ga K "Rights") "of") "classmethod", "of", "Rights.of", s_R_of, [], []⟩,
  ⟨fun K => recA K (He.ma K (He.ga K "Rights") "digit") "property", "digit", "Rights.digit", s_R_digit, [], []⟩,
  ⟨fun K => He.ma K (He.ga K "Rights") (PySem.dunder Operator.Sub.info.2), "__sub__", "Rights.__sub__", s_R_sub, [], []⟩,
  ⟨fun K => He.ga K "digit_in", "digit_in", "digit_in", s_digit_in, [], []⟩,
  ⟨fun K => He.ga K "is_rights", "is_rights", "is_rights", s_is_rights, [], []⟩,
  ⟨fun K => He.ga K "as_rights", "as_rights", "as_rights", s_as_rights, [], []⟩,
  ⟨fun K => He.ga K "is_digits", "is_digits", "is_digits", s_is_digits, [], []⟩,
  ⟨fun K => He.ga K "need_digits", "need_digits", "need_digits", s_need_digits, [], []⟩,
  ⟨fun K => He.ga K "rights_of_digits", "rights_of_digits", "rights_of_digits", s_rights_of_digits, [], []⟩,
  ⟨fun K => He.ga K "without_letters", "without_letters", "without_letters", s_without_letters, [], []⟩,
  ⟨fun K => He.ga K "named_rights", "named_rights", "named_rights", s_named_rights, [], []⟩,
  ⟨fun K => He.ma K (He.ga K "AccessList") "__init__", "__init__", "AccessList.__init__", s_A_init, [], [("users", .non), ("groups", .non), ("mask", .non)]⟩,
  ⟨fun K => recA K (He.ma K (He.ga K "AccessList") "plain") "classmethod", "plain", "AccessList.plain", s_A_plain, [], []⟩,
  ⟨fun K => recA K (He.ma K (He.ga K "AccessList") "everything") "staticmethod", "everything", "AccessList.everything", s_A_everything, [], []⟩,
  ⟨fun K => recA K (He.ma K (He.ga K "AccessList") "owner") "property", "owner", "AccessList.owner", s_A_owner, [], []⟩,
  ⟨fun K => recA K (He.ma K (He.ga K "AccessList") "group") "property", "group", "AccessList.group", s_A_group, [], []⟩,
  ⟨fun K => recA K (He.ma K (He.ga K "AccessList") "other") "property", "other", "AccessList.other", s_A_other, [], []⟩,
  ⟨fun K => recA K (He.ma K (He.ga K "AccessList") "mask") "property", "mask", "AccessList.mask", s_A_mask, [], []⟩,
  ⟨fun K => He.ma K (He.ga K "AccessList") "users", "users", "AccessList.users", s_A_users, [], []⟩,
  ⟨fun K => He.ma K (He.ga K "AccessList") "groups", "groups", "AccessList.groups", s_A_groups, [], []⟩,
  ⟨fun K => He.ga K "is_list", "is_list", "is_list", s_is_list, [], []⟩,
  ⟨fun K => He.ga K "is_folk", "is_folk", "is_folk", s_is_folk, [], []⟩,
  ⟨fun K => He.ga K "are_groups", "are_groups", "are_groups", s_are_groups, [], []⟩,
  ⟨fun K => He.ma K (He.ga K "People") "__init__", "__init__", "People.__init__", s_P_init, [], []⟩,
  ⟨fun K => He.ma K (He.ga K "People") "__contains__", "__contains__", "People.__contains__", s_P_contains, [], []⟩,
  ⟨fun K => He.ma K (He.ga K "People") "users", "users", "People.users", s_P_users, [], []⟩,
  ⟨fun K => He.ma K (He.ga K "People") "need_user", "need_user", "People.need_user", s_P_need_user, [], []⟩,
  ⟨fun K => He.ma K (He.ga K "People") "groups_of", "groups_of", "People.groups_of", s_P_groups_of, [], []⟩,
  ⟨fun K => He.ma K (He.ga K "People") "first_group", "first_group", "People.first_group", s_P_first_group, [], []⟩,
  ⟨fun K => He.ma K (He.ga K "Judge") "__init__", "__init__", "Judge.__init__", s_J_init, [], []⟩]
def fns1 : List DefE := [⟨fun K => He.ma K (He.ga K "Judge") "__call__", "__call__", "Judge.__call__", s_J_call, [], []⟩,
  ⟨fun K => He.ma K (He.ga K "Judge") "need_case", "need_case", "Judge.need_case", s_J_need_case, [], []⟩,
  ⟨fun K => He.ma K (He.ga K "Judge") "entries_for", "entries_for", "Judge.entries_for", s_J_entries_for, [], []⟩,
  ⟨fun K => He.ma K (He.ga K "Judge") "deciding", "deciding", "Judge.deciding", s_J_deciding, [], []⟩,
  ⟨fun K => He.ma K (He.ga K "Node") "__init__", "__init__", "Node.__init__", s_N_init, [], []⟩,
  ⟨fun K => recA K (He.ma K (He.ga K "Node") "kind") "property", "kind", "Node.kind", s_N_kind, [], []⟩,
  ⟨fun K => recA K (He.ma K (He.ga K "Node") "owner") "property", "owner", "Node.owner", s_N_owner, [], []⟩,
  ⟨fun K => recA K (He.ma K (He.ga K "Node") "group") "property", "group", "Node.group", s_N_group, [], []⟩,
  ⟨fun K => recA K (He.ma K (He.ga K "Node") "access") "property", "access", "Node.access", s_N_access, [], []⟩,
  ⟨fun K => recA K (He.ma K (He.ga K "Node") "passes") "property", "passes", "Node.passes", s_N_passes, [], []⟩,
  ⟨fun K => recA K (He.ma K (He.ga K "Node") "default") "property", "default", "Node.default", s_N_default, [], []⟩,
  ⟨fun K => recA K (He.ma K (He.ga K "Node") "number") "property", "number", "Node.number", s_N_number, [], []⟩,
  ⟨fun K => He.ma K (He.ga K "Node") "with_field", "with_field", "Node.with_field", s_N_with_field, [], []⟩,
  ⟨fun K => He.ga K "new_node", "new_node", "new_node", s_new_node, [], [("content", .str ""), ("passes", .bl false), ("default", .non)]⟩,
  ⟨fun K => He.ga K "need_path_house", "need_path", "need_path", s_need_path_house, [], []⟩,
  ⟨fun K => He.ga K "joined", "joined", "joined", s_joined, [], []⟩,
  ⟨fun K => He.ma K (He.ga K "House") "__init__", "__init__", "House.__init__", s_H_init, [], []⟩,
  ⟨fun K => recA K (He.ma K (He.ga K "House") "people") "property", "people", "House.people", s_H_people, [], []⟩,
  ⟨fun K => He.ma K (He.ga K "House") "nodes", "nodes", "House.nodes", s_H_nodes, [], []⟩,
  ⟨fun K => He.ma K (He.ga K "House") "__contains__", "__contains__", "House.__contains__", s_H_contains, [], []⟩,
  ⟨fun K => He.ma K (He.ga K "House") "__getitem__", "__getitem__", "House.__getitem__", s_H_getitem, [], []⟩,
  ⟨fun K => He.ma K (He.ga K "House") "need_changeable", "need_changeable", "House.need_changeable", s_H_need_changeable, [], []⟩,
  ⟨fun K => He.ma K (He.ga K "House") "need_folder", "need_folder", "House.need_folder", s_H_need_folder, [], []⟩,
  ⟨fun K => He.ma K (He.ga K "House") "paths", "paths", "House.paths", s_H_paths, [], []⟩,
  ⟨fun K => He.ma K (He.ga K "House") "put", "put", "House.put", s_H_put, [], []⟩,
  ⟨fun K => He.ma K (He.ga K "House") "need_place", "need_place", "House.need_place", s_H_need_place, [], []⟩,
  ⟨fun K => He.ma K (He.ga K "House") "need_folk", "need_folk", "House.need_folk", s_H_need_folk, [], []⟩,
  ⟨fun K => He.ma K (He.ga K "House") "add", "add", "House.add", s_H_add, [], [("owner", .str "root"), ("group", .str "root"), ("access", .non), ("content", .str "")]⟩,
  ⟨fun K => He.ma K (He.ga K "House") "cut", "cut", "House.cut", s_H_cut, [], []⟩,
  ⟨fun K => He.ma K (He.ga K "House") "shift", "shift", "House.shift", s_H_shift, [], []⟩,
  ⟨fun K => He.ma K (He.ga K "House") "umask_of", "umask_of", "House.umask_of", s_H_umask_of, [], []⟩,
  ⟨fun K => He.ma K (He.ga K "House") "restore", "restore", "House.restore", s_H_restore, [], []⟩,
  ⟨fun K => He.ma K (He.ga K "House") "copied", "copied", "House.copied", s_H_copied, [], []⟩,
  ⟨fun K => He.ma K (He.ga K "House") "grants", "grants", "House.grants", s_H_grants, [], []⟩,
  ⟨fun K => He.ga K "need_asked", "need_asked", "need_asked", s_need_asked, [], []⟩,
  ⟨fun K => He.ga K "lacking", "lacking", "lacking", s_lacking, [], []⟩,
  ⟨fun K => He.ga K "is_deed", "is_deed", "is_deed", s_is_deed, [], []⟩,
  ⟨fun K => He.ga K "need_way", "need_way", "need_way", s_need_way, [], []⟩,
  ⟨fun K => He.ga K "need_granted", "need_granted", "need_granted", s_need_granted, [], []⟩,
  ⟨fun K => He.ga K "need_place", "need_place", "need_place", s_d_need_place, [], []⟩]
def fns2 : List DefE := [⟨fun K => He.ga K "make", "make", "make", s_make, [], []⟩,
  ⟨fun K => He.ga K "do_file", "do_file", "do_file", s_do_file, [], []⟩,
  ⟨fun K => He.ga K "do_folder", "do_folder", "do_folder", s_do_folder, [], []⟩,
  ⟨fun K => He.ga K "need_house", "need_house", "need_house", s_need_house, [], []⟩,
  ⟨fun K => He.ga K "do", "do", "do", s_do, [], []⟩,
  ⟨fun K => He.ga K "_law_cell", "_law_cell", "_law_cell", s_l_cell, [], []⟩,
  ⟨fun K => He.ga K "_law_box", "_law_box", "_law_box", s_l_box, [], []⟩,
  ⟨fun K => He.ga K "_law_take", "_law_take", "_law_take", s_l_take, [], []⟩,
  ⟨fun K => He.ga K "_law_marks", "_law_marks", "_law_marks", s_l_marks, [], []⟩,
  ⟨fun K => He.ga K "_law_below", "_law_below", "_law_below", s_l_below, [], []⟩,
  ⟨fun K => He.ga K "_law_put", "_law_put", "_law_put", s_l_put, [], []⟩,
  ⟨fun K => He.ga K "_law_shifted", "_law_shifted", "_law_shifted", s_l_shifted, [], []⟩,
  ⟨fun K => He.ga K "_law_cut", "_law_cut", "_law_cut", s_l_cut, [], []⟩,
  ⟨fun K => He.ga K "_law_turn", "_law_turn", "_law_turn", s_l_turn, [], []⟩,
  ⟨fun K => He.ga K "_law_family_right", "_law_family_right", "_law_family_right", s_l_family_right, [], []⟩,
  ⟨fun K => He.ga K "law", "law", "law", s_law, [], []⟩]
def fns : List DefE := fns0 ++ fns1 ++ fns2
def chks0 (K : PySem.W.Frag) : List Bool := [(He.Fa.free "isinstance").ok K,
  (He.Fa.free "str").ok K,
  (He.Fa.free "int").ok K,
  (He.Fa.free "bool").ok K,
  (He.Fa.free "list").ok K,
  (He.Fa.free "dict").ok K,
  (He.Fa.free "tuple").ok K,
  (He.Fa.free "len").ok K,
  (He.Fa.free "all").ok K,
  (He.Fa.free "any").ok K,
  (He.Fa.free "sorted").ok K,
  (He.Fa.free "enumerate").ok K,
  (He.Fa.free "range").ok K,
  (He.Fa.free "set").ok K,
  (He.Fa.free "max").ok K,
  (He.Fa.free "min").ok K,
  (He.Fa.free "zip").ok K,
  (He.Fa.int "MOST_LETTERS" 8).ok K,
  (He.Fa.str "LETTERS_words" "abcdefghijklmnopqrstuvwxyz").ok K,
  (He.Fa.str "GROUND_words" "/").ok K,
  (He.Fa.glo "is_name").ok K,
  (He.Fa.glo "is_path").ok K,
  (He.Fa.glo "need_path_words").ok K,
  (He.Fa.glo "parts_of").ok K,
  (He.Fa.glo "path_by").ok K,
  (He.Fa.glo "above").ok K,
  (He.Fa.glo "is_below").ok K,
  bitsB K,
  (He.Fa.glo "BITS").ok K,
  (He.Fa.glo "WORDS").ok K,
  He.tupB K "WORDS" (wds.map He.Dv.str),
  (He.Fa.glo "digit_of").ok K,
  (He.Fa.glo "Rights").ok K,
  (He.Fa.cls "Rights").ok K,
  noB K "Rights" ["own_digit", "own_letters"],
  He.eqO (PySem.W.findIn K (.ref (He.ga K "Rights")) "__class__") (some (some (.builtin "object.__class__"))),
  He.eqO (PySem.W.specialIn K (.builtin "object.__class__") "__get__") (some (some (.builtin "getset_descriptor.__get__"))),
  decide (PySem.W.takesIn K (.builtin "object.__class__") = some true),
  decide (PySem.W.mroIn K (He.ga K "Rights") (.type "object") = some true),
  decide (PySem.W.kitOne K (.type "str") (.ref (He.ga K "Rights")) = some false)]
def chks1 (K : PySem.W.Frag) : List Bool := [(He.Fa.mkr "Rights").ok K,
  clsB K (He.ga K "Rights"),
  cmB K (He.ga K "Rights") "from_digit",
  clsB K (He.ga K "Rights"),
  cmB K (He.ga K "Rights") "of",
  proB K (He.ga K "Rights") "digit",
  He.eqO (PySem.W.findIn K (.ref (He.ga K "Rights")) (PySem.dunder Operator.Sub.info.2)) (some (some (.ref (He.ma K (He.ga K "Rights") (PySem.dunder Operator.Sub.info.2))))),
  PySem.W.isFn K (.ref (He.ma K (He.ga K "Rights") (PySem.dunder Operator.Sub.info.2))),
  PySem.W.selfFirst K (He.ga K "Rights"),
  (He.Fa.glo "digit_in").ok K,
  (He.Fa.glo "is_rights").ok K,
  (He.Fa.glo "as_rights").ok K,
  (He.Fa.glo "is_digits").ok K,
  (He.Fa.glo "need_digits").ok K,
  (He.Fa.glo "rights_of_digits").ok K,
  (He.Fa.glo "without_letters").ok K,
  (He.Fa.glo "named_rights").ok K,
  (He.Fa.glo "AccessList").ok K,
  (He.Fa.cls "AccessList").ok K,
  noB K "AccessList" ["own_owner", "own_group", "own_other", "own_users", "own_groups", "own_mask", "own_entries"],
  He.eqO (PySem.W.findIn K (.ref (He.ga K "AccessList")) "__class__") (some (some (.builtin "object.__class__"))),
  He.eqO (PySem.W.specialIn K (.builtin "object.__class__") "__get__") (some (some (.builtin "getset_descriptor.__get__"))),
  decide (PySem.W.takesIn K (.builtin "object.__class__") = some true),
  decide (PySem.W.mroIn K (He.ga K "AccessList") (.type "object") = some true),
  (He.Fa.mkr "AccessList").ok K,
  clsB K (He.ga K "AccessList"),
  cmB K (He.ga K "AccessList") "plain",
  clsB K (He.ga K "AccessList"),
  smB K (He.ga K "AccessList") "everything",
  proB K (He.ga K "AccessList") "owner",
  proB K (He.ga K "AccessList") "group",
  proB K (He.ga K "AccessList") "other",
  proB K (He.ga K "AccessList") "mask",
  (He.Fa.meth "AccessList" "users").ok K,
  (He.Fa.meth "AccessList" "groups").ok K,
  (He.Fa.str "NOBODY" "root").ok K,
  (He.Fa.int "MOST_USERS" 6).ok K,
  (He.Fa.int "MOST_GROUPS" 6).ok K,
  (He.Fa.glo "is_list").ok K,
  (He.Fa.glo "is_folk").ok K]
def chks2 (K : PySem.W.Frag) : List Bool := [(He.Fa.glo "are_groups").ok K,
  (He.Fa.glo "People").ok K,
  (He.Fa.cls "People").ok K,
  noB K "People" ["own_members", "own_groups"],
  He.eqO (PySem.W.findIn K (.ref (He.ga K "People")) "__class__") (some (some (.builtin "object.__class__"))),
  He.eqO (PySem.W.specialIn K (.builtin "object.__class__") "__get__") (some (some (.builtin "getset_descriptor.__get__"))),
  decide (PySem.W.takesIn K (.builtin "object.__class__") = some true),
  decide (PySem.W.mroIn K (He.ga K "People") (.type "object") = some true),
  (He.Fa.mkr "People").ok K,
  He.eqO (PySem.W.findIn K (.ref (He.ga K "People")) "__contains__") (some (some (.ref (He.ma K (He.ga K "People") "__contains__")))),
  PySem.W.isFn K (.ref (He.ma K (He.ga K "People") "__contains__")),
  (He.Fa.meth "People" "users").ok K,
  (He.Fa.meth "People" "need_user").ok K,
  (He.Fa.meth "People" "groups_of").ok K,
  (He.Fa.meth "People" "first_group").ok K,
  (He.Fa.glo "Judge").ok K,
  (He.Fa.cls "Judge").ok K,
  noB K "Judge" ["own_people"],
  He.eqO (PySem.W.findIn K (.ref (He.ga K "Judge")) "__class__") (some (some (.builtin "object.__class__"))),
  He.eqO (PySem.W.specialIn K (.builtin "object.__class__") "__get__") (some (some (.builtin "getset_descriptor.__get__"))),
  decide (PySem.W.takesIn K (.builtin "object.__class__") = some true),
  decide (PySem.W.mroIn K (He.ga K "Judge") (.type "object") = some true),
  (He.Fa.mkr "Judge").ok K,
  He.eqO (PySem.W.findIn K (.ref (He.ga K "Judge")) "__call__") (some (some (.ref (He.ma K (He.ga K "Judge") "__call__")))),
  PySem.W.isFn K (.ref (He.ma K (He.ga K "Judge") "__call__")),
  PySem.W.fnIn K (He.ma K (He.ga K "Judge") "__call__"),
  (He.Fa.meth "Judge" "need_case").ok K,
  (He.Fa.meth "Judge" "entries_for").ok K,
  (He.Fa.meth "Judge" "deciding").ok K,
  (He.Fa.glo "Node").ok K,
  (He.Fa.cls "Node").ok K,
  noB K "Node" ["own_number", "own_fields"],
  He.eqO (PySem.W.findIn K (.ref (He.ga K "Node")) "__class__") (some (some (.builtin "object.__class__"))),
  He.eqO (PySem.W.specialIn K (.builtin "object.__class__") "__get__") (some (some (.builtin "getset_descriptor.__get__"))),
  decide (PySem.W.takesIn K (.builtin "object.__class__") = some true),
  decide (PySem.W.mroIn K (He.ga K "Node") (.type "object") = some true),
  (He.Fa.mkr "Node").ok K,
  proB K (He.ga K "Node") "kind",
  proB K (He.ga K "Node") "owner",
  proB K (He.ga K "Node") "group"]
def chks3 (K : PySem.W.Frag) : List Bool := [proB K (He.ga K "Node") "access",
  proB K (He.ga K "Node") "passes",
  proB K (He.ga K "Node") "default",
  proB K (He.ga K "Node") "number",
  (He.Fa.meth "Node" "with_field").ok K,
  (He.Fa.glo "new_node").ok K,
  (He.Fa.glo "GROUND_house").ok K,
  He.tupB K "GROUND_house" [.str "/", .str "/tmp"],
  (He.Fa.str "FIRST_UMASK" "022").ok K,
  (He.Fa.glo "PLAIN").ok K,
  plainB K,
  (He.Fa.glo "need_path_house").ok K,
  (He.Fa.glo "joined").ok K,
  (He.Fa.glo "House").ok K,
  (He.Fa.cls "House").ok K,
  noB K "House" ["own_people", "own_judge", "state"],
  He.eqO (PySem.W.findIn K (.ref (He.ga K "House")) "__class__") (some (some (.builtin "object.__class__"))),
  He.eqO (PySem.W.specialIn K (.builtin "object.__class__") "__get__") (some (some (.builtin "getset_descriptor.__get__"))),
  decide (PySem.W.takesIn K (.builtin "object.__class__") = some true),
  decide (PySem.W.mroIn K (He.ga K "House") (.type "object") = some true),
  (He.Fa.mkr "House").ok K,
  proB K (He.ga K "House") "people",
  (He.Fa.meth "House" "nodes").ok K,
  He.eqO (PySem.W.findIn K (.ref (He.ga K "House")) "__contains__") (some (some (.ref (He.ma K (He.ga K "House") "__contains__")))),
  PySem.W.isFn K (.ref (He.ma K (He.ga K "House") "__contains__")),
  He.eqO (PySem.W.findIn K (.ref (He.ga K "House")) "__getitem__") (some (some (.ref (He.ma K (He.ga K "House") "__getitem__")))),
  PySem.W.isFn K (.ref (He.ma K (He.ga K "House") "__getitem__")),
  PySem.W.fnIn K (He.ma K (He.ga K "House") "__getitem__"),
  (He.Fa.meth "House" "need_changeable").ok K,
  (He.Fa.meth "House" "need_folder").ok K,
  (He.Fa.meth "House" "paths").ok K,
  (He.Fa.meth "House" "put").ok K,
  (He.Fa.meth "House" "need_place").ok K,
  (He.Fa.meth "House" "need_folk").ok K,
  (He.Fa.meth "House" "add").ok K,
  (He.Fa.meth "House" "cut").ok K,
  (He.Fa.meth "House" "shift").ok K,
  (He.Fa.meth "House" "umask_of").ok K,
  (He.Fa.meth "House" "restore").ok K,
  (He.Fa.meth "House" "copied").ok K]
def chks4 (K : PySem.W.Frag) : List Bool := [(He.Fa.meth "House" "grants").ok K,
  (He.Fa.glo "need_asked").ok K,
  (He.Fa.glo "lacking").ok K,
  (He.Fa.glo "is_deed").ok K,
  (He.Fa.glo "need_way").ok K,
  (He.Fa.glo "need_granted").ok K,
  (He.Fa.glo "need_place").ok K,
  (He.Fa.glo "make").ok K,
  (He.Fa.glo "do_file").ok K,
  (He.Fa.glo "do_folder").ok K,
  (He.Fa.glo "need_house").ok K,
  (He.Fa.glo "do").ok K,
  (He.Fa.glo "FORMS").ok K,
  formsB K,
  (He.Fa.glo "is_path").ok K,
  (He.Fa.glo "is_digits").ok K,
  (He.Fa.glo "DEEDS").ok K,
  deedsB K,
  (He.Fa.glo "do_file").ok K,
  (He.Fa.glo "do_folder").ok K,
  (He.Fa.glo "_law_cell").ok K,
  (He.Fa.glo "_law_box").ok K,
  (He.Fa.glo "_law_take").ok K,
  (He.Fa.glo "_law_marks").ok K,
  (He.Fa.glo "_law_below").ok K,
  (He.Fa.glo "_law_put").ok K,
  (He.Fa.glo "_law_shifted").ok K,
  (He.Fa.glo "_law_cut").ok K,
  (He.Fa.glo "_law_turn").ok K,
  (He.Fa.glo "_law_family_right").ok K,
  (He.Fa.glo "law").ok K]
def chks (K : PySem.W.Frag) : List Bool := chks0 K ++ chks1 K ++ chks2 K ++ chks3 K ++ chks4 K
def names0 : List PySem.Str := [PySem.Str.ofString "_wall",
  PySem.Str.ofString "__name__",
  PySem.Str.ofString "RightsError",
  PySem.Str.ofString "MissingError",
  PySem.Str.ofString "RefusedError",
  PySem.Str.ofString "InvalidInteger",
  PySem.Str.ofString "InvalidName",
  PySem.Str.ofString "InvalidPath",
  PySem.Str.ofString "InvalidRights",
  PySem.Str.ofString "InvalidDigits",
  PySem.Str.ofString "InvalidList",
  PySem.Str.ofString "InvalidPeople",
  PySem.Str.ofString "InvalidNode",
  PySem.Str.ofString "InvalidHouse",
  PySem.Str.ofString "InvalidContent",
  PySem.Str.ofString "InvalidDeed",
  PySem.Str.ofString "TooMany",
  PySem.Str.ofString "Ground",
  PySem.Str.ofString "UnknownUser",
  PySem.Str.ofString "UnknownGroup",
  PySem.Str.ofString "UnknownEntry",
  PySem.Str.ofString "Absent",
  PySem.Str.ofString "Denied",
  PySem.Str.ofString "NotOwner",
  PySem.Str.ofString "Held",
  PySem.Str.ofString "Taken",
  PySem.Str.ofString "NotFolder",
  PySem.Str.ofString "NotFile",
  PySem.Str.ofString "NotEmpty",
  PySem.Str.ofString "Inside",
  PySem.Str.ofString "NotMember",
  PySem.Str.ofString "LETTERS_rights",
  PySem.Str.ofString "BITS",
  PySem.Str.ofString "WORDS",
  PySem.Str.ofString "digit_of"]
def names1 : List PySem.Str := [PySem.Str.ofString "Rights",
  PySem.Str.ofString "digit_in",
  PySem.Str.ofString "is_rights",
  PySem.Str.ofString "as_rights",
  PySem.Str.ofString "MOST_LETTERS",
  PySem.Str.ofString "LETTERS_words",
  PySem.Str.ofString "GROUND_words",
  PySem.Str.ofString "is_name",
  PySem.Str.ofString "is_list",
  PySem.Str.ofString "is_path",
  PySem.Str.ofString "need_path",
  PySem.Str.ofString "need_path_words",
  PySem.Str.ofString "parts_of",
  PySem.Str.ofString "path_by",
  PySem.Str.ofString "joined",
  PySem.Str.ofString "above",
  PySem.Str.ofString "is_below",
  PySem.Str.ofString "MOST_NAMED",
  PySem.Str.ofString "SIGNS",
  PySem.Str.ofString "is_digits",
  PySem.Str.ofString "need_digits",
  PySem.Str.ofString "rights_of_digits",
  PySem.Str.ofString "without_letters",
  PySem.Str.ofString "is_named",
  PySem.Str.ofString "named_rights",
  PySem.Str.ofString "AccessList",
  PySem.Str.ofString "list_of",
  PySem.Str.ofString "MOST_USERS",
  PySem.Str.ofString "MOST_GROUPS",
  PySem.Str.ofString "NOBODY",
  PySem.Str.ofString "is_folk",
  PySem.Str.ofString "are_groups",
  PySem.Str.ofString "People",
  PySem.Str.ofString "Judge",
  PySem.Str.ofString "GROUND_house"]
def names2 : List PySem.Str := [PySem.Str.ofString "FIRST_UMASK",
  PySem.Str.ofString "PLAIN",
  PySem.Str.ofString "Node",
  PySem.Str.ofString "new_node",
  PySem.Str.ofString "need_path_house",
  PySem.Str.ofString "House",
  PySem.Str.ofString "need_asked",
  PySem.Str.ofString "lacking",
  PySem.Str.ofString "is_access",
  PySem.Str.ofString "is_default",
  PySem.Str.ofString "is_content",
  PySem.Str.ofString "is_truth",
  PySem.Str.ofString "FORMS",
  PySem.Str.ofString "is_deed",
  PySem.Str.ofString "need_way",
  PySem.Str.ofString "need_granted",
  PySem.Str.ofString "need_place",
  PySem.Str.ofString "need_taking",
  PySem.Str.ofString "need_file",
  PySem.Str.ofString "need_owned",
  PySem.Str.ofString "do_read",
  PySem.Str.ofString "do_write",
  PySem.Str.ofString "make",
  PySem.Str.ofString "do_file",
  PySem.Str.ofString "do_folder",
  PySem.Str.ofString "do_move",
  PySem.Str.ofString "do_remove",
  PySem.Str.ofString "do_allow",
  PySem.Str.ofString "do_default",
  PySem.Str.ofString "do_mark",
  PySem.Str.ofString "do_give",
  PySem.Str.ofString "do_umask",
  PySem.Str.ofString "DEEDS",
  PySem.Str.ofString "need_house",
  PySem.Str.ofString "do"]
def names3 : List PySem.Str := [PySem.Str.ofString "_law_cell",
  PySem.Str.ofString "_law_box",
  PySem.Str.ofString "_law_take",
  PySem.Str.ofString "_law_marks",
  PySem.Str.ofString "_law_below",
  PySem.Str.ofString "_law_put",
  PySem.Str.ofString "_law_shifted",
  PySem.Str.ofString "_law_cut",
  PySem.Str.ofString "_law_turn",
  PySem.Str.ofString "_law_family_right"]
def names : List PySem.Str := names0 ++ names1 ++ names2 ++ names3
def tabs : List (( PySem.W.Frag → Addr) × List PySem.Str) := [(fun K => He.ga K "BITS", ["r", "w", "x"]), (fun K => He.ga K "PLAIN", ["folder", "file"]), (fun K => He.ga K "FORMS", ["read", "write", "file", "folder", "move", "remove", "allow", "default", "mark", "give", "umask"]), (fun K => He.ga K "DEEDS", ["read", "write", "file", "folder", "move", "remove", "allow", "default", "mark", "give", "umask"])]
/-! ### what is looked at -/
abbrev AlK : Type := Bool × List He.FnW × List (Option (List (Option (PySem.Str × Int))))
def obsK (K : PySem.W.Frag) : AlK := ((chks K).all id && fns.all (fun d => d.ok K), fns.map (fnE K), tabs.map fun t => He.dicW K (t.1 K))
def valK (w : World) : AlK := (true, fns.map DefE.val, tabs.map fun t => some (He.keysIn w.params t.2))
def Says (w : World) (K : PySem.W.Frag) : Prop := obsK K = valK w
theorem ck {w : World} {K : PySem.W.Frag} (e : Says w K) (i : Nat) : (chks K).getD i true = true := by
  have h := (ba (show ((chks K).all id && fns.all fun d => d.ok K) = true from congrArg (fun z : AlK => z.1) e)).1
  rw [List.getD_eq_getElem?_getD]
  cases q : (chks K)[i]? with
  | none => rfl
  | some b => exact List.all_eq_true.mp h b (List.mem_of_getElem? q)
def d0 : DefE := ⟨fun _ => 0, "", "", .Pass ⟨0, 0, 0, 0⟩, [], []⟩
theorem fnAt {w : World} {K : PySem.W.Frag} (e : Says w K) (i : Nat) (hi : Nat.blt i fns.length = true := by rfl) : ∃ fd, FunD K (fns.getD i d0).name (fns.getD i d0).qual (defArgs (fns.getD i d0).st) (defBody (fns.getD i d0).st) (defScope (fns.getD i d0).st) (fns.getD i d0).dvs (fns.getD i d0).kws ((fns.getD i d0).at_ K) fd := by
  have h := (ba (show ((chks K).all id && fns.all fun d => d.ok K) = true from congrArg (fun z : AlK => z.1) e)).2
  have e1 : fns.map (fnE K) = fns.map DefE.val := congrArg (fun z : AlK => z.2.1) e
  have hlt : i < fns.length := Nat.le_of_ble_eq_true hi
  have hg : fns.getD i d0 = fns[i] := by rw [List.getD_eq_getElem?_getD, List.getElem?_eq_getElem hlt]; rfl
  rw [hg]
  have e2 : (fns.map (fnE K))[i]? = (fns.map DefE.val)[i]? := by rw [e1]
  rw [List.getElem?_map, List.getElem?_map, List.getElem?_eq_getElem hlt] at e2
  exact DefE.funD (Option.some.inj e2) (List.all_eq_true.mp h _ (List.getElem_mem hlt))
theorem tabAt {w : World} {K : PySem.W.Frag} (e : Says w K) (i : Nat) (hi : Nat.blt i tabs.length = true := by rfl) : ∃ es n, KDict K w ((tabs.getD i (fun _ => 0, [])).1 K) es n := by
  have e1 : tabs.map (fun t => He.dicW K (t.1 K)) = tabs.map fun t => some (He.keysIn w.params t.2) := congrArg (fun z : AlK => z.2.2) e
  have hlt : i < tabs.length := Nat.le_of_ble_eq_true hi
  have hg : tabs.getD i (fun _ => 0, []) = tabs[i] := by rw [List.getD_eq_getElem?_getD, List.getElem?_eq_getElem hlt]; rfl
  rw [hg]
  have e2 : (tabs.map fun t => He.dicW K (t.1 K))[i]? = (tabs.map fun t => some (He.keysIn w.params t.2))[i]? := by rw [e1]
  rw [List.getElem?_map, List.getElem?_map, List.getElem?_eq_getElem hlt] at e2
  exact He.dicW_ok (Option.some.inj e2)
/-! ### which objects -/
def kidsO (o : Obj) : List Addr := match o.data with
  | .cls cd => [cd.ns]
  | .dict es _ => es.toList.flatMap fun e => He.refV e.val
  | .func fd => He.refV fd.code ++ (He.refV fd.defaults ++ He.refV fd.kwdefaults)
  | .fields vs => (match o.cls with
    | .type c => (match decide (c = "property") || (decide (c = "classmethod") || decide (c = "staticmethod")) with
      | true => (vs.toList.take 1).flatMap He.refV
      | false => [])
    | _ => [])
  | _ => []
def kids (g : Addr → Option Obj) (as : List Addr) : List Addr := as.flatMap fun a => match g a with
  | some o => kidsO o
  | none => []
def frL {α : Type} : List Addr → (List Addr → α) → α
  | [], k => k []
  | a :: r, k => HandSHeadRun.frNat a fun a => frL r fun r => k (a :: r)
theorem frL_eq {α : Type} : ∀ (l : List Addr) (k : List Addr → α), frL l k = k l
  | [], _ => rfl
  | a :: r, k => by
    show HandSHeadRun.frNat a (fun a => frL r fun r => k (a :: r)) = _
    rw [HandSHeadRun.frNat_eq, frL_eq r]
def frO {α : Type} (o : Obj) (k : Obj → α) : α := match o with
  | ⟨c, d, dt, sl⟩ => k ⟨c, d, dt, sl⟩
theorem frO_eq {α : Type} (o : Obj) (k : Obj → α) : frO o k = k o := by
  obtain ⟨c, d, dt, sl⟩ := o
  rfl
def frF {α : Type} : PySem.W.Frag → (PySem.W.Frag → α) → α
  | [], k => k []
  | (a, o) :: r, k => HandSHeadRun.frNat a fun a => frO o fun o => frF r fun r => k ((a, o) :: r)
theorem frF_eq {α : Type} : ∀ (l : PySem.W.Frag) (k : PySem.W.Frag → α), frF l k = k l
  | [], _ => rfl
  | (a, o) :: r, k => by
    show HandSHeadRun.frNat a (fun a => frO o fun o => frF r fun r => k ((a, o) :: r)) = _
    rw [HandSHeadRun.frNat_eq, frO_eq, frF_eq r]
/-- which globals are looked into -/
def wanted : List Bool := [false, false, false, false, false, false, false, false, false, false, false, false, false, false, false, false, false, false, false, false, false, false, false, false, false, false, false, false, false, false, false, false, false, false, false, false, false, false, false, false, true, true, true, true, true, true, true, false, false, false, true, true, true, false, true, true, true, true, true, true, false, false, true, true, true, true, false, true, true, false, false, false, false, true, true, true, true, true, false, true, true, true, true, true, true, true, false, false, false, false, true, true, true, true, true, false, false, false, false, false, true, true, true, false, false, false, false, false, false, false, true, true, true, true, true, true, true, true, true, true, true, true, true, true]
def pick : List Bool → List DictEntry → List Addr
  | true :: bs, e :: es => He.refV e.val ++ pick bs es
  | false :: bs, _ :: es => pick bs es
  | _, _ => []
def glo1 (g : Addr → Option Obj) : List Addr := match g mainGlobals with
  | some o => (match o.data with
    | .dict es _ => pick wanted es.toList
    | _ => [])
  | none => []
def obGw {α : Type} (f : PySem.W.Frag → α) (g : Addr → Option Obj) : α := frL (glo1 g) fun l1 => frL (kids g l1) fun l2 => frL (kids g l2) fun l3 => frL (kids g l3) fun l4 => frL (kids g l4) fun l5 =>
  frF (He.frG g (mainGlobals :: cStatics :: (l1 ++ (l2 ++ (l3 ++ (l4 ++ l5)))))) f
def obG (g : Addr → Option Obj) : AlK := obGw obsK g
def asK (g : Addr → Option Obj) : List Addr := mainGlobals :: cStatics :: (glo1 g ++ (kids g (glo1 g) ++ (kids g (kids g (glo1 g)) ++ (kids g (kids g (kids g (glo1 g))) ++ kids g (kids g (kids g (kids g (glo1 g))))))))
theorem obGw_eq {α : Type} (f : PySem.W.Frag → α) (g : Addr → Option Obj) : obGw f g = f (He.frG g (asK g)) := by
  unfold obGw asK
  simp only [frL_eq, frF_eq]
theorem obG_eq (g : Addr → Option Obj) : obG g = obsK (He.frG g (asK g)) := obGw_eq obsK g
def hookK : PySem.W.Hook where
  α := AlK
  obs := fun s => obsK (He.frG s.heap.get? (asK s.heap.get?))
  val := fun w => valK w
  says := fun w h => ∃ K : PySem.W.Frag, K.In h ∧ Says w K
  of := fun _ _ e => ⟨_, He.frG_in, e⟩
  keeps := fun _ _ _ ⟨K, hK, c⟩ k => ⟨K, PySem.W.Frag.In.keeps hK k, c⟩
def obF (s : PySem.W.SharedT) : AlK := obG (HandSHeadRun.getT s)
theorem obF_eq (s : PySem.W.SharedT) : obF s = hookK.obs s.abs := by
  have e : HandSHeadRun.getT s = s.abs.heap.get? := funext (HandSHeadRun.getT_eq s)
  unfold obF
  rw [obG_eq, e]
  rfl
abbrev RR : PySem.W.OpenRow := PySem.W.OpenLaw.row PySem.Challenge.rw_filerights_k37_whole_numbers_of_copies
abbrev qv : Program := PySem.W.view PR [124]
abbrev XtR : Shared → Bool := fun s => PySem.W.xlAt qv [] s && PySem.W.recOk RR.toRowW.records s
end K37H
end
end
section
set_option Elab.async false
set_option linter.all false
set_option maxRecDepth 100000
set_option maxHeartbeats 0
/-! H6: the run behind the first cut, to its end; what is seen there. -/
noncomputable section
namespace K37H
open PySem PySem.W PySem.Calls PyProof.Rows HandSHeadRun
abbrev wS (b : Bool) (w : World) : World := w.withFollow "special-get-raises" b
/-- some statements, by the twins -/
def piecesQ (l : List Stmt) (env : Env) (c : Code) (p : Pos) (B : List Frame) : Thread := ⟨(execsQ l env).wrap doneF deadEnd id id, c, p, B⟩
theorem piecesQ_eq (l : List Stmt) (env : Env) (c : Code) (p : Pos) (B : List Frame) : piecesOf l env c p B = piecesQ l env c p B := by
  unfold piecesOf piecesQ
  rw [← execsQ_eq]
abbrev segR (w : World) (os : OsState) := sgF (stepQ (denQ tabQ) PR w) 11 aN 1 20000 (st1 w os) (piecesQ ((bE.drop 31).take 33) env1 cE p1 fB)
theorem seg_f (w : World) (os : OsState) : segR (wS false w) os = some (.next, st2 (wS false w) os, cE, p2) := by kernel_rfl
theorem seg_t (w : World) (os : OsState) : segR (wS true w) os = some (.next, st2 (wS true w) os, cE, p2) := by kernel_rfl
theorem seg_ok (w : World) : ∀ os : OsState, segR w os = some (.next, st2 w os, cE, p2) := byRow2 "special-get-raises" (P := fun w => ∀ os : OsState, segR w os = some (.next, st2 w os, cE, p2)) seg_f seg_t w
/-- the rest of the top -/
abbrev runR (w : World) (os : OsState) : Option SharedT := goF (stepQ (denQ tabQ) PR w) 11 aN 40000 (st2 w os) (restQ ((bE.drop 31).drop 33) env1 cE p2 fB)
/-- what is looked at behind it -/
abbrev lkA (w : World) (s : SharedT) : Bool := looksF PR (boot_heap w.params) s.abs
theorem ra_f (w : World) (os : OsState) : (runR (wS false w) os).map (lkA (wS false w)) = some true := by kernel_rfl
theorem ra_t (w : World) (os : OsState) : (runR (wS true w) os).map (lkA (wS true w)) = some true := by kernel_rfl
theorem rb_f (w : World) (os : OsState) : (runR (wS false w) os).map (fun s => seenQ qv names (importedModules PR.main.body) XtR s.abs) = some (openGood qv names) := by kernel_rfl
theorem rb_t (w : World) (os : OsState) : (runR (wS true w) os).map (fun s => seenQ qv names (importedModules PR.main.body) XtR s.abs) = some (openGood qv names) := by kernel_rfl
/-- the checks, in two parts -/
def ckA (K : Frag) : Bool := (chks0 K).all id && ((chks1 K).all id && (chks2 K).all id)
def ckB (K : Frag) : Bool := (chks3 K).all id && ((chks4 K).all id && fns.all fun d => d.ok K)
abbrev lkC (s : SharedT) : Bool := obGw ckA (getT s)
abbrev lkE (s : SharedT) : Bool := obGw ckB (getT s)
theorem rc_f (w : World) (os : OsState) : (runR (wS false w) os).map lkC = some true := by kernel_rfl
theorem re_f (w : World) (os : OsState) : (runR (wS false w) os).map lkE = some true := by kernel_rfl
theorem re_t (w : World) (os : OsState) : (runR (wS true w) os).map lkE = some true := by kernel_rfl
theorem rc_t (w : World) (os : OsState) : (runR (wS true w) os).map lkC = some true := by kernel_rfl
theorem rd_f (w : World) (os : OsState) : (runR (wS false w) os).map (fun s => ((obF s).2.1, (obF s).2.2)) = some (fns.map DefE.val, tabs.map fun t => some (He.keysIn (wS false w).params t.2)) := by kernel_rfl
theorem rd_t (w : World) (os : OsState) : (runR (wS true w) os).map (fun s => ((obF s).2.1, (obF s).2.2)) = some (fns.map DefE.val, tabs.map fun t => some (He.keysIn (wS true w).params t.2)) := by kernel_rfl
end K37H
end
end
section
set_option Elab.async false
set_option linter.all false
set_option maxRecDepth 100000
set_option maxHeartbeats 2000000
/-! K1a: further rules for calls and own operators. -/
namespace K37
open PySem PySem.Spec PyProof.Rows L2 StX ClX

/-- a global def, called by position -/
def tCR (sp : Sp) (t : TA) : TE := fun σ H Q => t σ H fun vs H1 => sp vs H1 Q E0
section
variable {X : Cx} {k j : Nat} {f g C : Addr} {sp : Sp} {x m : Str} {e o a b : Expr} {es : List Expr} {ta tb : TE} {t : TA} {p pos apos : Pos}
theorem pe_cR (F : FnR X.prog X.w X.K X.mg X.base CX0 k f sp) (hr : Room j X.A) (hj : k ≤ j) (hk : PySem.W.keepIn X.K (.ref f) = true) (hg : Gl X x) (hm : X.mg x = some (.ref f)) (ha : PA X (e :: es) t)
    (hd : (x == ("__debug__" : Str)) = false := by decide) (he : starEach (e :: es) X.env = (false, eval e X.env) :: starEach es X.env := by rfl) (hpl : (backTo pos (starEach es X.env)).any (·.1) = false := by rfl) :
    PE X (.Call (.Name x p) (e :: es) [] pos) (tCR sp t) := by
  constructor
  intro pins s σ H Q I h
  apply wpAny_Call_Name_kw
  apply ld_glob I hg hm _ hd
  refine PySem.W.callWith_K (h₀ := X.base) I.ok.mod.kin hk ?_ he hpl
  refine thn (ha.run pos pins s σ H _ I h) ?_
  rintro us s1 ⟨vs, H1, I1, r, q⟩
  exact ⟨I1.kIn, wpAny_call (run_fnR F (hr.mono hj) pass0 I1 r q)⟩
/-- the same with a starred last argument -/
theorem pe_cRs (F : FnR X.prog X.w X.K X.mg X.base CX0 k f sp) (hr : Room j X.A) (hj : k ≤ j) (hk : PySem.W.keepIn X.K (.ref f) = true) (hg : Gl X x) (hm : X.mg x = some (.ref f)) (ha : PA X (e :: es) t)
    (hd : (x == ("__debug__" : Str)) = false := by decide) (he : starEach (e :: es) X.env = (false, eval e X.env) :: starEach es X.env := by rfl) (hst : (backTo pos (starEach es X.env)).any (·.1) = true := by rfl) :
    PE X (.Call (.Name x p) (e :: es) [] pos) (tCR sp t) := pe_callS2 F (hr.mono hj) hk hg hm pass0 ha hd he hst
/-- cls(e, ..), cls a local name that holds the class at C -/
def tMkL (i : Nat) (C : Addr) (sp : Sp) (t : TA) : TE := fun σ H Q => σ[i]? = some (some (.ref C)) ∧ t σ H fun vs H1 => ∀ x dx, H1 x = none → H1 dx = none → dx ≠ x →
  sp (.ref x :: vs) (upd (upd H1 dx (.own x)) x (.ins C dx [])) (fun v H2 => v = .non ∧ Q (.ref x) H2) E0
theorem pe_mkL (i : Nat) (M : Mk X.K C f) (F : FnR X.prog X.w X.K X.mg X.base CX0 k f sp) (hr : Room j X.A) (hj : k + 1 ≤ j) (ha : PA X (e :: es) t) (hN : X.N[i]? = some x := by rfl)
    (hv : Vis X.env.scope x := by first | exact Or.inl rfl | exact Or.inr (Or.inl rfl) | exact Or.inr (Or.inr rfl)) (hd : (x == ("__debug__" : Str)) = false := by decide) (hcd : (x == ("__classdict__" : Str)) = false := by decide)
    (he : starEach (e :: es) X.env = (false, eval e X.env) :: starEach es X.env := by rfl) (hpl : (backTo pos (starEach es X.env)).any (·.1) = false := by rfl) :
    PE X (.Call (.Name x p) (e :: es) [] pos) (tMkL i C sp t) := by
  constructor
  rintro pins s σ H Q I ⟨hs, ht⟩
  apply wpAny_Call_Name_kw
  refine thn ((pe_var (pos := p) hN hv hd hcd).run pins s σ H (fun v H1 => v = .ref C ∧ H1 = H) I ⟨.ref C, hs, rfl, rfl⟩) ?_
  rintro u s1 ⟨v, H1, I1, r1, rfl, rfl⟩
  obtain rfl : u = Value.ref C := r1
  refine PySem.W.callWith_K (h₀ := X.base) I.ok.mod.kin M.kp ?_ he hpl
  refine thn (ha.run pos pins s1 σ _ _ I1 ht) ?_
  rintro us s2 ⟨vs, H2, I2, r, q⟩
  exact ⟨I2.kIn, run_makeR M F (hr.mono hj) pass0 I2 r q⟩
/-- f(e, .., *y), f a local name that holds one of some defs -/
def tLoS (i : Nat) (S : Addr → Option Sp) (t : TA) : TE := fun σ H Q => ∃ f sp, σ[i]? = some (some (.ref f)) ∧ S f = some sp ∧ t σ H fun vs H1 => sp vs H1 Q E0
theorem pe_loS (i : Nat) {S : Addr → Option Sp} (A : ∀ f sp, S f = some sp → FnR X.prog X.w X.K X.mg X.base CX0 k f sp ∧ PySem.W.keepIn X.K (.ref f) = true) (hr : Room j X.A) (hj : k ≤ j) (ha : PA X (e :: es) t) (hN : X.N[i]? = some x := by rfl)
    (hv : Vis X.env.scope x := by first | exact Or.inl rfl | exact Or.inr (Or.inl rfl) | exact Or.inr (Or.inr rfl)) (hd : (x == ("__debug__" : Str)) = false := by decide) (hcd : (x == ("__classdict__" : Str)) = false := by decide)
    (he : starEach (e :: es) X.env = (false, eval e X.env) :: starEach es X.env := by rfl) (hst : (backTo pos (starEach es X.env)).any (·.1) = true := by rfl) :
    PE X (.Call (.Name x p) (e :: es) [] pos) (tLoS i S t) := by
  constructor
  rintro pins s σ H Q I ⟨f, sp, hs, hS, ht⟩
  obtain ⟨F, hk⟩ := A f sp hS
  apply wpAny_Call_Name_kw
  refine thn ((pe_var (pos := p) hN hv hd hcd).run pins s σ H (fun v H1 => v = .ref f ∧ H1 = H) I ⟨.ref f, hs, rfl, rfl⟩) ?_
  rintro u s1 ⟨v, H1, I1, r1, rfl, rfl⟩
  obtain rfl : u = Value.ref f := r1
  refine PySem.W.callWith_S2 (h₀ := X.base) I.ok.mod.kin hk ?_ he hst
  refine thn (ha.run pos pins s1 σ _ _ I1 ht) ?_
  rintro us s2 ⟨vs, H2, I2, r, q⟩
  exact ⟨I2.kIn, wpAny_call (run_fnR F (hr.mono hj) pass0 I2 r q)⟩
/-- the same without a star -/
def tLo (i : Nat) (S : Addr → Option Sp) (t : TA) : TE := tLoS i S t
theorem pe_lo (i : Nat) {S : Addr → Option Sp} (A : ∀ f sp, S f = some sp → FnR X.prog X.w X.K X.mg X.base CX0 k f sp ∧ PySem.W.keepIn X.K (.ref f) = true) (hr : Room j X.A) (hj : k ≤ j) (ha : PA X (e :: es) t) (hN : X.N[i]? = some x := by rfl)
    (hv : Vis X.env.scope x := by first | exact Or.inl rfl | exact Or.inr (Or.inl rfl) | exact Or.inr (Or.inr rfl)) (hd : (x == ("__debug__" : Str)) = false := by decide) (hcd : (x == ("__classdict__" : Str)) = false := by decide)
    (he : starEach (e :: es) X.env = (false, eval e X.env) :: starEach es X.env := by rfl) (hpl : (backTo pos (starEach es X.env)).any (·.1) = false := by rfl) :
    PE X (.Call (.Name x p) (e :: es) [] pos) (tLo i S t) := by
  constructor
  rintro pins s σ H Q I ⟨f, sp, hs, hS, ht⟩
  obtain ⟨F, hk⟩ := A f sp hS
  apply wpAny_Call_Name_kw
  refine thn ((pe_var (pos := p) hN hv hd hcd).run pins s σ H (fun v H1 => v = .ref f ∧ H1 = H) I ⟨.ref f, hs, rfl, rfl⟩) ?_
  rintro u s1 ⟨v, H1, I1, r1, rfl, rfl⟩
  obtain rfl : u = Value.ref f := r1
  refine PySem.W.callWith_K (h₀ := X.base) I.ok.mod.kin hk ?_ he hpl
  refine thn (ha.run pos pins s1 σ _ _ I1 ht) ?_
  rintro us s2 ⟨vs, H2, I2, r, q⟩
  exact ⟨I2.kIn, wpAny_call (run_fnR F (hr.mono hj) pass0 I2 r q)⟩

/-! ### own operators -/
theorem back_of {pins : List (Addr × Obj)} {σ : L2.St} {Q : VK} {u : Value} {s' : Shared} (h : EP X pins σ Q u s') : PySem.W.CmpBack (EP X pins σ Q) u s' := by
  obtain ⟨v, H', I', r, q⟩ := h
  cases v with
  | non => cases r; exact ⟨.non, H', I', rfl, q⟩
  | bl z => cases r; exact ⟨.bl z, H', I', rfl, q⟩
  | int z => obtain ⟨tk, rfl⟩ := r; exact ⟨.int z, H', I', ⟨tk, rfl⟩, q⟩
  | str z => obtain ⟨tk, rfl⟩ := r; exact ⟨.str z, H', I', ⟨tk, rfl⟩, q⟩
  | byt z => obtain ⟨tk, rfl⟩ := r; exact ⟨.byt z, H', I', ⟨tk, rfl⟩, q⟩
  | flt z => obtain ⟨tk, rfl⟩ := r; exact ⟨.flt z, H', I', ⟨tk, rfl⟩, q⟩
  | ref z => cases r; exact ⟨.ref z, H', I', rfl, q⟩
  | ty z => cases r; exact ⟨.ty z, H', I', rfl, q⟩
/-- x - y, both instances of the class at C -/
def rOwnSub (C : Addr) (sp : Sp) : R2 := fun x y H Q => ∃ a b dx dy fx fy, x = .ref a ∧ y = .ref b ∧ H a = some (.ins C dx fx) ∧ H b = some (.ins C dy fy) ∧ sp [.ref a, .ref b] H Q E0
theorem op_ownSub (hs : PySem.W.findIn X.K (.ref C) (PySem.dunder Operator.Sub.info.2) = some (some (.ref g))) (hf : PySem.W.isFn X.K (.ref g) = true) (hc : PySem.W.selfFirst X.K C = true) (F : FnR X.prog X.w X.K X.mg X.base CX0 k g sp) (hr : Room j X.A) (hj : k ≤ j) :
    OpR X (binaryOp .Sub) (rOwnSub C sp) := by
  rintro pins s σ H x y v u Q I rx ry ⟨a, b, dx, dy, fx, fy, rfl, rfl, ha, hb, q⟩
  cases rx
  cases ry
  obtain ⟨ma, Oa, _⟩ := ins_get I.hok ha
  obtain ⟨mb, Ob, _⟩ := ins_get I.hok hb
  obtain ⟨oda, Ja, _⟩ := Oa.look
  obtain ⟨odb, Jb, _⟩ := Ob.look
  obtain ⟨m, Fm⟩ := I.fr
  refine PySem.W.binop_K Fm I.mod.kin Ja Jb.type hc hs hf ?_
  refine thn (wpAny_call (run_fnR F (hr.mono hj) pass0 I (.cons (show RelV (.ref a) (.ref a) from rfl) (.cons (show RelV (.ref b) (.ref b) from rfl) .nil)) q)) ?_
  intro r s' h
  exact back_of h
/-- y in x, x an instance of the class at C that has its own look -/
def rOwnIn (C : Addr) (sp : Sp) (neg : Bool) : R2 := fun y x H Q => ∃ a dx fx, x = .ref a ∧ H a = some (.ins C dx fx) ∧ sp [.ref a, y] H (fun v H' => ∃ b, v = .bl b ∧ Q (.bl (if neg then !b else b)) H') E0
theorem op_ownIn (hs : PySem.W.findIn X.K (.ref C) "__contains__" = some (some (.ref g))) (hf : PySem.W.isFn X.K (.ref g) = true) (F : FnR X.prog X.w X.K X.mg X.base CX0 k g sp) (hr : Room j X.A) (hj : k ≤ j) :
    OpR X (compareOp .In) (rOwnIn C sp false) := by
  rintro pins s σ H y x v u Q I ry rx ⟨a, dx, fx, rfl, ha, q⟩
  cases rx
  obtain ⟨ma, Oa, _⟩ := ins_get I.hok ha
  obtain ⟨oda, Ja, _⟩ := Oa.look
  obtain ⟨m, Fm⟩ := I.fr
  refine PySem.W.in_K Fm I.mod.kin Ja hs hf ?_
  refine thn (wpAny_call (run_fnR F (hr.mono hj) pass0 I (.cons (show RelV (.ref a) (.ref a) from rfl) (.cons ry .nil)) q)) ?_
  rintro r s' ⟨z, H', I', rz, b, rfl, q'⟩
  cases rz
  exact wpAny_truthy_bool ⟨.bl b, H', I', rfl, q'⟩
theorem op_ownNotIn (hs : PySem.W.findIn X.K (.ref C) "__contains__" = some (some (.ref g))) (hf : PySem.W.isFn X.K (.ref g) = true) (F : FnR X.prog X.w X.K X.mg X.base CX0 k g sp) (hr : Room j X.A) (hj : k ≤ j) :
    OpR X (compareOp .NotIn) (rOwnIn C sp true) := by
  rintro pins s σ H y x v u Q I ry rx ⟨a, dx, fx, rfl, ha, q⟩
  cases rx
  obtain ⟨ma, Oa, _⟩ := ins_get I.hok ha
  obtain ⟨oda, Ja, _⟩ := Oa.look
  obtain ⟨m, Fm⟩ := I.fr
  refine PySem.W.notIn_K Fm I.mod.kin Ja hs hf ?_
  refine thn (wpAny_call (run_fnR F (hr.mono hj) pass0 I (.cons (show RelV (.ref a) (.ref a) from rfl) (.cons ry .nil)) q)) ?_
  rintro r s' ⟨z, H', I', rz, b, rfl, q'⟩
  cases rz
  exact wpAny_truthy_bool ⟨.bl (!b), H', I', rfl, q'⟩
end
end K37
end
section
set_option Elab.async false
set_option linter.all false
set_option maxRecDepth 100000
set_option maxHeartbeats 2000000
/-! K1b: methods, properties, subscripts by raw promises; targets with a star. -/
namespace K37
open PySem PySem.Spec PyProof.Rows L2 StX ClX
section
variable {X : Cx} {k j : Nat} {f g C pr : Addr} {sp : Sp} {x m : Str} {e o a b : Expr} {es : List Expr} {ta tb : TE} {t : TA} {p pos apos : Pos} {mc : Value} {pl : Sem Bool}
/-- o.m(e, ..) -/
def tMR (C : Addr) (m : Str) (sp : Sp) (ta : TE) (t : TA) : TE := fun σ H Q => ta σ H fun x H1 => ∃ a dx fs, x = .ref a ∧ H1 a = some (.ins C dx fs) ∧ fs.lookup m = none ∧ t σ H1 fun vs H2 => sp (x :: vs) H2 Q E0
theorem pe_mR (c : Cls X.K C) (hm : Meth X.K C m f) (F : FnR X.prog X.w X.K X.mg X.base CX0 k f sp) (hr : Room j X.A) (hj : k ≤ j) (he : PE X o ta) (ha : PA X (e :: es) t)
    (hst : starEach (e :: es) X.env = (false, eval e X.env) :: starEach es X.env := by rfl) (hpl : (backTo pos (starEach es X.env)).any (·.1) = false := by rfl)
    (ht : eval (.Call (.Attribute o m apos) (e :: es) [] pos) X.env = (do
      let ov ← eval o X.env
      standAt apos.atName
      let (f, first) ← holding [ov] (getMethod ov m pl)
      callWith pos f first (backTo pos (starEach (e :: es) X.env)) (backToKw pos (keywordEach [] X.env))) := by rfl) :
    PE X (.Call (.Attribute o m apos) (e :: es) [] pos) (tMR C m sp ta t) := pe_methR (pl := pl) he c hm F (hr.mono hj) pass0 ha hst hpl ht
/-- o.m() -/
def tM0R (C : Addr) (m : Str) (sp : Sp) (ta : TE) : TE := fun σ H Q => ta σ H fun x H1 => ∃ a dx fs, x = .ref a ∧ H1 a = some (.ins C dx fs) ∧ fs.lookup m = none ∧ sp [x] H1 Q E0
theorem pe_m0R (c : Cls X.K C) (hm : Meth X.K C m f) (F : FnR X.prog X.w X.K X.mg X.base CX0 k f sp) (hr : Room j X.A) (hj : k ≤ j) (he : PE X o ta)
    (ht : eval (.Call (.Attribute o m apos) [] [] pos) X.env = (do
      let ov ← eval o X.env
      standAt apos.atName
      let (f, first) ← holding [ov] (getMethod ov m pl)
      callWith pos f first (backTo pos (starEach [] X.env)) (backToKw pos (keywordEach [] X.env))) := by rfl) :
    PE X (.Call (.Attribute o m apos) [] [] pos) (tM0R C m sp ta) := by
  constructor
  intro pins s σ H Q I h
  refine PySem.W.methodCall_KW (pl := pl) ?_ ht
  refine thn (he.run pins s σ H _ I h) ?_
  rintro u s1 ⟨y, H1, I1, ry, a, dx, fs, rfl, ea, l, q⟩
  obtain rfl : u = Value.ref a := ry
  refine getmeth_ok I1 ea c hm l ?_
  refine PySem.W.callWith_K0 (first := [.ref a]) I1.kIn hm.kp ?_
  exact wpAny_call (run_fnR (us := [.ref a]) (vs := [.ref a]) F (hr.mono hj) pass0 I1 (.cons (show RelV (.ref a) (.ref a) from rfl) .nil) q)
/-- C.m(), a static method -/
def tSM0 (C : Addr) (sp : Sp) (ta : TE) : TE := fun σ H Q => ta σ H fun x H1 => x = .ref C ∧ sp [] H1 Q E0
structure StMet (K : PySem.W.Frag) (C : Addr) (mc : Value) (m : Str) (p g : Addr) : Prop where
  at_ : PySem.W.findCls K (.ref C) mc m = some (.get (.builtin "staticmethod.__get__") (.ref p) .none (.ref C))
  rc : ∃ rest, PySem.W.recIn K p "staticmethod" = some (.ref g :: rest)
  kp : PySem.W.keepIn K (.ref g) = true
theorem pe_sm0 (r : CRead X.K C mc) (c : StMet X.K C mc m pr g) (F : FnR X.prog X.w X.K X.mg X.base CX0 k g sp) (hr : Room j X.A) (hj : k ≤ j) (he : PE X o ta)
    (ht : eval (.Call (.Attribute o m apos) [] [] pos) X.env = (do
      let ov ← eval o X.env
      standAt apos.atName
      let (f, first) ← holding [ov] (getMethod ov m pl)
      callWith pos f first (backTo pos (starEach [] X.env)) (backToKw pos (keywordEach [] X.env))) := by rfl) :
    PE X (.Call (.Attribute o m apos) [] [] pos) (tSM0 C sp ta) := by
  constructor
  intro pins s σ H Q I h
  refine PySem.W.methodCall_KW (pl := pl) ?_ ht
  refine thn (he.run pins s σ H _ I h) ?_
  rintro u s1 ⟨y, H1, I1, ry, rfl, q⟩
  obtain rfl : u = Value.ref C := ry
  obtain ⟨rest, hp⟩ := c.rc
  refine PySem.W.method_cls I1.kIn r.ga (PySem.W.cls_bind I1.kIn r.rd c.at_ (wpAny_call ?_))
  have I2 : Inv X pins σ H1 { s1 with toks := s1.toks + 1 } := I1.tok _
  refine PySem.W.sm_get (s := { s1 with toks := s1.toks + 1 }) I2.kIn hp (PySem.W.handed_on rfl ?_)
  refine PySem.W.callWith_K0 (first := []) I2.kIn c.kp ?_
  exact wpAny_call (run_fnR (us := []) (vs := []) F (hr.mono hj) pass0 I2 .nil q)
/-- C.m(e, ..), a classmethod -/
theorem pe_cmR (r : CRead X.K C mc) (c : CMet X.K C mc m pr g) (F : FnR X.prog X.w X.K X.mg X.base CX0 k g sp) (hr : Room j X.A) (hj : k ≤ j) (he : PE X o ta) (ha : PA X (e :: es) t)
    (hst : starEach (e :: es) X.env = (false, eval e X.env) :: starEach es X.env := by rfl) (hpl : (backTo pos (starEach es X.env)).any (·.1) = false := by rfl)
    (ht : eval (.Call (.Attribute o m apos) (e :: es) [] pos) X.env = (do
      let ov ← eval o X.env
      standAt apos.atName
      let (f, first) ← holding [ov] (getMethod ov m pl)
      callWith pos f first (backTo pos (starEach (e :: es) X.env)) (backToKw pos (keywordEach [] X.env))) := by rfl) :
    PE X (.Call (.Attribute o m apos) (e :: es) [] pos) (tCMeth C sp E0 ta t) := pe_cmeth (pl := pl) he r c F (hr.mono hj) pass0 ha hst hpl ht
/-- a call that an operation of the machine makes, one level in -/
theorem run_in1 {pins : List (Addr × Obj)} {σ : L2.St} {H : Hp} {s : Shared} {Q : VK} {us : List Value} {vs : List V} (F : FnR X.prog X.w X.K X.mg X.base CX0 k f sp) (hr : Room (k + 1) X.A) (I : Inv X pins σ H s) (r : Vals vs us) (h : sp vs H Q E0) :
    wpAny (model X.prog X.w) X.A.in1 (call (.ref f) us) (EP X pins σ Q) X.xe s := by
  refine wpAny_call (codeAny_mono (F X.A.in1 X.stack s H us vs Q E0 hr.in1 I.env0.in1 r h) ?_)
  intro z s' hq
  match z, hq with
  | .ok (.ret u), hq => exact I.after hq
  | .ok .next, hq => exact False.elim hq
  | .ok .brk, hq => exact False.elim hq
  | .ok .cont, hq => exact False.elim hq
  | .error e, hq => exact False.elim hq
/-- x[i], x an instance of the class at C that has its own items -/
def rOwnItem (C : Addr) (sp : Sp) : R2 := fun x i H Q => ∃ a dx fx, x = .ref a ∧ H a = some (.ins C dx fx) ∧ sp [.ref a, i] H Q E0
theorem pe_ownItem (hs : PySem.W.findIn X.K (.ref C) "__getitem__" = some (some (.ref g))) (hf : PySem.W.isFn X.K (.ref g) = true) (hi : PySem.W.fnIn X.K g = true) (F : FnR X.prog X.w X.K X.mg X.base CX0 k g sp) (hr : Room j X.A) (hj : k + 1 ≤ j)
    (ha : PE X a ta) (hb : PE X b tb) (hsl : ∀ o i, subscripted b true o i = runValue (.builtin "lifetime.subscript" ⟨[o, i], []⟩) := by exact fun _ _ => rfl) :
    PE X (.Subscript a b pos) (tOp (rOwnItem C sp) ta tb) := by
  constructor
  intro pins s σ H Q I h
  refine Subscript_ (binT ha hb I h ?_)
  rintro v u s2 y z H2 I2 ry rz ⟨r, dx, fx, rfl, hr2, q⟩
  obtain rfl : v = Value.ref r := ry
  obtain ⟨ma, Oa, _⟩ := ins_get I2.hok hr2
  obtain ⟨oda, Ja, _⟩ := Oa.look
  obtain ⟨m, Fm⟩ := I2.fr
  refine PySem.W.sub_K Fm I2.mod.kin Ja hs hi hf ?_ (hsl _ _)
  exact run_in1 F (hr.mono hj) I2 (.cons (show RelV (.ref r) (.ref r) from rfl) (.cons rz .nil)) q
end

/-! ### targets with a star -/
section
variable {prog : Program} {w : World} {A : Around} {E : Value → Shared → Prop} {s : Shared}
/-- what is behind the star is a new list, all else is kept -/
theorem star_of {l : Addr} {its : Array Value} {n i : Nat} {Q : List Value → Shared → Prop} (hl : s.heap.IsList l its ∨ IsTup s.heap l its) (hh : A.handled = none) (hi : i < n) (hn : n ≤ its.size + 1) (hz : its.size ≤ 16384)
    (h : ∀ (h' : Heap) (tk : Nat), (∀ b o, s.heap.get? b = some o → h'.get? b = some o) → Q (its.toList.take i ++ [.ref h'.objs.size] ++ (its.toList.drop i).drop (its.size + 1 - n))
      { s with heap := h'.push { cls := .type "list", data := .seq ((its.toList.drop i).take (its.size + 1 - n)).toArray }, toks := tk }) : wpAny (model prog w) A (unpackItems (.ref l) n (some i)) Q E s := by
  have lenR : (its.toList.drop i).length = its.size - i := by rw [List.length_drop, Array.length_toList]
  have lenF : (its.toList.take i).length = i := by rw [List.length_take, Array.length_toList]; omega
  have tail : ∀ (h2 : Heap) (tk : Nat), (∀ b o, s.heap.get? b = some o → h2.get? b = some o) →
      wpAny (model prog w) A (newList ((its.toList.drop i).take ((its.toList.drop i).length - (n - 1 - i))) >>= fun d => pure (its.toList.take i ++ [d] ++ (its.toList.drop i).drop ((its.toList.drop i).length - (n - 1 - i)))) Q E { s with heap := h2, toks := tk } := by
    intro h2 tk keep
    rw [show (its.toList.drop i).length - (n - 1 - i) = its.size + 1 - n by rw [lenR]; omega]
    refine wpAny_bind (wpAny_newList (wpAny_pure (h h2 tk keep)) ?_)
    rw [List.length_take, lenR, sizeLine_eq]
    omega
  have lt : l < s.heap.objs.size := by
    rcases hl with ⟨o, ho, _⟩ | ⟨o, ho, _⟩ <;> exact Heap.lt_size ho
  unfold unpackItems notIterableAtAll
  rcases hl with hl | hl
  · refine wpAny_bind (wpAny_bind (wpAny_specialOf hl.typeIs slot_list_iter.lookup (wpAny_pure ?_)))
    simp only [Bool.false_eq_true, if_false]
    refine wpAny_bind (wpAny_holding (wpAny_pyIter_list hl ?_))
    refine wpAny_bind (wpAny_holding (PySem.W.kun_draw (Nat.ne_of_lt lt) i 0 _ _ ⟨_, Heap.get?_push_size _ rfl, rfl, rfl⟩ (hl.push _) (by omega) ?_))
    intro h1 it1 sb
    have hl1 : h1.IsList l its := (hl.push _).extBut sb.extBut (Nat.ne_of_lt lt)
    rw [Nat.zero_add] at it1
    rw [List.drop_zero, if_neg (show ¬ (its.toList.take i).length < i by omega)]
    have a1 : s.heap.objs.size < h1.objs.size := let ⟨_, z, _⟩ := it1; Heap.lt_size z
    have a2 : l < h1.objs.size := let ⟨_, z, _⟩ := hl1; Heap.lt_size z
    refine wpAny_bind (wpAny_holding (PySem.W.kun_collect (s := { s with heap := h1 }) (T := "list_iterator") (.inr (.inr (.inl rfl))) (Walks.list (A := A.in1) hh s.heap.objs.size l (Nat.ne_of_lt lt) its) (fun _ _ st => st.1.typeIs) (k := i) (by omega) ⟨it1, hl1⟩ a1 a2 ?_ (by rw [sizeLine_eq]; omega)))
    intro h2 tk keep
    have z := tail h2 tk fun b o q => keep b o (Nat.ne_of_lt (Heap.lt_size q)) (sb.extBut b o (Nat.ne_of_lt (Heap.lt_size q)) (Heap.get?_push_of_some _ q))
    show wpAny _ _ (if (its.toList.drop i).length < n - 1 - i then _ else _) _ _ _
    rw [if_neg (by rw [lenR]; omega)]
    exact z
  · refine wpAny_bind (wpAny_bind (wpAny_specialOf hl.typeIs slot_tuple_iter.lookup (wpAny_pure ?_)))
    simp only [Bool.false_eq_true, if_false]
    refine wpAny_bind (wpAny_holding (iter_tuple hl ?_))
    refine wpAny_bind (wpAny_holding (draw_tuple (Nat.ne_of_lt lt) i 0 _ _ ⟨_, Heap.get?_push_size _ rfl, rfl, rfl⟩ (hl.push _) (by omega) ?_))
    intro h1 it1 sb
    have hl1 : IsTup h1 l its := (hl.push _).extBut sb.extBut (Nat.ne_of_lt lt)
    rw [Nat.zero_add] at it1
    rw [List.drop_zero, if_neg (show ¬ (its.toList.take i).length < i by omega)]
    have a1 : s.heap.objs.size < h1.objs.size := let ⟨_, z, _⟩ := it1; Heap.lt_size z
    have a2 : l < h1.objs.size := let ⟨_, z, _⟩ := hl1; Heap.lt_size z
    refine wpAny_bind (wpAny_holding (PySem.W.kun_collect (s := { s with heap := h1 }) (T := "tuple_iterator") (.inr (.inr (.inr rfl))) (Walks.tuple (A := A.in1) hh s.heap.objs.size l (Nat.ne_of_lt lt) its) (fun _ _ st => st.1.typeIs) (k := i) (by omega) ⟨it1, hl1⟩ a1 a2 ?_ (by rw [sizeLine_eq]; omega)))
    intro h2 tk keep
    have z := tail h2 tk fun b o q => keep b o (Nat.ne_of_lt (Heap.lt_size q)) (sb.extBut b o (Nat.ne_of_lt (Heap.lt_size q)) (Heap.get?_push_of_some _ q))
    show wpAny _ _ (if (its.toList.drop i).length < n - 1 - i then _ else _) _ _ _
    rw [if_neg (by rw [lenR]; omega)]
    exact z
end
end K37
end
section
set_option Elab.async false
set_option linter.all false
set_option maxRecDepth 100000
set_option maxHeartbeats 2000000
/-! K1c: targets with a star; further builtins. -/
namespace K37
open PySem PySem.Spec PyProof.Rows L2 StX ClX
section
variable {X : Cx} {pos : Pos}
/-- (a, *b, ..) = a list or tuple: b is a new list -/
def gStar (K : PySem.W.Frag) (n i : Nat) (t : TGs) : TG := fun v σ H Q => ∃ a xs, v = .ref a ∧ (SqL K H a xs ∨ SqT K H a xs) ∧ n ≤ xs.length + 1 ∧ xs.length ≤ 16384 ∧
  ∀ D, H D = none → t (xs.take i ++ [.ref D] ++ (xs.drop i).drop (xs.length + 1 - n)) σ (upd H D (.lst ((xs.drop i).take (xs.length + 1 - n)))) Q
theorem pgs_star {e : Expr} {p : Pos} {es : List Expr} {t : TG} {u : TGs} (h1 : PG X e t) (h2 : PGs X es u)
    (hs : (assignEach (.Starred e p :: es) X.env).map (·.2) = assign e X.env :: (assignEach es X.env).map (·.2) := by rfl) : PGs X (.Starred e p :: es) (gCons t u) := by
  constructor
  rintro pins s σ H vs us Q I r ⟨v, vr, rfl, h⟩
  obtain ⟨r0, rr⟩ := (show ∃ (u0 : Value) (us' : List Value), us = u0 :: us' ∧ RelV v u0 ∧ Vals vr us' from match us, r with | _, .cons a b => ⟨_, _, rfl, a, b⟩)
  obtain ⟨us', rfl, r0', rr⟩ := rr
  rw [hs]
  refine assignInOrder_cons (thn (h1.run pins s σ H _ _ _ I r0' h) ?_)
  rintro _ s1 ⟨σ1, H1, I1, q1⟩
  exact h2.run pins s1 σ1 H1 _ _ Q I1 rr q1
theorem pg_star {es : List Expr} {k : Nat} {t : TGs} {n i : Nat} (hc : X.calm = true) (h : PGs X es t) (hn : (assignEach es X.env).length = n := by rfl) (hst : (assignEach es X.env).findIdx? (·.1) = some i := by rfl) (hi : i < n := by decide) :
    PG X (.Tuple es k pos) (gStar X.K n i t) := by
  constructor
  rintro pins s σ H v u Q I r ⟨a, xs, rfl, hq, hl, hz, hw⟩
  obtain rfl : u = Value.ref a := r
  have hl' : ∃ its : List Value, Vals xs its ∧ (s.heap.IsList a its.toArray ∨ IsTup s.heap a its.toArray) := by
    rcases hq with hq | hq
    · obtain ⟨its, rv, pl, _⟩ := I.list hq
      exact ⟨its, rv, .inl pl.isList⟩
    · obtain ⟨its, rv, pl, _⟩ := I.tuple hq
      exact ⟨its, rv, .inr pl⟩
  obtain ⟨its, rv, pl⟩ := hl'
  have el := rv.length
  rw [PyProof.Rows.assign_Tuple]
  refine wpAny_bind (wpAny_standAt ?_)
  unfold unpack
  rw [hn, hst]
  refine wpAny_bind (wpAny_holding (star_of pl (I.ok.hd hc) hi (by rw [List.size_toArray]; omega) (by rw [List.size_toArray]; omega) ?_))
  intro h' tk keep
  have esz : its.toArray.size = xs.length := by rw [List.size_toArray]; exact el.symm
  rw [esz]
  have I1 : Inv X pins σ H { s with heap := h', toks := tk } := I.kept keep
  have I2 : Inv X pins σ (upd H h'.objs.size (.lst ((xs.drop i).take (xs.length + 1 - n)))) { s with heap := h'.push { cls := .type "list", data := .seq ((its.drop i).take (xs.length + 1 - n)).toArray }, toks := tk } := by
    refine I1.laid (t' := tk) (fun b o q => Heap.get?_push_of_some _ q) (Nat.le_refl _) ?_
    refine ⟨?_, _, 0, (rv.drop i).take (xs.length + 1 - n), Heap.get?_push_size _ rfl⟩
    rw [List.length_take, List.length_drop, sizeLine_eq]
    omega
  refine h.run pins _ σ _ _ _ Q I2 ?_ (hw _ (I1.hok.fresh (Nat.le_refl _)))
  exact ((rv.take i).append (.cons (show RelV (.ref h'.objs.size) (.ref h'.objs.size) from rfl) .nil)).append ((rv.drop i).drop (xs.length + 1 - n))
/-- xs += ys on a field, in place -/
theorem in_ext : InOp X .Add rExt2 := fun pins s σ H x y u v Q I rx ry h => iop_ext pins s σ H x y u v Q I rx ry h
theorem vals_of_at {xs : List V} : ∀ {us : List Value}, us.length = xs.length → (∀ (j : Nat) (u : Value) (y : V), us[j]? = some u → xs[j]? = some y → RelV y u) → Vals xs us := by
  induction xs with
  | nil => intro us hl _; cases us with
    | nil => exact .nil
    | cons _ _ => cases hl
  | cons y ys ih => intro us hl h; cases us with
    | nil => cases hl
    | cons u us =>
      refine .cons (h 0 u y rfl rfl) (ih (Nat.succ.inj hl) ?_)
      intro j a b e1 e2
      exact h (j + 1) a b e1 e2
/-- list(s): the signs of a text -/
theorem call_listS (hc : X.calm = true) : CallR X (.type "list") (fun xs H Q => ∃ x : Str, xs = [.str x] ∧ x.length ≤ sizeLine ∧ ∀ p, H p = none → Q (.ref p) (upd H p (.lst (x.cps.toList.map fun c => .str ⟨#[c]⟩)))) := by
  rintro pins s σ H xs us Q I r ⟨x, rfl, hz, q⟩
  obtain ⟨u, rfl, rx⟩ := Vals.one r
  obtain ⟨t, rfl⟩ := rx
  refine call_list_str (I.ok.hd hc) x t ?_ hz
  intro h' tk acc c keep hS hacc
  refine ⟨.ref s.heap.objs.size, _, I.laid (t' := tk) (o := .lst (x.cps.toList.map fun c => .str ⟨#[c]⟩)) keep (Nat.le_refl _) ⟨?_, acc.toList, c, ?_, ?_⟩, rfl, q _ (I.hok.fresh (Nat.le_refl _))⟩
  · rw [List.length_map]; exact hz
  · refine vals_of_at ?_ ?_
    · rw [List.length_map, Array.length_toList, Array.length_toList]; exact hacc.1
    · intro j u y e1 e2
      rw [Array.getElem?_toList] at e1
      obtain ⟨cc, t', ec, eu⟩ := hacc.2 j u e1
      rw [List.getElem?_map, Array.getElem?_toList, ec] at e2
      obtain rfl : V.str ⟨#[cc]⟩ = y := Option.some.inj e2
      exact ⟨_, eu⟩
  · rw [Array.toArray_toList]; exact hS
/-- d.get(z, x), d a written dict -/
def tKGet2 (K : PySem.W.Frag) (td ty tx : TE) (d : Addr) : TE := fun σ H Q => td σ H fun x H1 => x = .ref d ∧ ty σ H1 fun y H2 => tx σ H2 fun z H3 => ∃ (k : Str) (r : Option Value) (o : Option V), y = .str k ∧ PySem.W.nsIn K d k = some r ∧ RelO o r ∧ Q (o.getD z) H3
theorem pe_kget2 {o e f : Expr} {apos cpos : Pos} {td ty tx : TE} {d : Addr} {es : Array DictEntry} {n : Nat} (D : KDict X.K X.w d es n) (ho : PE X o td) (he : PE X e ty) (hf : PE X f tx) (m : M2 X o "get" apos e f cpos) :
    PE X (.Call (.Attribute o "get" apos) [e, f] [] cpos) (tKGet2 X.K td ty tx d) := by
  constructor
  intro pins s σ H Q I h
  refine wpAny_Call_method m.base m.few m.line PySem.F.plainAttrs_dict PySem.F.slot_dict_get PySem.F.type_dict_get (thn (ho.run pins s σ H _ I h) ?_)
  rintro u s1 ⟨x, H1, I1, rx, rfl, q1⟩
  obtain rfl : u = Value.ref d := rx
  have mo := fun (h : Heap) (K : X.K.In h) => PySem.W.mapOf_K (prog := X.prog) (w := X.w) K D.at_ D.lit
  refine ⟨(mo _ I1.kIn).typeIs, ?_, ?_⟩
  · intro b e
    cases e
    exact ⟨_, I1.kIn _ _ D.at_, rfl⟩
  rw [m.trees]
  refine Calls.callWith_builtin rfl (Calls.evalArgs_plain (Calls.spliced_cons (thn (he.run pins s1 σ H1 _ I1 q1) ?_)))
  rintro iv s2 ⟨y, H2, I2, ry, q2⟩
  refine Calls.spliced_cons (thn (hf.run pins s2 σ H2 _ I2 q2) ?_)
  rintro fv s3 ⟨z, H3, I3, rz, k, r, ov, rfl, e, ro, q3⟩
  refine Calls.spliced_nil ?_
  obtain ⟨t, rfl⟩ := ry
  refine call_meetsIn PySem.F.slot_dict_get (mo _ I3.kIn).typeIs PySem.F.entry_dict_get (PySem.F.args_dict_get_3 _ _ _) (meets_dict_get_default (PySem.strKind X.prog X.w) d (PySem.strKind_is X.prog X.w k t) D.low fv) ⟨_, mo _ I3.kIn, ?_⟩
  show EP X pins σ Q ((findBy Value.isStrOf es k).getD fv) _
  rw [PySem.W.find_K D.at_ e]
  exact ⟨ov.getD z, H3, I3.tok _, ro.getD rz, q3⟩
end
end K37
end
section
set_option Elab.async false
set_option linter.all false
set_option maxRecDepth 100000
set_option maxHeartbeats 2000000
/-! K1d: {**d, k: v, ..}. -/
namespace K37
open PySem PySem.Spec PyProof.Rows L2
section
variable {prog : Program} {w : World} {κ : Type} [DecidableEq κ] {knd : KeyKind prog w κ} {A : Around} {E : Value → Shared → Prop} {s : Shared}
/-- an entry laid into a dict -/
theorem put_of {d : Addr} {kvs : List (κ × Value)} {k : κ} {key u : Value} {Q : Unit → Shared → Prop} (hkey : knd.is k key = true) (D : s.heap.DictOf knd d kvs) (hsz : kvs.length ≤ sizeLine)
    (hQ : ∀ h', h'.DictOf knd d (stored kvs k u) → Heap.SameBut d s.heap h' → Q () { s with heap := h' }) : wpAny (model prog w) A (dictPut d (knd.hash k) key u) Q E s := by
  obtain ⟨ob, ents, ep, at_, ex, da, ks, pa, nd⟩ := D
  have few : ents.size ≤ sizeLine := by
    have z := pa.length
    rw [Array.length_toList] at z
    omega
  have same : (ents.findIdx? fun e => knd.is k e.key) = kvs.findIdx? fun kv => decide (kv.1 = k) := by
    rw [← pa.findIdx k]
    obtain ⟨l⟩ := ents
    simp
  unfold dictPut
  refine wpAny_bind (wpAny_dictFind_of hkey at_ da ks ?_)
  cases hi : ents.findIdx? fun e => knd.is k e.key with
  | some i =>
    have hl : (ents.toList.findIdx? fun e => knd.is k e.key) = some i := by
      rw [← hi]
      obtain ⟨l⟩ := ents
      simp
    have hany := any_of_findIdx_some (same ▸ hi)
    refine wpAny_updateDict at_ da (hQ _ ⟨_, _, ep, Heap.get?_update_self _ at_ (Obj.isFreed_of_dict (Obj.data_mapDict da _)), ex.mapDict _, Obj.data_mapDict da _, ks.modify _ _, ?_, ?_⟩ (Heap.SameBut.update ..))
    · rw [stored, if_pos hany]
      have z := pa.modify nd hl u
      obtain ⟨l⟩ := ents
      simpa using z
    · rw [stored, if_pos hany, keys_map_store]
      exact nd
  | none =>
    have hnot : k ∉ kvs.map (·.1) := not_mem_of_findIdx_none (same ▸ hi)
    have hany : ¬ (kvs.any fun kv => decide (kv.1 = k)) = true := fun z => by
      obtain ⟨kv, m, e⟩ := List.any_eq_true.mp z
      exact hnot (List.mem_map.mpr ⟨kv, m, of_decide_eq_true e⟩)
    refine wpAny_updateDictKeys (hz := few) at_ da (hQ _ ⟨_, _, ep + 1, Heap.get?_update_self _ at_ (Obj.isFreed_of_dict (Obj.data_mapDictKeys da _)), ex.mapDictKeys _, Obj.data_mapDictKeys da _, ks.push hkey _, ?_, ?_⟩ (Heap.SameBut.update ..))
    · rw [stored, if_neg hany]
      have z := pa.append hkey (knd.hash k) u
      obtain ⟨l⟩ := ents
      simpa using z
    · rw [stored, if_neg hany, List.map_append, List.nodup_append]
      refine ⟨nd, by simp, ?_⟩
      rintro a ha b hb rfl
      have e : a = k := by simpa using hb
      exact hnot (e ▸ ha)
/-- a dict merged into another one -/
theorem merge_of {d a : Addr} {kvs more : List (κ × Value)} {Q : Unit → Shared → Prop} (hda : d ≠ a) (ha : (a == sysModules) = false) (flat : ∀ k v b, knd.is k v = true → v ≠ .ref b) (Dd : s.heap.DictOf knd d kvs) (Da : s.heap.DictOf knd a more)
    (hsz : kvs.length + more.length ≤ sizeLine) (hQ : ∀ h', h'.DictOf knd d (merged kvs more) → Heap.SameBut d s.heap h' → Q () { s with heap := h' }) : wpAny (model prog w) A (mergeMapping d (.ref a) false) Q E s := by
  obtain ⟨od, esd, epd, hod, hcd, hdd, hkd, hpd, hnd⟩ := id Dd
  obtain ⟨oa, esa, epa, hoa, hca, hda', hka, hpa, hna⟩ := id Da
  have hlen : more.length = esa.size := by rw [← hpa.length]; simp
  have turns : wpAny (model prog w) A (do
      let l ← dictEntries a
      let epoch ← dictEpoch a
      forIn (List.range l.size) PUnit.unit fun i (_ : PUnit) => (do
        let now ← dictEntries a
        match now[i]? with
          | some e => do
            holding [e.key, e.val] (if false = true then (do
                let f ← dictFind d e.key e.hash
                if f.isSome = true then do
                    rule "dict.merge.duplicate-key"
                    let x ← newExc (Value.type "KeyError") [e.key]
                    raiseNew x
                    dictPut d e.hash e.key e.val
                  else dictPut d e.hash e.key e.val)
              else dictPut d e.hash e.key e.val)
            let ep ← dictEpoch a
            if (ep != epoch) = true then do
                (unsupported "dict.changed-during-merge" : Sem PUnit)
                pure (ForInStep.yield PUnit.unit)
              else pure (ForInStep.yield PUnit.unit)
          | _ => do
            (unsupported "dict.changed-during-merge" : Sem PUnit)
            pure (ForInStep.yield PUnit.unit) : Sem (ForInStep PUnit))
      pure ()) Q E s := by
    refine wpAny_bind (wpAny_dictEntries hoa hda' ?_)
    refine wpAny_bind (wpAny_dictEpoch hoa hda' ?_)
    refine wpAny_bind ?_
    rw [List.range_eq_range']
    refine wpAny_forIn_list _ (fun rest _ s' => ∃ h' i, s' = { s with heap := h' } ∧ rest = List.range' i (esa.size - i) ∧ i ≤ esa.size ∧ h'.DictOf knd d (merged kvs (more.take i)) ∧ h'.get? a = some oa ∧ Heap.SameBut d s.heap h') _ ?_ ?_ _ _
      ⟨s.heap, 0, rfl, by simp, Nat.zero_le _, by simpa [merged] using Dd, hoa, Heap.SameBut.refl _ _⟩
    · rintro x rest b s' ⟨h', i, rfl, hr, hi, hd', ha', sb⟩
      have lt : i < esa.size := by
        rcases Nat.lt_or_ge i esa.size with z | z
        · exact z
        · rw [Nat.sub_eq_zero_of_le z] at hr
          simp at hr
      rw [show esa.size - i = (esa.size - (i + 1)) + 1 by omega, List.range'_succ] at hr
      injection hr with hx hrest
      subst hx
      refine wpAny_bind (wpAny_dictEntries ha' hda' ?_)
      rw [Array.getElem?_eq_getElem lt]
      obtain ⟨⟨k, u⟩, hkv⟩ : ∃ kv, more[x]? = some kv := ⟨more[x]'(by rw [hlen]; exact lt), List.getElem?_eq_getElem _⟩
      obtain ⟨hkey, hval⟩ := hpa.get? (e := esa[x]) (by simp [lt]) hkv
      obtain ⟨k', hkey', hhash⟩ := hka esa[x] (Array.getElem_mem lt)
      obtain rfl : k' = k := knd.inj _ _ _ hkey' hkey
      have mx : (merged kvs (more.take x)).length ≤ sizeLine := by
        have e1 := merged_length_le kvs (more.take x)
        have e2 : (more.take x).length ≤ more.length := by rw [List.length_take]; omega
        omega
      show wpAny _ _ (holding [esa[x].key, esa[x].val] (dictPut d esa[x].hash esa[x].key esa[x].val) >>= _) _ _ _
      rw [hhash, hval]
      refine wpAny_bind (wpAny_holding (put_of hkey hd' mx ?_))
      intro h'' hd'' sb'
      have ha'' : h''.get? a = some oa := (sb'.2 a (Ne.symm hda)).trans ha'
      refine wpAny_bind (wpAny_dictEpoch ha'' hda' ?_)
      rw [if_neg (by simp)]
      exact wpAny_pure ⟨h'', x + 1, rfl, hrest, lt, by rw [merged_take_succ kvs more x (k', u) hkv]; exact hd'', ha'', sb.trans sb'⟩
    · rintro b s' ⟨h', i, rfl, hr, hi, hd', ha', sb⟩
      have e : i = esa.size := by
        rcases Nat.lt_or_ge i esa.size with z | z
        · rw [show esa.size - i = (esa.size - (i + 1)) + 1 by omega, List.range'_succ] at hr
          cases hr
        · exact Nat.le_antisymm hi z
      refine wpAny_pure (hQ h' ?_ sb)
      rw [e, ← hlen, List.take_length] at hd'
      exact hd'
  unfold mergeMapping
  refine wpAny_bind (wpAny_isInstance Da.typeIs isSubtype_dict_dict ?_)
  simp only [if_true]
  refine wpAny_bind (wpAny_specialOf Da.typeIs F.slot_dict_iter.lookup (wpAny_bind (wpAny_pure ?_)))
  simp only [beq_self_eq_true]
  rw [if_neg (by rw [ha]; exact Bool.false_ne_true)]
  refine wpAny_bind (wpAny_dictEntries hod hdd ?_)
  split
  · refine wpAny_bind (wpAny_dictEntries hoa hda' ?_)
    refine wpAny_bind ?_
    rw [← Array.forIn_toList]
    refine wpAny_forIn_list _ (fun rest _ s' => s' = s ∧ ∀ e ∈ rest, e ∈ esa.toList) _ ?_ ?_ _ _ ⟨rfl, fun e he => he⟩
    · rintro e rest b s' ⟨rfl, hm⟩
      obtain ⟨k, hkey, _⟩ := hka e (Array.mem_toList_iff.mp (hm e (List.mem_cons_self ..)))
      have nr := flat k e.key
      split
      · rename_i c q
        exact absurd q (nr c hkey)
      · exact wpAny_pure ⟨rfl, fun z hz => hm z (List.mem_cons_of_mem _ hz)⟩
    · rintro b s' ⟨rfl, _⟩
      exact turns
  · exact turns
end
end K37
end
section
set_option Elab.async false
set_option linter.all false
set_option maxRecDepth 100000
set_option maxHeartbeats 2000000
/-! K1e: the rule for {**d, k: v, ..}. -/
namespace K37
open PySem PySem.Spec PyProof.Rows L2
/-- pairs are gathered, whatever was laid ahead of them -/
theorem gather_on {mn : Option Addr} (f : (Option (Sem Value) × Sem Value) → (Option Addr × List (Sem Value × Sem Value)) → Sem (ForInStep (Option Addr × List (Sem Value × Sem Value))))
    (hf : ∀ (p : Sem Value × Sem Value) (run : List (Sem Value × Sem Value)), run.length + 1 < 17 → f (some p.1, p.2) (mn, run) = pure (.yield (mn, run ++ [p]))) :
    ∀ (l run : List (Sem Value × Sem Value)), run.length + l.length < 17 → forIn (l.map fun p => (some p.1, p.2)) (mn, run) f = pure (mn, run ++ l) := by
  intro l
  induction l with
  | nil => intro run _; simp
  | cons p l ih =>
    intro run hl
    rw [List.length_cons] at hl
    rw [List.map_cons, List.forIn_cons, hf p run (by omega), pure_bind]
    have z := ih (run ++ [p]) (by rw [List.length_append, List.length_singleton]; omega)
    rw [List.append_assoc] at z
    exact z
theorem mixed_flat {P : Program} {w : World} (k : Key) (v : Value) (b : Addr) (h : (mixKind P w).is k v = true) : v ≠ .ref b := by
  rintro rfl
  rcases keyIs_shape h with ⟨_, _, _, e⟩ | ⟨_, _, _, e⟩ <;> cases e
def tDispS (te : TE) (trs : List (TE × TE)) : TE := fun σ H Q => ∀ d, H d = none → te σ (upd H d (.dK [])) fun x H1 => ∃ a kvs, x = .ref a ∧ H1 a = some (.dK kvs) ∧ d ≠ a ∧ H1 d = some (.dK []) ∧ kvs.length ≤ 1000 ∧
  ∀ p, upd H1 d (.dK (mergeK [] kvs)) p = none → tPairs trs σ (upd (upd H1 d (.dK (mergeK [] kvs))) p (.dK [])) fun ps H2 => H2 p = some (.dK []) ∧ H2 d = some (.dK (mergeK [] kvs)) ∧
    ∃ more : List (Key × V), ps = more.map (fun kv => (kV kv.1, kv.2)) ∧ more.length ≤ 15 ∧ Q (.ref d) (upd (upd H2 p (.dK (mergeK [] more))) d (.dK (mergeK (mergeK [] kvs) (mergeK [] more))))
theorem pe_dispS {X : Cx} {pos : Pos} {e : Expr} {keys : List (Option Expr)} {values : List Expr} {te : TE} {trs : List (TE × TE)} (he : PE X e te) (h : PPs X pos keys values trs) (hall : keys.all (·.isSome) = true) (hl : keys.length = values.length)
    (h0 : keys ≠ []) (h15 : keys.length ≤ 15) (hz : (evalEachOpt (none :: keys) X.env).zip ((evalEach (e :: values) X.env).map fun v => do let x ← v; standAt pos; pure x) =
      (none, do let x ← eval e X.env; standAt pos; pure x) :: (evalEachOpt keys X.env).zip ((evalEach values X.env).map fun v => do let x ← v; standAt pos; pure x) := by rfl) :
    PE X (.Dict (none :: keys) (e :: values) pos) (tDispS te trs) := by
  constructor
  intro pins s σ H Q I q
  have hn := pairTrees_length keys values X.env pos hall hl
  have hne : pairTrees keys values X.env pos ≠ [] := fun z => by
    rw [z] at hn
    exact h0 (List.length_eq_zero_iff.mp hn.symm)
  rw [arm_eval_Dict, hz, zip_pairTrees keys values X.env pos hall hl]
  generalize hp : pairTrees keys values X.env pos = prs at hn hne
  unfold dictDisplay
  dsimp only
  rw [List.forIn_cons]
  simp only [List.isEmpty_nil, if_true, pure_bind, bind_assoc]
  refine wpAny_bind (wpAny_standAt ?_)
  refine wpAny_bind (wpAny_alloc ?_)
  have f1 := I.hok.fresh (Nat.le_refl s.heap.objs.size)
  have I1 := I.laid (a := s.heap.objs.size) (o := .dK []) (h' := s.heap.push { cls := .type "dict", data := .dict #[] }) (t' := s.toks) (fun _ _ z => Heap.get?_push_of_some _ z) (Nat.le_refl _) (dk_empty s.heap I.big)
  refine wpAny_bind (wpAny_holding (wpAny_bind (thn (he.run pins _ σ _ _ I1 (q _ f1)) ?_)))
  rintro u s1 ⟨x, H1, I2, ru, a, kvs, rfl, ha, nod, hd, hzk, q1⟩
  obtain rfl : u = Value.ref a := ru
  refine wpAny_bind (wpAny_standAt (wpAny_pure ?_))
  obtain ⟨za, sa, va, ra, da⟩ := dk_of I2.hok ha
  obtain ⟨zd, sd, vd, rd, dd⟩ := dk_of I2.hok hd
  cases rd
  have lens : va.length ≤ 1000 := by rw [← ra.length]; exact hzk
  have lenm : (mergeK [] kvs).length ≤ 1000 := by
    have z := length_mergeK kvs []
    rw [List.length_nil] at z
    omega
  refine wpAny_bind (wpAny_onRaise (wpAny_tryCatch (wpAny_onRaise (wpAny_holding (merge_of (knd := mixKind X.prog X.w) nod sa mixed_flat dd da (by rw [List.length_nil, sizeLine_eq]; omega) ?_)))))
  intro h2 dd2 sb2
  have e2 : ∃ z, h2.get? s.heap.objs.size = some z := let ⟨z, _, _, hz, _⟩ := dd2; ⟨z, hz⟩
  have I3 := d_write (t' := s1.toks) I2 (by rw [hd]; exact True.intro) sb2 e2 (dk_new (by rw [sizeLine_eq]; omega) sd (ra.merge .nil) dd2)
  rw [gather_on _ (fun p run hr => by
    have z : ((run ++ [(p.1, p.2)]).length == 17) = false := by rw [List.length_append, List.length_singleton]; exact beq_eq_false_iff_ne.mpr (by omega)
    simp only [z, Bool.false_eq_true, if_false]) prs [] (by rw [List.length_nil]; omega)]
  simp only [pure_bind, List.nil_append]
  have nemp : prs.isEmpty = false := by
    cases prs with
    | nil => exact absurd rfl hne
    | cons _ _ => rfl
  simp only [nemp, Bool.false_eq_true, if_false, bind_assoc]
  refine wpAny_bind (wpAny_holding (wpAny_subDict (knd := mixKind X.prog X.w) (by omega) ?_))
  have f3 := I3.hok.fresh (Nat.le_refl h2.objs.size)
  have I4 := I3.laid (a := h2.objs.size) (o := .dK []) (h' := h2.push { cls := .type "dict", data := .dict #[] }) (t' := s1.toks) (fun _ _ z => Heap.get?_push_of_some _ z) (Nat.le_refl _) (dk_empty h2 I3.big)
  rw [← hp]
  refine thn (h.run pins _ σ _ _ I4 (q1 _ f3)) ?_
  rintro ws s3 ⟨ps, H2, I5, rel, ep, ed, more, rfl, hm15, q2⟩
  obtain ⟨rs, c, rk⟩ := carries_of (P := X.prog) (w := X.w) rel
  obtain ⟨zp, sp_, vp, rp, dp⟩ := dk_of I5.hok ep
  cases rp
  refine ⟨rs, c, dp, ?_⟩
  intro h4 dp4 sb4
  have lmo : (mergeK [] more).length ≤ 15 := by
    have z := length_mergeK more []
    rw [List.length_nil] at z
    omega
  have e4 : ∃ z, h4.get? h2.objs.size = some z := let ⟨z, _, _, hz, _⟩ := dp4; ⟨z, hz⟩
  have I6 := d_write (t' := s3.toks + ws.length) I5 (by rw [ep]; exact True.intro) sb4 e4 (dk_new (by rw [sizeLine_eq]; omega) sp_ (rk.merge .nil) dp4)
  have nep : s.heap.objs.size ≠ h2.objs.size := by
    obtain ⟨z, hz⟩ := e2
    exact Nat.ne_of_lt (Heap.lt_size hz)
  have ed6 : (upd H2 h2.objs.size (.dK (mergeK [] more))) s.heap.objs.size = some (.dK (mergeK [] kvs)) := by
    rw [upd_ne nep]
    exact ed
  have ep6 : (upd H2 h2.objs.size (.dK (mergeK [] more))) h2.objs.size = some (.dK (mergeK [] more)) := upd_same
  obtain ⟨_, sd6, vd6, rd6, dd6⟩ := dk_of I6.hok ed6
  obtain ⟨_, sp6, vp6, rp6, dp6⟩ := dk_of I6.hok ep6
  have l1 := rd6.length
  have l2 := rp6.length
  refine wpAny_bind (wpAny_onRaise (wpAny_holding (merge_of (knd := mixKind X.prog X.w) nep sp6 mixed_flat dd6 dp6 (by rw [sizeLine_eq]; omega) ?_)))
  intro h7 dd7 sb7
  have e7 : ∃ z, h7.get? s.heap.objs.size = some z := let ⟨z, _, _, hz, _⟩ := dd7; ⟨z, hz⟩
  have l3 := length_mergeK (mergeK [] more) (mergeK [] kvs)
  have I8 := d_write (t' := s3.toks + ws.length) I6 (by rw [ed6]; exact True.intro) sb7 e7 (dk_new (by rw [sizeLine_eq]; omega) sd6 (rp6.merge rd6) dd7)
  refine wpAny_pure ?_
  exact ⟨.ref s.heap.objs.size, _, I8, rfl, q2⟩
end K37
end
section
set_option Elab.async false
set_option linter.all false
set_option maxRecDepth 100000
set_option maxHeartbeats 4000000
/-! K2: paths as lists of names; plain mathematics. -/
namespace K37
open PySem L2 SX
abbrev Pa : Type := List (List Nat)
/-- the signs of a name -/
def okN (n : List Nat) : Prop := 1 ≤ n.length ∧ n.length ≤ 8 ∧ ∀ x ∈ n, 97 ≤ x ∧ x ≤ 122
def okP (p : Pa) : Prop := p.length ≤ 100 ∧ ∀ n ∈ p, okN n
def seg (p : Pa) : List Nat := p.flatMap fun n => 47 :: n
def ptl (p : Pa) : List Nat := match p with | [] => [47] | _ :: _ => seg p
/-- a path's text -/
def pS (p : Pa) : Str := S (ptl p)
theorem okN.no47 {n : List Nat} (h : okN n) : 47 ∉ n := fun m => by
  have := (h.2.2 47 m).1
  omega
theorem okN.ne {n : List Nat} (h : okN n) : n ≠ [] := fun e => by
  have := h.1
  rw [e] at this
  exact absurd this (by decide)
theorem seg_nil : seg [] = [] := rfl
theorem seg_cons (n : List Nat) (p : Pa) : seg (n :: p) = 47 :: (n ++ seg p) := by simp [seg]
theorem seg_app (p q : Pa) : seg (p ++ q) = seg p ++ seg q := by simp [seg]
theorem ptl_ne {p : Pa} (h : p ≠ []) : ptl p = seg p := by
  cases p with
  | nil => exact absurd rfl h
  | cons _ _ => rfl
theorem seg_join : ∀ (n : List Nat) (p : Pa), seg (n :: p) = 47 :: TL.joinL [47] (n :: p)
  | n, [] => by simp [seg, TL.joinL]
  | n, m :: p => by
    rw [seg_cons, seg_join m p]
    rfl
theorem ptl_join (p : Pa) : ptl p = 47 :: TL.joinL [47] p := by
  cases p with
  | nil => rfl
  | cons n p => exact seg_join n p
theorem seg_len : ∀ (p : Pa), (∀ n ∈ p, okN n) → (seg p).length ≤ 9 * p.length
  | [], _ => Nat.le_refl _
  | n :: p, h => by
    have h1 := (h n (List.mem_cons_self)).2.1
    have h2 := seg_len p fun m hm => h m (List.mem_cons_of_mem _ hm)
    rw [seg_cons, List.length_cons, List.length_append, List.length_cons]
    omega
theorem okP.len {p : Pa} (h : okP p) : (ptl p).length ≤ 1000 := by
  cases p with
  | nil => decide
  | cons n p =>
    have h1 := seg_len _ h.2
    have h2 := h.1
    show (seg (n :: p)).length ≤ 1000
    omega
theorem okP.slen {p : Pa} (h : okP p) : (pS p).length ≤ 1000 := by
  rw [pS, S_len]
  exact h.len
theorem sl47 : (Str.ofString "/") = S [47] := TL.ext_tl (TL.tl_ofString "/")
theorem seg_head {p : Pa} (h : p ≠ []) : ∃ r, seg p = 47 :: r := by
  cases p with
  | nil => exact absurd rfl h
  | cons n p => exact ⟨_, seg_cons n p⟩
/-- what two walks through segments say -/
theorem app_no47 : ∀ {a b r s : List Nat}, 47 ∉ a → 47 ∉ b → (∀ x, r.head? = some x → x = 47) → (∀ x, s.head? = some x → x = 47) → a ++ r = b ++ s → a = b ∧ r = s
  | [], [], r, s, _, _, _, _, e => ⟨rfl, e⟩
  | [], y :: b, r, s, _, hb, hr, _, e => by
    have e : r = y :: (b ++ s) := e
    have := hr y (by rw [e]; rfl)
    exact absurd (this ▸ List.mem_cons_self) hb
  | x :: a, [], r, s, ha, _, _, hs, e => by
    have e : x :: (a ++ r) = s := e
    have := hs x (by rw [← e]; rfl)
    exact absurd (this ▸ List.mem_cons_self) ha
  | x :: a, y :: b, r, s, ha, hb, hr, hs, e => by
    rw [List.cons_append, List.cons_append] at e
    injection e with e1 e2
    obtain ⟨h1, h2⟩ := app_no47 (fun m => ha (List.mem_cons_of_mem _ m)) (fun m => hb (List.mem_cons_of_mem _ m)) hr hs e2
    exact ⟨by rw [e1, h1], h2⟩
theorem head_seg {p : Pa} : ∀ x, (seg p).head? = some x → x = 47 := by
  intro x h
  cases p with
  | nil => cases h
  | cons n p =>
    rw [seg_cons] at h
    exact (Option.some.inj h).symm
theorem seg_pre : ∀ {p q : Pa} {r : List Nat}, (∀ n ∈ p, okN n) → (∀ n ∈ q, okN n) → (∀ x, r.head? = some x → x = 47) → seg p ++ r = seg q → ∃ t, q = p ++ t ∧ r = seg t
  | [], q, r, _, _, _, e => ⟨q, rfl, e⟩
  | n :: p, [], r, _, _, _, e => by
    rw [seg_cons] at e
    cases e
  | n :: p, m :: q, r, hp, hq, hr, e => by
    rw [seg_cons, seg_cons, List.cons_append, List.append_assoc] at e
    injection e with _ e
    have hr' : ∀ x, (seg p ++ r).head? = some x → x = 47 := by
      intro x hx
      cases p with
      | nil => exact hr x hx
      | cons k p =>
        rw [seg_cons] at hx
        exact (Option.some.inj hx).symm
    obtain ⟨e1, e2⟩ := app_no47 (hp n List.mem_cons_self).no47 (hq m List.mem_cons_self).no47 hr' head_seg e
    obtain ⟨t, e3, e4⟩ := seg_pre (fun x hx => hp x (List.mem_cons_of_mem _ hx)) (fun x hx => hq x (List.mem_cons_of_mem _ hx)) hr e2
    exact ⟨t, by rw [e1, e3]; rfl, e4⟩
theorem seg_inj {p q : Pa} (hp : ∀ n ∈ p, okN n) (hq : ∀ n ∈ q, okN n) (e : seg p = seg q) : p = q := by
  obtain ⟨t, e1, e2⟩ := seg_pre (r := []) hp hq (fun _ h => nomatch h) (by rw [List.append_nil]; exact e)
  cases t with
  | nil => rw [e1, List.append_nil]
  | cons n t =>
    rw [seg_cons] at e2
    cases e2
theorem seg_one {p : Pa} (hp : ∀ n ∈ p, okN n) (hne : p ≠ []) : seg p ≠ [47] := by
  cases p with
  | nil => exact absurd rfl hne
  | cons n p =>
    rw [seg_cons]
    intro e
    injection e with _ e
    have h1 : n = [] := (List.append_eq_nil_iff.mp e).1
    exact (hp n List.mem_cons_self).ne h1
theorem ptl_inj {p q : Pa} (hp : ∀ n ∈ p, okN n) (hq : ∀ n ∈ q, okN n) (e : ptl p = ptl q) : p = q := by
  cases p with
  | nil =>
    cases q with
    | nil => rfl
    | cons n q => exact absurd (show seg (n :: q) = [47] from e.symm) (seg_one hq (List.cons_ne_nil _ _))
  | cons m p =>
    cases q with
    | nil => exact absurd (show seg (m :: p) = [47] from e) (seg_one hp (List.cons_ne_nil _ _))
    | cons n q => exact seg_inj hp hq e
theorem pS_inj {p q : Pa} (hp : okP p) (hq : okP q) (e : pS p = pS q) : p = q := ptl_inj hp.2 hq.2 (S_inj e)
theorem pS_dec {p q : Pa} (hp : okP p) (hq : okP q) : decide (pS p = pS q) = decide (p = q) := by
  by_cases e : p = q
  · subst e; simp
  · rw [decide_eq_false e, decide_eq_false fun h => e (pS_inj hp hq h)]
theorem okP.nil : okP [] := ⟨by decide, fun _ h => nomatch h⟩
theorem pS_nil : pS [] = (Str.ofString "/") := sl47.symm
theorem pS_ground {p : Pa} (hp : okP p) : decide (V.str (pS p) = V.str (Str.ofString "/")) = decide (p = []) := by
  rw [← pS_nil, ← pS_dec hp okP.nil]
  by_cases e : pS p = pS []
  · rw [e]; simp
  · rw [decide_eq_false e, decide_eq_false fun h => e (V.str.inj h)]
/-! ### texts -/
theorem starts_S (a b : List Nat) : Txt.startswith (S a) (S b) = decide (b <+: a) := by
  unfold Txt.startswith
  rw [PySem.StrLaws.subAt_eq, S_len, S_len, Nat.zero_add]
  show (decide (b.length ≤ a.length) && ((a.drop 0).take b.length == b)) = _
  rw [List.drop_zero, Bool.eq_iff_iff, Bool.and_eq_true, decide_eq_true_iff, beq_iff_eq, decide_eq_true_iff]
  constructor
  · rintro ⟨_, h⟩
    rw [← h]
    exact List.take_prefix _ _
  · intro h
    exact ⟨h.length_le, (List.prefix_iff_eq_take.mp h).symm⟩
theorem starts_ground (p : Pa) : Txt.startswith (pS p) (Str.ofString "/") = true := by
  rw [sl47, pS, starts_S, decide_eq_true_iff, ptl_join]
  exact ⟨_, rfl⟩
theorem slice1 (p : Pa) : Txt.slice (pS p) (some 1) none = S (TL.joinL [47] p) := by
  rw [pS, slice_from (by decide), ptl_join]
  rfl
theorem split_path {p : Pa} (h : ∀ n ∈ p, okN n) (hne : p ≠ []) : Txt.split (S (TL.joinL [47] p)) (Str.ofString "/") = p.map S := by
  rw [sl47, split_S (by decide) (by decide), spl_join hne fun n hn => (h n hn).no47]
theorem join_path (p : Pa) : (Str.ofString "/") ++ Txt.join (Str.ofString "/") (p.map S) = pS p := by
  rw [sl47, join_S, S_cat, pS, ptl_join]
  rfl
theorem join_len {p : Pa} (h : okP p) : (TL.joinL [47] p).length ≤ 1000 := by
  have h1 := h.len
  rw [ptl_join, List.length_cons] at h1
  omega
/-! ### below -/
/-- p lies below o -/
def below (p o : Pa) : Bool := decide (o.length < p.length) && (p.take o.length == o)
theorem below_iff {p o : Pa} : below p o = true ↔ ∃ r, r ≠ [] ∧ p = o ++ r := by
  unfold below
  rw [Bool.and_eq_true, decide_eq_true_iff, beq_iff_eq]
  constructor
  · rintro ⟨h1, h2⟩
    refine ⟨p.drop o.length, ?_, ?_⟩
    · intro e
      have := congrArg List.length e
      rw [List.length_drop, List.length_nil] at this
      omega
    · have e := (List.take_append_drop o.length p).symm
      rw [h2] at e
      exact e
  · rintro ⟨r, h1, rfl⟩
    refine ⟨?_, by simp⟩
    rw [List.length_append]
    have : 0 < r.length := List.length_pos_iff.mpr h1
    omega
theorem starts_below {p o : Pa} (hp : okP p) (ho : okP o) (hne : o ≠ []) : Txt.startswith (pS p) (pS o ++ (Str.ofString "/")) = below p o := by
  rw [sl47, pS, pS, S_cat, starts_S, ptl_ne hne, Bool.eq_iff_iff, decide_eq_true_iff, below_iff]
  constructor
  · rintro ⟨t, e⟩
    cases p with
    | nil =>
      exfalso
      obtain ⟨n, o', rfl⟩ := List.exists_cons_of_ne_nil hne
      have := congrArg List.length e
      rw [seg_cons] at this
      simp [ptl] at this
    | cons n p =>
      have e : seg o ++ ([47] ++ t) = seg (n :: p) := by rw [← List.append_assoc]; exact e
      obtain ⟨r, e1, e2⟩ := seg_pre ho.2 hp.2 (r := [47] ++ t) (fun x hx => by simpa using hx.symm) e
      refine ⟨r, ?_, e1⟩
      rintro rfl
      cases e2
  · rintro ⟨r, h1, rfl⟩
    have h2 : o ++ r ≠ [] := fun e => hne (List.append_eq_nil_iff.mp e).1
    rw [ptl_ne h2, seg_app]
    obtain ⟨t, e⟩ := seg_head h1
    rw [e]
    exact ⟨t, by simp⟩
/-! ### moved -/
theorem pS_app {o r : Pa} (h : o ≠ []) : pS (o ++ r) = S (seg o ++ seg r) := by
  have h2 : o ++ r ≠ [] := fun e => h (List.append_eq_nil_iff.mp e).1
  rw [pS, ptl_ne h2, seg_app]
theorem move_txt {o r t : Pa} (h : o ≠ []) (ht : t ≠ []) : pS t ++ Txt.slice (pS (o ++ r)) (some ((pS o).length : Int)) none = pS (t ++ r) := by
  rw [pS_app h, show (pS o).length = (seg o).length by rw [pS, S_len, ptl_ne h], from_app _ _ rfl, pS_app ht, pS, ptl_ne ht, S_cat]
theorem child_txt {o : Pa} {n : List Nat} : pS (o ++ [n]) = if o = [] then S ([47] ++ n) else S (ptl o ++ ([47] ++ n)) := by
  cases o with
  | nil => simp [pS, ptl, seg]
  | cons m o =>
    rw [if_neg (List.cons_ne_nil _ _), pS_app (List.cons_ne_nil _ _)]
    simp [ptl, seg]
/-! ### kinds -/
/-- the path's last sign is f -/
def isF (p : Pa) : Bool := (ptl p).getLast? == some 102
theorem ptl_last {o : Pa} {n : List Nat} (hn : n ≠ []) : (ptl (o ++ [n])).getLast? = n.getLast? := by
  have h2 : o ++ [n] ≠ [] := fun e => nomatch (List.append_eq_nil_iff.mp e).2
  rw [ptl_ne h2, seg_app]
  obtain ⟨m, x, rfl⟩ : ∃ m x, n = m ++ [x] := ⟨n.dropLast, n.getLast hn, (List.dropLast_concat_getLast hn).symm⟩
  have e : seg o ++ seg [m ++ [x]] = (seg o ++ (47 :: m)) ++ [x] := by simp [seg]
  rw [e, List.getLast?_concat, List.getLast?_concat]
end K37
end
section
set_option Elab.async false
set_option linter.all false
set_option maxRecDepth 100000
set_option maxHeartbeats 4000000
/-! K3a: how defs are told; texts and paths. -/
namespace K37
open PySem PySem.Spec PyProof.Rows L2 StX ClX SX
open C8 (sl_txt rSlX)
/-- what a proof of a def stands over -/
structure Ct where
  P : Program
  w : World
  K : PySem.W.Frag
  mg : Str → Option Value
  base : Heap
  cR : Addr
  cA : Addr
  cP : Addr
  cJ : Addr
  cN : Addr
  cH : Addr
/-- the module's name x is a def that keeps a promise -/
def Has (c : Ct) (x : Str) (k : Nat) (sp : Sp) : Prop := ∃ f, c.mg x = some (.ref f) ∧ PySem.W.keepIn c.K (.ref f) = true ∧ FnR c.P c.w c.K c.mg c.base CX0 k f sp
/-- the module's name x is the def st (qual: its name where it was written) -/
def DefG (c : Ct) (x : Str) (name : Str) (st : Stmt) : Prop := ∃ f fd, c.mg x = some (.ref f) ∧ FunD c.K name name (defArgs st) (defBody st) (defScope st) [] [] f fd
/-- a def keeps what its body's reading says -/
theorem okD {c : Ct} {name qual : Str} {st : Stmt} {f : Addr} {fd : FuncData} {dvs : List V} {kws : List (Str × V)} {N ps : List Str} {k : Nat} {sp : Sp} (F : FunD c.K name qual (defArgs st) (defBody st) (defScope st) dvs kws f fd) (S : FnScope N ps (defScope st))
    (len : ∀ vs H Q E, sp vs H Q E → vs.length = ps.length)
    (body : ∀ (cdv : Value) (A : Around) (outer : List Env) (s : Shared) (H : Hp) (vs : List V) (Q : VK) (E : XK), Room k (A.deeper (envOfC qual (defScope st) s.heap.objs.size f cdv)) → sp vs H Q E →
      ∃ t, PSs (cxOf CX0 c.P c.w c.K c.mg c.base N qual (defScope st) f cdv A outer s H E).nox (defBody st) t ∧ t { nx := fun _ H' => Q .non H', rt := Q } (start N vs) H) : FnOk c.P c.w c.K c.mg c.base CX0 (k + 1) f fd ps sp := by
  refine F.ok S len ?_
  intro cdv A outer s H vs Q E hr h
  obtain ⟨t, ht, q⟩ := body cdv A outer s H vs Q E hr h
  exact ⟨t, ht.nox, q⟩
theorem Has.mk {c : Ct} {x name : Str} {st : Stmt} {f : Addr} {fd : FuncData} {k : Nat} {sp : Sp} {ps : List Str} (m : c.mg x = some (.ref f)) (F : FunD c.K name name (defArgs st) (defBody st) (defScope st) [] [] f fd) (G : FnOk c.P c.w c.K c.mg c.base CX0 k f fd ps sp)
    (h : ∀ (kV doc pm : Value) (an : Option Addr) (cdv ct : Value) (us : List Value), us.length = ps.length → bindArgs (PySem.W.fnOf name name (defArgs st) (defBody st) (defScope st) .none kV doc pm an cdv ct) ⟨us, []⟩ = pure (ps.zip us)) : Has c x k sp := by
  refine ⟨f, m, F.kp, ?_⟩
  refine (G.raw (F.bindsN h) .nil).imp ?_
  intro vs H Q E q
  rw [List.append_nil]
  exact q
/-! ### texts -/
/-- is_name of a text that is one -/
def spIsName : Sp := fun vs H Q _ => ∃ n, vs = [.str (S n)] ∧ okN n ∧ ∀ H', Same H H' → Q (.bl true) H'
structure TxW (c : Ct) : Prop where
  isin : c.mg "isinstance" = none
  str : c.mg "str" = none
  int : c.mg "int" = none
  bool : c.mg "bool" = none
  list : c.mg "list" = none
  dict : c.mg "dict" = none
  tuple : c.mg "tuple" = none
  len : c.mg "len" = none
  all : c.mg "all" = none
  any : c.mg "any" = none
  sorted : c.mg "sorted" = none
  enumerate : c.mg "enumerate" = none
  range : c.mg "range" = none
  set : c.mg "set" = none
  max : c.mg "max" = none
  min : c.mg "min" = none
  zip : c.mg "zip" = none
  most : ∃ t, c.mg "MOST_LETTERS" = some (.int 8 t)
  lets : ∃ t, c.mg "LETTERS_words" = some (.str "abcdefghijklmnopqrstuvwxyz" t)
  grd : ∃ t, c.mg "GROUND_words" = some (.str "/" t)
  is_name : DefG c "is_name" "is_name" s_is_name
  is_path : DefG c "is_path" "is_path" s_is_path
  need_path : DefG c "need_path_words" "need_path" s_need_path_words
  parts_of : DefG c "parts_of" "parts_of" s_parts_of
  path_by : DefG c "path_by" "path_by" s_path_by
  above : DefG c "above" "above" s_above
  is_below : DefG c "is_below" "is_below" s_is_below
theorem iteY {b : Bool} {A B : Prop} (h : b = true) (a : A) : if b = true then A else B := by
  rw [if_pos h]
  exact a
theorem iteN {b : Bool} {A B : Prop} (h : b = false) (a : B) : if b = true then A else B := by
  rw [if_neg (by rw [h]; decide)]
  exact a
theorem smL {n : Nat} (h : n ≤ 100000) : n ≤ sizeLine := Nat.le_trans h (by decide)
theorem smT {n : Nat} (h : n ≤ 100000) : n < sizeLine := Nat.lt_of_le_of_lt h (by decide)
theorem same_upd {H : Hp} {p : Addr} {o : HO} (h : H p = none) : Same H (upd H p o) := fun b x e => by
  rw [upd_ne (ne_of_none e h)]
  exact e
theorem same_new {H H' : Hp} {p : Addr} {o : HO} (s : Same H H') (h : H p = none) : Same H (upd H' p o) := fun b x e => by
  rw [upd_ne (ne_of_none e h)]
  exact s b x e
theorem nn {H : Hp} {r D : Addr} {o : HO} (h : upd H r o D = none) : H D = none := by
  by_cases e : D = r
  · subst e; rw [upd_same] at h; cases h
  · rwa [upd_ne e] at h
theorem upd_old {H : Hp} {b r : Addr} {o x : HO} (h : H b = some x) (hr : H r = none) : upd H r o b = some x := by
  rw [upd_ne (ne_of_none h hr)]
  exact h
theorem _root_.L2.Same.none {H H' : Hp} {b : Addr} (s : Same H H') (h : H' b = none) : H b = none := by
  cases e : H b with
  | none => rfl
  | some x => rw [s b x e] at h; cases h
theorem lets_all {n : List Nat} {x : Nat} (h : okN n) (m : x ∈ n) : x ∈ (Str.ofString "abcdefghijklmnopqrstuvwxyz").cps.toList := by
  have h1 := h.2.2 x m
  have h2 : ∀ y, y < 123 → 97 ≤ y → y ∈ (Str.ofString "abcdefghijklmnopqrstuvwxyz").cps.toList := by decide +kernel
  exact h2 x (by omega) h1.1
theorem rep_map (n : Nat) : List.replicate n (V.bl true) = (List.replicate n true).map V.bl := by rw [List.map_replicate]
theorem all_rep (n : Nat) : (List.replicate n true).all id = true := by simp
abbrev N_is_name : List Str := ["value", "sign"]
theorem ok_is_name {c : Ct} (T : TxW c) : Has c "is_name" 1 spIsName := by
  obtain ⟨f, fd, m, F⟩ := T.is_name
  obtain ⟨t1, e1⟩ := T.most
  obtain ⟨t2, e2⟩ := T.lets
  refine Has.mk m F (ps := ["value"]) (okD F sc_is_name ?_ ?_) (fun _ _ _ _ _ _ us hl => match us, hl with | [_], _ => rfl)
  · rintro vs H Q E ⟨n, rfl, _⟩
    rfl
  · rintro cdv A outer s H vs Q E hr ⟨n, rfl, ok, k⟩
    refine ⟨_, pss_cons (ps_if (PW.pt (pw_or (pt_not (pt_val (pe_callB call_isi rfl T.isin boot_isinstance (pa_cons (pv 0) (pa_cons (pe_bltn (v := .ty "str") rfl T.str boot_str rfl) pa_nil)))))
      (pw_or1 (pt_not (pt_chain op_le op_le pe_int (pe_callB call_len_str rfl T.len PySem.boot_len (pa_cons (pv 0) pa_nil)) (pe_glob (v := .int 8) rfl e1 ⟨_, rfl⟩)))))) (pss_one (ps_ret pe_bl)) pss_nil)
      (pss_one (ps_ret (pe_callB (cr_all rfl) rfl T.all (by decide +kernel) (pa_cons (pe_lc (own := [("sign", 1)]) (g := gName 1) (tt := tYes) rfl sc_is_name.nd (pi_str (pv 0)) (blkOk_by (N := N_is_name) (sc := defScope s_is_name) (by decide +kernel)) (fun _ _ _ _ _ => pg_name (i := 1) sc_is_name.nd rfl (Or.inl rfl)) (fun _ _ _ _ _ => pts_nil) (fun _ _ _ _ _ => pe_cmpR op_in_sign (pv 1) (pe_glob (v := .str "abcdefghijklmnopqrstuvwxyz") rfl e2 ⟨_, rfl⟩) rfl)) pa_nil)))), ?_⟩
    refine ⟨.str (S n), rfl, _, _, _, _, true, rfl, .ty _, .base (.str _), kit_ty (by decide +kernel), true, rfl, iteF ⟨.str (S n), rfl, S n, rfl, ?_⟩⟩
    have hl : (S n).length = n.length := S_len n
    have h1 := ok.1
    have h2 := ok.2.1
    refine ⟨smL (by rw [hl]; omega), 1, _, rfl, rfl, _, rfl, iteY (decide_eq_true (by rw [hl]; omega)) ⟨_, 8, rfl, rfl, _, rfl, ?_⟩⟩
    refine iteN (by rw [decide_eq_true (by rw [hl]; omega)]; rfl) ?_
    refine ⟨.str (S n), rfl, S n, rfl, fun D nD => lc_it (walk_str (z := S n)) (fun i H1 => Same H H1 ∧ H1 D = some (.lst (List.replicate i (.bl true)))) ⟨same_upd nD, upd_same⟩ (fun _ _ _ _ => trivial) ?_ ?_⟩
    · rintro i x H1 H2 hi ⟨sm, eD⟩ ⟨rfl, x, ex, rfl⟩
      have mx : x ∈ n := by
        have : n.toArray[i]? = some x := ex
        rw [List.getElem?_toArray] at this
        exact List.mem_of_getElem? this
      have hi' : i < n.length := by
        have h : (S n).cps.size = n.length := by simp [S]
        omega
      refine ⟨rfl, _, rfl, x, _, rfl, rfl, _, eD, ?_, ?_, ?_⟩
      · rw [List.length_replicate]
        exact smT (by omega)
      · exact same_new sm nD
      · rw [upd_same, decide_eq_true (lets_all ok mx), ← List.replicate_succ']
    · rintro H1 ⟨sm, eD⟩
      refine ⟨D, _, rfl, SqL.of (by rw [← rep_map]; exact eD), ?_⟩
      rw [all_rep]
      exact k _ sm
/-! ### paths -/
def psV (p : Pa) : List V := (p.map S).map V.str
theorem psV_len (p : Pa) : (psV p).length = p.length := by simp [psV]
theorem psV_get {p : Pa} {i : Nat} {v : V} (h : (psV p)[i]? = some v) : ∃ n, p[i]? = some n ∧ v = .str (S n) := by
  unfold psV at h
  rw [List.map_map, List.getElem?_map] at h
  cases e : p[i]? with
  | none => rw [e] at h; cases h
  | some n => rw [e] at h; exact ⟨n, rfl, (Option.some.inj h).symm⟩
/-- is_path, need_path of a path's text -/
def spIsPath : Sp := fun vs H Q _ => ∃ p, vs = [.str (pS p)] ∧ okP p ∧ ∀ H', Same H H' → Q (.bl true) H'
def spNeedPath : Sp := fun vs H Q _ => ∃ p, vs = [.str (pS p)] ∧ okP p ∧ ∀ H', Same H H' → Q .non H'
def spParts : Sp := fun vs H Q _ => ∃ p, vs = [.str (pS p)] ∧ okP p ∧ ∀ H' r, Same H H' → H r = none → H' r = some (.lst (psV p)) → Q (.ref r) H'
def spPathBy (K : PySem.W.Frag) : Sp := fun vs H Q _ => ∃ r p, vs = [.ref r] ∧ SqL K H r (psV p) ∧ okP p ∧ Q (.str (pS p)) H
abbrev N_is_path : List Str := ["value", "name"]
theorem ok_is_path {c : Ct} (T : TxW c) : Has c "is_path" 2 spIsPath := by
  obtain ⟨f, fd, m, F⟩ := T.is_path
  obtain ⟨t2, e2⟩ := T.grd
  obtain ⟨fN, mN, kN, GN⟩ := ok_is_name T
  refine Has.mk m F (ps := ["value"]) (okD F sc_is_path ?_ ?_) (fun _ _ _ _ _ _ us hl => match us, hl with | [_], _ => rfl)
  · rintro vs H Q E ⟨n, rfl, _⟩
    rfl
  · rintro cdv A outer s H vs Q E hr ⟨p, rfl, ok, k⟩
    refine ⟨_, pss_cons (ps_if (PW.pt (pw_or (pt_not (pt_val (pe_callB call_isi rfl T.isin boot_isinstance (pa_cons (pv 0) (pa_cons (pe_bltn (v := .ty "str") rfl T.str boot_str rfl) pa_nil)))))
      (pw_or1 (pt_not (pt_val (pe_bm PySem.F.plainAttrs_str PySem.F.slot_str_startswith PySem.F.type_str_startswith mt_startswith (pv 0) (pa_cons ((pe_glob (v := .str "/") rfl e2 ⟨_, rfl⟩)) pa_nil))))))) (pss_one (ps_ret pe_bl)) pss_nil)
      (pss_one (ps_ret (pe_or (pe_cmpR op_eq (pv 0) (pe_glob (v := .str "/") rfl e2 ⟨_, rfl⟩) rfl) (pe_one (pe_callB (cr_all rfl) rfl T.all (by decide +kernel) (pa_cons (pe_lc (own := [("name", 1)]) (g := gName 1) (tt := tYes) rfl sc_is_path.nd (pi_list (pe_bm PySem.F.plainAttrs_str PySem.F.slot_str_split PySem.F.type_str_split mt_split (pe_slice sl_txt (pv 0) (po_some pe_int) po_none) (pa_cons ((pe_glob (v := .str "/") rfl e2 ⟨_, rfl⟩)) pa_nil))) (blkOk_by (N := N_is_path) (sc := defScope s_is_path) (by decide +kernel)) (fun _ _ _ _ _ => pg_name (i := 1) sc_is_path.nd rfl (Or.inl rfl)) (fun _ _ _ _ _ => pts_nil) (fun _ _ _ _ _ => pe_cR GN hr (by decide) kN rfl mN (pa_cons (pv 1) pa_nil))) pa_nil)))))), ?_⟩
    refine ⟨.str (pS p), rfl, _, _, _, _, true, rfl, .ty _, .base (.str _), kit_ty (by decide +kernel), true, rfl, .str (pS p), rfl, rfl, pS p, _, rfl, rfl, _, rfl, iteN (by rw [starts_ground]; rfl) ?_⟩
    refine ⟨.str (pS p), rfl, rfl, _, rfl, ?_⟩
    rw [pS_ground ok]
    by_cases e : p = []
    · refine iteY (decide_eq_true e) (k _ fun _ _ z => z)
    · refine iteN (decide_eq_false e) ?_
      refine ⟨.str (pS p), rfl, 1, rfl, pS p, rfl, smL (by have := ok.slen; omega), rfl, _, _, rfl, rfl, by decide, ?_, ?_⟩
      · rw [slice1, S_len]
        have := join_len ok
        exact smL (by omega)
      · rw [slice1, split_path ok.2 e]
        intro r nr
        refine ⟨r, rfl, ⟨psV p, SqL.of upd_same⟩, fun D nD => lc_it (walk_list (xs := psV p)) (fun i H1 => Same H H1 ∧ H1 r = some (.lst (psV p)) ∧ H1 D = some (.lst (List.replicate i (.bl true)))) ⟨same_new (same_upd nr) (nn nD), upd_old upd_same nD, upd_same⟩ (fun _ _ _ q => SqL.of q.2.1) ?_ ?_⟩
        · rintro i x H1 H2 hi ⟨sm, eR, eD⟩ ⟨rfl, ex⟩
          obtain ⟨n, en, rfl⟩ := psV_get ex
          rw [psV_len] at hi
          refine ⟨rfl, _, rfl, n, rfl, ok.2 n (List.mem_of_getElem? en), fun H3 sm3 => ⟨_, sm3 _ _ eD, ?_, ?_, ?_, ?_⟩⟩
          · rw [List.length_replicate]
            have := ok.1
            exact smT (by omega)
          · exact same_new (sm.trans sm3) (nn nD)
          · rw [upd_ne (fun e => by subst e; rw [upd_same] at nD; cases nD)]
            exact sm3 _ _ eR
          · rw [upd_same, ← List.replicate_succ']
        · rintro H1 ⟨sm, eR, eD⟩
          refine ⟨D, _, rfl, SqL.of (by rw [← rep_map]; exact eD), ?_⟩
          rw [all_rep]
          exact k _ sm
theorem ok_need_path {c : Ct} (T : TxW c) : Has c "need_path_words" 3 spNeedPath := by
  obtain ⟨f, fd, m, F⟩ := T.need_path
  obtain ⟨fI, mI, kI, GI⟩ := ok_is_path T
  refine Has.mk m F (ps := ["path"]) (okD F sc_need_path_words ?_ ?_) (fun _ _ _ _ _ _ us hl => match us, hl with | [_], _ => rfl)
  · rintro vs H Q E ⟨n, rfl, _⟩
    rfl
  · rintro cdv A outer s H vs Q E hr ⟨p, rfl, ok, k⟩
    refine ⟨_, pss_one (ps_if (pt_not (pt_val (pe_cR GI hr (by decide) kI rfl mI (pa_cons (pv 0) pa_nil)))) pss_never pss_nil), ?_⟩
    exact ⟨_, rfl, p, rfl, ok, fun H' sm => ⟨_, rfl, iteN rfl (k _ sm)⟩⟩
/-- the path itself: [] at the ground -/
theorem ok_parts_of {c : Ct} (T : TxW c) : Has c "parts_of" 4 spParts := by
  obtain ⟨f, fd, m, F⟩ := T.parts_of
  obtain ⟨t2, e2⟩ := T.grd
  obtain ⟨fI, mI, kI, GI⟩ := ok_need_path T
  refine Has.mk m F (ps := ["path"]) (okD F sc_parts_of ?_ ?_) (fun _ _ _ _ _ _ us hl => match us, hl with | [_], _ => rfl)
  · rintro vs H Q E ⟨n, rfl, _⟩
    rfl
  · rintro cdv A outer s H vs Q E hr ⟨p, rfl, ok, k⟩
    refine ⟨_, pss_cons (ps_expr (pe_cR GI hr (by decide) kI rfl mI (pa_cons (pv 0) pa_nil))) (pss_cons (ps_if (pt_cmpR op_eq (pv 0) (pe_glob (v := .str "/") rfl e2 ⟨_, rfl⟩) (nomark _)) (pss_one (ps_ret (pe_lst pa_nil))) pss_nil) (pss_one (ps_ret (pe_bm PySem.F.plainAttrs_str PySem.F.slot_str_split PySem.F.type_str_split mt_split (pe_slice sl_txt (pv 0) (po_some pe_int) po_none) (pa_cons ((pe_glob (v := .str "/") rfl e2 ⟨_, rfl⟩)) pa_nil))))), ?_⟩
    refine ⟨_, rfl, p, rfl, ok, fun H1 sm => ⟨_, rfl, rfl, _, rfl, ?_⟩⟩
    rw [pS_ground ok]
    by_cases e : p = []
    · subst e
      refine iteY (decide_eq_true rfl) ⟨Nat.zero_le _, fun r nr => ?_⟩
      exact k _ r (same_new sm (sm.none nr)) (sm.none nr) upd_same
    · refine iteN (decide_eq_false e) ?_
      refine ⟨.str (pS p), rfl, 1, rfl, pS p, rfl, smL (by have := ok.slen; omega), rfl, _, _, rfl, rfl, by decide, ?_, ?_⟩
      · rw [slice1, S_len]
        have := join_len ok
        exact smL (by omega)
      · rw [slice1, split_path ok.2 e]
        intro r nr
        exact k _ r (same_new sm (sm.none nr)) (sm.none nr) upd_same
theorem names_sum : ∀ (p : Pa), (∀ n ∈ p, okN n) → ((p.map S).map (·.length)).sum ≤ 8 * p.length
  | [], _ => Nat.le_refl _
  | n :: p, h => by
    have h1 := names_sum p fun m hm => h m (List.mem_cons_of_mem _ hm)
    have h2 := (h n List.mem_cons_self).2.1
    rw [List.map_cons, List.map_cons, List.sum_cons, S_len, List.length_cons]
    omega
theorem ok_path_by {c : Ct} (T : TxW c) : Has c "path_by" 1 (spPathBy c.K) := by
  obtain ⟨f, fd, m, F⟩ := T.path_by
  obtain ⟨t2, e2⟩ := T.grd
  refine Has.mk m F (ps := ["names"]) (okD F sc_path_by ?_ ?_) (fun _ _ _ _ _ _ us hl => match us, hl with | [_], _ => rfl)
  · rintro vs H Q E ⟨r, p, rfl, _⟩
    rfl
  · rintro cdv A outer s H vs Q E hr ⟨r, p, rfl, hs, ok, k⟩
    refine ⟨_, pss_one (ps_ret (pe_op op_add_str (pe_glob (v := .str "/") rfl e2 ⟨_, rfl⟩) (pe_bm PySem.F.plainAttrs_str PySem.F.slot_str_join PySem.F.type_str_join mt_join ((pe_glob (v := .str "/") rfl e2 ⟨_, rfl⟩)) (pa_cons (pv 0) pa_nil)))), ?_⟩
    refine ⟨rfl, _, rfl, _, r, p.map S, rfl, rfl, .inl hs, ?_, _, _, rfl, rfl, ?_, ?_⟩
    · have h1 := names_sum p ok.2
      have h2 := ok.1
      rw [List.length_map, show (Str.ofString "/").length = 1 from rfl]
      omega
    · rw [sl47, join_S, S_len, S_len]
      have := join_len ok
      exact smL (by show 1 + _ ≤ _; omega)
    · rw [join_path]
      exact k
/-- p :: the path above n -/
def spAbove : Sp := fun vs H Q _ => ∃ p n, vs = [.str (pS (p ++ [n]))] ∧ okP (p ++ [n]) ∧ ∀ H', Same H H' → Q (.str (pS p)) H'
theorem okP.init {p q : Pa} (h : okP (p ++ q)) : okP p := ⟨by have := h.1; rw [List.length_append] at this; omega, fun n hn => h.2 n (List.mem_append_left _ hn)⟩
theorem ok_above {c : Ct} (T : TxW c) : Has c "above" 5 spAbove := by
  obtain ⟨f, fd, m, F⟩ := T.above
  obtain ⟨fI, mI, kI, GI⟩ := ok_parts_of T
  obtain ⟨fB, mB, kB, GB⟩ := ok_path_by T
  refine Has.mk m F (ps := ["path"]) (okD F sc_above ?_ ?_) (fun _ _ _ _ _ _ us hl => match us, hl with | [_], _ => rfl)
  · rintro vs H Q E ⟨p, n, rfl, _⟩
    rfl
  · rintro cdv A outer s H vs Q E hr ⟨p, n, rfl, ok, k⟩
    refine ⟨_, pss_cons (ps_asg (pe_orT (pe_cR GI hr (by decide) kI rfl mI (pa_cons (pv 0) pa_nil)) (pe_one (pe_lst (pa_cons (pe_non) pa_nil)))) (pg_star (n := 2) (i := 0) rfl (pgs_star (pg_name (i := 1) sc_above.nd rfl (Or.inl rfl)) (pgs_cons (pg_name (i := 2) sc_above.nd rfl (Or.inl rfl)) pgs_nil)))) (pss_cons (ps_if (pt_cmpR op_isN (pv 2) pe_non (nomark _)) (pss_one (ps_ret pe_non)) pss_nil) (pss_one (ps_ret (pe_cR GB hr (by decide) kB rfl mB (pa_cons (pv 1) pa_nil))))), ?_⟩
    have hl : (psV (p ++ [n])).length = p.length + 1 := by rw [psV_len, List.length_append]; rfl
    refine ⟨_, rfl, p ++ [n], rfl, ok, fun H1 r sm nr er => ⟨true, .inl ⟨_, SqL.of er, ?_⟩, ?_⟩⟩
    · cases e : psV (p ++ [n]) with
      | nil => rw [e] at hl; cases hl
      | cons _ _ => rfl
    refine ⟨r, _, rfl, .inl (SqL.of er), by rw [hl]; omega, by have := ok.1; rw [List.length_append] at this; rw [hl]; simp at this; omega, ?_⟩
    intro D nD
    have eV : psV (p ++ [n]) = psV p ++ [.str (S n)] := by simp [psV]
    have eT : (psV (p ++ [n])).length + 1 - 2 = (psV p).length := by rw [hl, psV_len]; rfl
    rw [eT, eV, List.drop_zero, List.take_left, List.drop_left]
    refine ⟨_, _, rfl, _, _, rfl, rfl, ?_⟩
    refine ⟨_, rfl, rfl, _, rfl, ?_⟩
    refine ⟨_, rfl, D, p, rfl, SqL.of upd_same, ok.init, k _ (same_new sm (sm.none nD))⟩
def spBelow : Sp := fun vs H Q _ => ∃ p o, vs = [.str (pS p), .str (pS o)] ∧ okP p ∧ okP o ∧ ∀ H', Same H H' → Q (.bl (below p o)) H'
theorem dpAll_txt {K : PySem.W.Frag} {H : Hp} : ∀ p : Pa, DpAll K H (psV p) (p.map fun n => .str (S n))
  | [] => .nil
  | n :: p => .cons (.str _) (dpAll_txt p)
theorem txt_lay : ∀ p : Pa, (∀ n ∈ p, okN n) → PyData.canLayAll0 (p.map fun n => .str (S n)) = true
  | [], _ => by simp [PyData.canLayAll0]
  | n :: p, h => by
    have h1 := txt_lay p fun m hm => h m (List.mem_cons_of_mem _ hm)
    have h2 : PyData.strOk (S n) = true := by
      show (S n).cps.all (· < 0x110000) = true
      rw [← Array.all_toList, List.all_eq_true]
      intro x hx
      have := ((h n List.mem_cons_self).2.2 x hx).2
      exact decide_eq_true (by omega)
    simp only [List.map_cons, PyData.canLayAll0, PyData.canLay0, h1, h2, Bool.and_self]
theorem txt_depth : ∀ p : Pa, PyData.depthAll (p.map fun n => .str (S n)) ≤ 2
  | [] => by simp [PyData.depthAll]
  | n :: p => by
    have h1 := txt_depth p
    simp only [List.map_cons, PyData.depthAll, PyData.depth]
    omega
theorem txt_shaped {p : Pa} (h : ∀ n ∈ p, okN n) : SeqAt.shaped (.list (p.map fun n => .str (S n))) = true := by
  have h1 := txt_depth p
  have h2 : PyData.depth (.list (p.map fun n => .str (S n))) ≤ 64 := by
    simp only [PyData.depth]
    omega
  show (PyData.canLay0 _ && decide (PyData.depth _ ≤ 64)) = true
  rw [Bool.and_eq_true]
  exact ⟨by simp only [PyData.canLay0]; exact txt_lay p h, decide_eq_true h2⟩
theorem txt_eqv : ∀ p q : Pa, PyData.eqvAll (p.map fun n => .str (S n)) (q.map fun n => .str (S n)) = (p == q)
  | [], [] => rfl
  | [], _ :: _ => rfl
  | _ :: _, [] => rfl
  | n :: p, m :: q => by
    have h := txt_eqv p q
    simp only [List.map_cons, PyData.eqvAll, PyData.eqv, h, S_beq]
    rfl
theorem take_ok {p : Pa} (h : okP p) (k : Nat) : okP (p.take k) := ⟨Nat.le_trans (by rw [List.length_take]; exact Nat.min_le_right _ _) h.1, fun n hn => h.2 n (List.mem_of_mem_take hn)⟩
theorem cut_psV (p : Pa) (k : Nat) : cutV (psV p) none (some (k : Int)) = psV (p.take k) := by
  unfold cutV
  rw [HT.sIx_none, HT.sIx_nat, List.drop_zero, psV_len, Nat.sub_zero]
  unfold psV
  rw [← List.map_take, ← List.map_take]
  congr 2
  by_cases h : k ≤ p.length
  · rw [Nat.min_eq_left h]
  · rw [Nat.min_eq_right (by omega), List.take_length, List.take_of_length_le (by omega)]
theorem ok_is_below {c : Ct} (T : TxW c) : Has c "is_below" 5 spBelow := by
  obtain ⟨f, fd, m, F⟩ := T.is_below
  obtain ⟨fI, mI, kI, GI⟩ := ok_parts_of T
  refine Has.mk m F (ps := ["path", "other"]) (okD F sc_is_below ?_ ?_) (fun _ _ _ _ _ _ us hl => match us, hl with | [_, _], _ => rfl)
  · rintro vs H Q E ⟨p, n, rfl, _⟩
    rfl
  · rintro cdv A outer s H vs Q E hr ⟨p, o, rfl, okp, oko, k⟩
    refine ⟨_, pss_cons (ps_set (i := 2) sc_is_below.nd rfl (Or.inl rfl) (pe_cR GI hr (by decide) kI rfl mI (pa_cons (pv 0) pa_nil))) (pss_cons (ps_set (i := 3) sc_is_below.nd rfl (Or.inl rfl) (pe_cR GI hr (by decide) kI rfl mI (pa_cons (pv 1) pa_nil))) (pss_one (ps_ret (pe_and (pe_cmpR op_gt (pe_callB call_len_seq rfl T.len PySem.boot_len (pa_cons (pv 2) pa_nil)) (pe_callB call_len_seq rfl T.len PySem.boot_len (pa_cons (pv 3) pa_nil)) (nomark _)) (pe_one (pe_cmpR (op_eqD hr.units) (pe_slice sl_list (pv 2) po_none (po_some (pe_callB call_len_seq rfl T.len PySem.boot_len (pa_cons (pv 3) pa_nil)))) (pv 3) (nomark _))))))), ?_⟩
    refine ⟨_, rfl, p, rfl, okp, fun H1 r1 s1 n1 e1 => ?_⟩
    refine ⟨_, rfl, o, rfl, oko, fun H2 r2 s2 n2 e2 => ?_⟩
    have e1' := s2 _ _ e1
    refine ⟨_, rfl, r1, _, rfl, .inl (SqL.of e1'), _, rfl, r2, _, rfl, .inl (SqL.of e2), _, _, rfl, rfl, _, rfl, ?_⟩
    rw [psV_len, psV_len]
    by_cases hlt : o.length < p.length
    · refine iteY (decide_eq_true (by omega)) ?_
      refine ⟨_, rfl, _, rfl, r2, _, rfl, .inl (SqL.of e2), _, rfl, r1, _, rfl, SqL.of e1', fun r3 n3 => ?_⟩
      rw [psV_len, cut_psV]
      have e2' : (upd H2 r3 (.lst (psV (p.take o.length)))) r2 = some (.lst (psV o)) := upd_old e2 n3
      refine ⟨_, rfl, .list _, .list _, .lst (SqL.of upd_same) (dpAll_txt _), .lst (SqL.of e2') (dpAll_txt _), txt_shaped (take_ok okp _).2, txt_shaped oko.2, ?_⟩
      have e : PyData.eqv (.list ((p.take o.length).map fun n => .str (S n))) (.list (o.map fun n => .str (S n))) = below p o := by
        unfold below
        rw [decide_eq_true hlt]
        simp only [PyData.eqv, txt_eqv, Bool.true_and]
      rw [e]
      exact k _ (same_new (s1.trans s2) (s1.none (s2.none n3)))
    · refine iteN (decide_eq_false (by omega)) ?_
      have : below p o = false := by unfold below; rw [decide_eq_false hlt]; rfl
      rw [← this]
      exact k _ (s1.trans s2)
end K37
end
section
set_option Elab.async false
set_option linter.all false
set_option maxRecDepth 100000
set_option maxHeartbeats 4000000
/-! K3b: joined; rights. -/
namespace K37
open PySem PySem.Spec PyProof.Rows L2 StX ClX SX
open C8 (sl_txt rSlX)
/-- a def with a star parameter -/
theorem okStar {c : Ct} {name qual : Str} {st : Stmt} {f : Addr} {fd : FuncData} {N ps : List Str} {pv : Str} {k : Nat} {sp : Sp} (F : FunD c.K name qual (defArgs st) (defBody st) (defScope st) [] [] f fd) (S : FnScope N (ps ++ [pv]) (defScope st))
    (hb : ∀ (kV doc pm : Value) (an : Option Addr) (cdv ct : Value) (us rest : List Value), us.length = ps.length → bindArgs (PySem.W.fnOf name qual (defArgs st) (defBody st) (defScope st) .none kV doc pm an cdv ct) ⟨us ++ rest, []⟩ = (newTuple rest >>= fun t => pure (ps.zip us ++ [(pv, t)])))
    (body : ∀ (cdv : Value) (A : Around) (outer : List Env) (s : Shared) (H : Hp) (vs : List V) (Q : VK) (E : XK), Room k (A.deeper (envOfC qual (defScope st) s.heap.objs.size f cdv)) → sp vs H Q E →
      ∃ t, PSs (cxOf CX0 c.P c.w c.K c.mg c.base N qual (defScope st) f cdv A outer s H E).nox (defBody st) t ∧ t { nx := fun _ H' => Q .non H', rt := Q } (start N vs) H) :
    FnR c.P c.w c.K c.mg c.base CX0 (k + 1) f (fun vs H Q E => ∃ ws rest, vs = ws ++ rest ∧ ws.length = ps.length ∧ rest.length ≤ sizeLine ∧ ∀ p, H p = Option.none → sp (ws ++ [V.ref p]) (upd H p (.tup rest)) Q E) := by
  obtain ⟨oc, od, dV, kV, doc, pm, an, cdv, ct, osl, rfl, lk, hcd, dn, _⟩ := F.ex
  have eD : dV = .none := dn.elim (fun z => z.2) (fun z => absurd rfl z.1)
  subst eD
  refine fn_star lk hcd S cxUp_none (hb kV doc pm an cdv ct) ?_
  intro A outer s H vs Q E hr h
  obtain ⟨t, ht, q⟩ := body cdv A outer s H vs Q E hr h
  exact ⟨t, ht.nox, q⟩
/-- a def with a star parameter behind one -/
def spJoined : Sp := fun vs H Q _ => ∃ p r, vs = .str (pS p) :: psV r ∧ okP (p ++ r) ∧ ∀ H', Same H H' → Q (.str (pS (p ++ r))) H'
def spJoinedB (K : PySem.W.Frag) : Sp := fun vs H Q _ => ∃ p r t, vs = [.str (pS p), .ref t] ∧ H t = some (.tup (psV r)) ∧ okP (p ++ r) ∧ ∀ H', Same H H' → Q (.str (pS (p ++ r))) H'
theorem ok_joined {c : Ct} (T : TxW c) (J : DefG c "joined" "joined" s_joined) : Has c "joined" 5 spJoined := by
  obtain ⟨f, fd, m, F⟩ := J
  obtain ⟨fP, mP, kP, GP⟩ := ok_parts_of T
  obtain ⟨fB, mB, kB, GB⟩ := ok_path_by T
  obtain ⟨fN, mN, kN, GN⟩ := ok_is_name T
  refine ⟨f, m, F.kp, ?_⟩
  refine (okStar (ps := ["path"]) (pv := "names") (sp := spJoinedB c.K) (k := 4) F sc_joined (fun kV doc pm an cdv ct => bind_star1 (B := fun us => bindArgs (PySem.W.fnOf "joined" "joined" (defArgs s_joined) (defBody s_joined) (defScope s_joined) .none kV doc pm an cdv ct) ⟨us, []⟩) (p1 := "path") (pv := "names") (fun _ => rfl) (fun _ _ _ => rfl)) ?_).imp ?_
  · rintro cdv A outer s H vs Q E hr ⟨p, r, t, rfl, eT, ok, k⟩
    refine ⟨_, (pss_cons (ps_set (i := 2) sc_joined.nd rfl (Or.inl rfl) (pe_cR GP hr (by decide) kP rfl mP (pa_cons (pv 0) pa_nil))) (pss_cons (ps_for PassesOwn.never rfl (pi_tup (pv 1)) (pg_name (i := 3) sc_joined.nd rfl (Or.inl rfl)) (pss_cons (ps_if (pt_not (pt_val (pe_cR GN hr (by decide) kN rfl mN (pa_cons (pv 3) pa_nil)))) pss_never pss_nil) (pss_one (ps_expr (pe_bm PySem.F.plainAttrs_list PySem.F.slot_list_append PySem.F.type_list_append mt_append (pv 2) (pa_cons (pv 3) pa_nil)))))) (pss_one (ps_ret (pe_cR GB hr (by decide) kB rfl mB (pa_cons (pv 2) pa_nil)))))), ?_⟩
    refine ⟨_, rfl, p, rfl, ok.init, fun H1 d s1 n1 e1 => ?_⟩
    have eT1 := s1 _ _ eT
    refine ⟨_, rfl, t, rfl, ⟨_, SqT.of eT1⟩, for_it (walk_tup (xs := psV r)) (fun i σ H2 => ∃ y, σ = [some (.str (pS p)), some (.ref t), some (.ref d), y] ∧ Same H H2 ∧ H2 t = some (.tup (psV r)) ∧ H2 d = some (.lst (psV (p ++ r.take i)))) ⟨none, rfl, s1, eT1, ?_⟩ ?_ ?_ ?_⟩
    · rw [List.take_zero, List.append_nil]
      exact e1
    · rintro i σ H2 _ ⟨y, rfl, _, e, _⟩
      exact SqT.of e
    · rintro i x σ H2 H3 hi ⟨y, rfl, s2, et, ed⟩ ⟨rfl, ex⟩
      obtain ⟨n, en, rfl⟩ := psV_get ex
      refine ⟨_, rfl, n, rfl, ok.2 n (List.mem_append_right _ (List.mem_of_getElem? en)), fun H4 s4 => ⟨_, rfl, ?_⟩⟩
      have ed4 := s4 _ _ ed
      have et4 := s4 _ _ et
      have hd : d ≠ t := ne_of et4 ed4 (fun z => nomatch z) |>.symm
      refine ⟨_, rfl, .inl ⟨rfl, _, SqL.of ed4⟩, _, rfl, d, _, _, rfl, rfl, ed4, ?_, ?_⟩
      · have := ok.1
        rw [List.length_append] at this
        rw [psV_len, List.length_append, List.length_take]
        exact smT (by omega)
      · refine ⟨_, rfl, fun b x e => ?_, ?_, ?_⟩
        · have hb : b ≠ d := fun z => by subst z; rw [n1] at e; cases e
          rw [upd_ne hb]
          exact s4 _ _ (s2 _ _ e)
        · rw [upd_ne hd.symm]
          exact et4
        · rw [upd_same, List.take_add_one, en]
          simp [psV]
    · rintro σ H2 ⟨y, rfl, s2, et, ed⟩
      rw [psV_len, List.take_length] at ed
      exact ⟨_, rfl, d, p ++ r, rfl, SqL.of ed, ok, k _ s2⟩
  · rintro vs H Q E ⟨p, r, rfl, ok, k⟩
    refine ⟨[.str (pS p)], psV r, rfl, rfl, ?_, fun t nt => ⟨p, r, t, rfl, upd_same, ok, fun H' s' => k _ fun b x e => s' _ _ (upd_old e nt)⟩⟩
    have := ok.1
    rw [List.length_append] at this
    rw [psV_len]
    exact smL (by omega)
end K37
end
section
set_option Elab.async false
set_option linter.all false
set_option maxRecDepth 100000
set_option maxHeartbeats 4000000
/-! K3c: rights. -/
namespace K37
open PySem PySem.Spec PyProof.Rows L2 StX ClX SX
open C8 (sl_txt rSlX)
/-! ### classes -/
structure Cla (c : Ct) (name : Str) (C : Addr) (fs : List Str) : Prop where
  mg : c.mg name = some (.ref C)
  cl : Cls c.K C
  nf : ∀ f ∈ fs, NoAttr c.K C f
  ha : PySem.W.findIn c.K (.ref C) "__class__" = some (some (.builtin "object.__class__"))
  hn : PySem.W.specialIn c.K (.builtin "object.__class__") "__get__" = some (some (.builtin "getset_descriptor.__get__"))
  htk : PySem.W.takesIn c.K (.builtin "object.__class__") = some true
  hm : PySem.W.mroIn c.K C (.type "object") = some true
def MetD (c : Ct) (C : Addr) (m qual : Str) (st : Stmt) : Prop := ∃ f fd, Meth c.K C m f ∧ FunD c.K m qual (defArgs st) (defBody st) (defScope st) [] [] f fd
def ProD (c : Ct) (C : Addr) (m qual : Str) (st : Stmt) : Prop := ∃ p g fd, PropOf c.K C m p g ∧ FunD c.K m qual (defArgs st) (defBody st) (defScope st) [] [] g fd
def MkD (c : Ct) (C : Addr) (qual : Str) (st : Stmt) (dvs : List V) (kws : List (Str × V)) : Prop := ∃ f fd, Mk c.K C f ∧ FunD c.K "__init__" qual (defArgs st) (defBody st) (defScope st) dvs kws f fd
def CmD (c : Ct) (C : Addr) (m qual : Str) (st : Stmt) : Prop := ∃ mc p g fd, CRead c.K C mc ∧ CMet c.K C mc m p g ∧ FunD c.K m qual (defArgs st) (defBody st) (defScope st) [] [] g fd
def HasM (c : Ct) (C : Addr) (m : Str) (k : Nat) (sp : Sp) : Prop := ∃ f, Meth c.K C m f ∧ FnR c.P c.w c.K c.mg c.base CX0 k f sp
def HasPr (c : Ct) (C : Addr) (m : Str) (k : Nat) (sp : Sp) : Prop := ∃ p g fd ps, PropOf c.K C m p g ∧ FnOk c.P c.w c.K c.mg c.base CX0 k g fd ps sp ∧ Binds c.K fd ps []
def HasMk (c : Ct) (C : Addr) (k : Nat) (sp : Sp) : Prop := ∃ f, Mk c.K C f ∧ FnR c.P c.w c.K c.mg c.base CX0 k f sp
def HasC (c : Ct) (C : Addr) (m : Str) (k : Nat) (sp : Sp) : Prop := ∃ mc p g, CRead c.K C mc ∧ CMet c.K C mc m p g ∧ FnR c.P c.w c.K c.mg c.base CX0 k g sp
theorem rawN {c : Ct} {name qual : Str} {st : Stmt} {f : Addr} {fd : FuncData} {k : Nat} {sp : Sp} {ps : List Str} (F : FunD c.K name qual (defArgs st) (defBody st) (defScope st) [] [] f fd) (G : FnOk c.P c.w c.K c.mg c.base CX0 k f fd ps sp)
    (h : ∀ (kV doc pm : Value) (an : Option Addr) (cdv ct : Value) (us : List Value), us.length = ps.length → bindArgs (PySem.W.fnOf name qual (defArgs st) (defBody st) (defScope st) .none kV doc pm an cdv ct) ⟨us, []⟩ = pure (ps.zip us)) : FnR c.P c.w c.K c.mg c.base CX0 k f sp :=
  (G.raw (F.bindsN h) .nil).imp fun vs H Q E q => by
    rw [List.append_nil]
    exact q
theorem tyOf {c : Ct} {name : Str} {C : Addr} {fs : List Str} (T : Cla c name C fs) {H : Hp} {a dx : Addr} {l : List (Str × V)} (e : H a = some (.ins C dx l)) : TyX c.K H (.ref a) (.ref C) := .base (.ins e T.cl T.ha T.hn T.htk T.hm)
theorem kit_same {K : PySem.W.Frag} {C : Addr} : PySem.W.kitOne K (.ref C) (.ref C) = some true := by
  unfold PySem.W.kitOne
  rw [if_pos (by simp)]
/-! ### rights -/
def wT (d : Nat) : Str := wds.getD d ""
def bitC (x : Nat) : Nat := if x = 114 then 4 else if x = 119 then 2 else if x = 120 then 1 else 0
def fnd (d i : Nat) : Nat := ((wT d).cps.toList.take i).foldl (fun a x => a + bitC x) 0
theorem wT_facts : ∀ d, d < 8 → ∀ i, i < (wT d).cps.size → (∃ x, (wT d).cps[i]? = some x ∧ (x = 114 ∨ x = 119 ∨ x = 120) ∧ Builtin.bitAnd (fnd d i : Int) (bitC x : Int) = 0 ∧ Builtin.bitOr (fnd d i : Int) (bitC x : Int) = (fnd d (i + 1) : Int)) := by
  have h : ∀ d, d < 8 → ∀ i, i < (wT d).cps.size → (match (wT d).cps[i]? with | none => false | some x => decide ((x = 114 ∨ x = 119 ∨ x = 120) ∧ Builtin.bitAnd (fnd d i : Int) (bitC x : Int) = 0 ∧ Builtin.bitOr (fnd d i : Int) (bitC x : Int) = (fnd d (i + 1) : Int))) = true := by decide +kernel
  intro d hd i hi
  have q := h d hd i hi
  cases e : (wT d).cps[i]? with
  | none => rw [e] at q; cases q
  | some x =>
    rw [e] at q
    exact ⟨x, rfl, of_decide_eq_true q⟩
theorem fnd_all : ∀ d, d < 8 → fnd d (wT d).cps.size = d := by decide +kernel
theorem wT_len : ∀ d, d < 8 → (wT d).length ≤ 3 := by decide +kernel
theorem wT_at {d : Nat} (h : d < 8) : atI (wds.map V.str) (d : Int) = some (.str (wT d)) := by
  have h1 : ∀ d, d < 8 → (wds.map V.str)[d]? = some (.str (wT d)) := by decide +kernel
  exact atI_nat (h1 d h)
structure TxR (c : Ct) : Prop extends TxW c where
  bits : ∃ d es n, c.mg "BITS" = some (.ref d) ∧ KDict c.K c.w d es n ∧ ∀ x, (x = 114 ∨ x = 119 ∨ x = 120) → ∃ t, PySem.W.nsIn c.K d ⟨#[x]⟩ = some (some (.int (bitC x) t))
  words : ∃ t, c.mg "WORDS" = some (.ref t) ∧ ∀ H, SqT c.K H t (wds.map V.str)
  digit_of : DefG c "digit_of" "digit_of" s_digit_of
  clR : Cla c "Rights" c.cR ["own_digit", "own_letters"]
  strR : PySem.W.kitOne c.K (.type "str") (.ref c.cR) = some false
  mkR : MkD c c.cR "Rights.__init__" s_R_init [.str ""] []
  from_digit : CmD c c.cR "from_digit" "Rights.from_digit" s_R_from_digit
  of : CmD c c.cR "of" "Rights.of" s_R_of
  digit : ProD c c.cR "digit" "Rights.digit" s_R_digit
  subR : ∃ g fd, PySem.W.findIn c.K (.ref c.cR) (PySem.dunder Operator.Sub.info.2) = some (some (.ref g)) ∧ PySem.W.isFn c.K (.ref g) = true ∧ PySem.W.selfFirst c.K c.cR = true ∧ FunD c.K "__sub__" "Rights.__sub__" (defArgs s_R_sub) (defBody s_R_sub) (defScope s_R_sub) [] [] g fd
  digit_in : DefG c "digit_in" "digit_in" s_digit_in
  is_rights : DefG c "is_rights" "is_rights" s_is_rights
  as_rights : DefG c "as_rights" "as_rights" s_as_rights
def spDigitOf : Sp := fun vs H Q _ => ∃ d, d < 8 ∧ vs = [.str (wT d)] ∧ ∀ H', Same H H' → Q (.int d) H'
theorem ok_digit_of {c : Ct} (T : TxR c) : Has c "digit_of" 1 spDigitOf := by
  obtain ⟨f, fd, m, F⟩ := T.digit_of
  obtain ⟨dB, es, n, eB, DB, fB⟩ := T.bits
  refine Has.mk m F (ps := ["text"]) (okD F sc_digit_of ?_ ?_) (fun _ _ _ _ _ _ us hl => match us, hl with | [_], _ => rfl)
  · rintro vs H Q E ⟨d, _, rfl, _⟩
    rfl
  · rintro cdv A outer s H vs Q E hr ⟨d, hd, rfl, k⟩
    refine ⟨_, pss_cons (ps_if (pt_not (pt_val (pe_callB call_isi rfl T.isin boot_isinstance (pa_cons (pv 0) (pa_cons (pe_bltn (v := .ty "str") rfl T.str boot_str rfl) pa_nil))))) (pss_one (ps_ret pe_non)) pss_nil) (pss_cons (ps_set (i := 1) sc_digit_of.nd rfl (Or.inl rfl) (pe_int)) (pss_cons (ps_for PassesOwn.never rfl (pi_str (pv 0)) (pg_name (i := 2) sc_digit_of.nd rfl (Or.inl rfl)) (pss_cons (ps_set (i := 3) sc_digit_of.nd rfl (Or.inl rfl) (pe_kget2 DB (pe_glob (v := .ref dB) rfl eB rfl) (pv 2) pe_int ⟨by rfl, by rfl, by rfl, by rfl⟩)) (pss_cons (ps_if (PW.pt (pw_or (pt_cmpR op_eq (pv 3) pe_int (nomark _)) (pw_or1 (pt_cmpR op_gt (pe_op op_and (pv 1) (pv 3)) pe_int (nomark _))))) (pss_one (ps_ret pe_non)) pss_nil) (pss_one (ps_set (i := 1) sc_digit_of.nd rfl (Or.inl rfl) (pe_op op_or (pv 1) (pv 3))))))) (pss_one (ps_ret (pv 1))))), ?_⟩
    refine ⟨_, rfl, _, _, _, _, true, rfl, .ty _, .base (.str _), kit_ty (by decide +kernel), true, rfl, _, rfl, _, rfl, for_it walk_str (fun i σ H2 => ∃ y z, σ = [some (.str (wT d)), some (.int (fnd d i)), y, z] ∧ Same H H2) ⟨none, none, rfl, fun _ _ e => e⟩ (fun _ _ _ _ _ => trivial) ?_ ?_⟩
    · rintro i x σ H2 H3 hi ⟨y, z, rfl, sm⟩ ⟨rfl, x, ex, rfl⟩
      obtain ⟨x', ex', hx, hand, hor⟩ := wT_facts d hd i hi
      cases ex'.symm.trans ex
      obtain ⟨t, et⟩ := fB x hx
      refine ⟨rfl, _, rfl, _, _, some (.int (bitC x)), rfl, et, ⟨_, rfl⟩, ?_⟩
      have hb : bitC x ≠ 0 := by rcases hx with rfl | rfl | rfl <;> decide
      refine ⟨_, rfl, rfl, _, rfl, iteN (decide_eq_false fun z => hb (by have := V.int.inj z; omega)) ?_⟩
      refine ⟨_, rfl, _, rfl, _, _, rfl, rfl, _, _, rfl, rfl, _, rfl, iteN (decide_eq_false (by rw [hand]; decide)) ?_⟩
      refine ⟨_, rfl, _, rfl, _, _, rfl, rfl, ?_⟩
      exact ⟨_, _, by rw [← hor]; rfl, sm⟩
    · rintro σ H2 ⟨y, z, rfl, sm⟩
      refine ⟨_, rfl, ?_⟩
      rw [fnd_all d hd]
      exact k _ sm
/-- rights at a -/
def RtAt (c : Ct) (H : Hp) (a : Addr) (d : Nat) : Prop := ∃ dx l, H a = some (.ins c.cR dx [("own_digit", .int d), ("own_letters", .ref l)]) ∧ d < 8
theorem RtAt.same {c : Ct} {H H' : Hp} {a : Addr} {d : Nat} (h : RtAt c H a d) (s : Same H H') : RtAt c H' a d := by
  obtain ⟨dx, l, e, hd⟩ := h
  exact ⟨dx, l, s _ _ e, hd⟩
theorem RtAt.lt {c : Ct} {H : Hp} {a : Addr} {d : Nat} (h : RtAt c H a d) : d < 8 := by
  obtain ⟨_, _, _, h⟩ := h
  exact h
/-- all but a as it was -/
def SameX (a : Addr) (H H' : Hp) : Prop := ∀ b o, b ≠ a → H b = some o → H' b = some o
theorem sameX_upd {H : Hp} {a : Addr} {o : HO} : SameX a H (upd H a o) := fun b x hb e => by
  rw [upd_ne hb]
  exact e
theorem _root_.L2.Same.toX {H H' : Hp} {a : Addr} (s : Same H H') : SameX a H H' := fun b o _ e => s b o e
theorem SameX.trans {H H1 H2 : Hp} {a : Addr} (s : SameX a H H1) (t : SameX a H1 H2) : SameX a H H2 := fun b o hb e => t b o hb (s b o hb e)
/-- a new object's making: all as it was -/
theorem SameX.made {H H' : Hp} {a dx C : Addr} {l : List (Str × V)} (s : SameX a (upd (upd H dx (.own a)) a (.ins C dx l)) H') (na : H a = none) (nd : H dx = none) : Same H H' := fun b o e => by
  have h1 : b ≠ a := ne_of_none e na
  have h2 : b ≠ dx := ne_of_none e nd
  refine s b o h1 ?_
  rw [upd_ne h1, upd_ne h2]
  exact e
theorem SameX.new {H H1 : Hp} {a p : Addr} {o : HO} (s : SameX a H H1) (n : H1 p = none) : SameX a H (upd H1 p o) := fun b x hb e => upd_old (s b x hb e) n
theorem SameX.put {H H1 : Hp} {a : Addr} {o : HO} (s : SameX a H H1) : SameX a H (upd H1 a o) := s.trans sameX_upd
theorem SameX.step {H H1 H2 : Hp} {a : Addr} (s : SameX a H H1) (t : Same H1 H2) : SameX a H H2 := s.trans t.toX
def spRInit (c : Ct) : Sp := fun vs H Q _ => ∃ a d dx, d < 8 ∧ vs = [.ref a, .str (wT d)] ∧ H a = some (.ins c.cR dx []) ∧ ∀ H', SameX a H H' → RtAt c H' a d → Q .non H'
theorem mk_R {c : Ct} (T : TxR c) : HasMk c c.cR 2 (spRInit c) := by
  obtain ⟨f, fd, M, F⟩ := T.mkR
  obtain ⟨fD, mD, kD, GD⟩ := ok_digit_of T
  obtain ⟨tW, eW, SW⟩ := T.words
  have C := T.clR
  have G : FnOk c.P c.w c.K c.mg c.base CX0 2 f fd ["self", "letters"] (spRInit c) := okD F sc_R_init ?_ ?_
  · obtain ⟨ds, hv, hb⟩ := F.binds1 (ps := ["self", "letters"]) 2 1 (by simp) rfl (fun T kV doc pm an cdv ct us its h1 h2 => match us, its, h1, h2 with | [_, _], [_], _, _ => ⟨_, rfl, rfl⟩)
    exact ⟨f, M, (G.raw hb hv).imp fun vs H Q E q => by
      rw [show ([V.str ""] : List V).drop 1 = [] from rfl, List.append_nil]
      exact q⟩
  · rintro vs H Q E ⟨a, d, dx, _, rfl, _⟩
    rfl
  · rintro cdv A outer s H vs Q E hr ⟨a, d, dx, hd, rfl, ea, k⟩
    refine ⟨_, pss_cons (ps_set (i := 2) sc_R_init.nd rfl (Or.inl rfl) (pe_cR GD hr (by decide) kD rfl mD (pa_cons (pv 1) pa_nil))) (pss_cons (ps_if (pt_cmpR op_isN (pv 2) pe_non (nomark _)) pss_never pss_nil) (pss_cons (ps_fld (pv 0) (pv 2) rfl) (pss_one (ps_fld (pv 0) (pe_callTy (call_listS rfl) rfl T.list (by decide +kernel) (pa_cons (pe_ix ix_tup (pe_glob (v := .ref tW) rfl eW rfl) (pv 2) (fun _ _ => rfl)) pa_nil)) rfl)))), ?_⟩
    refine ⟨_, rfl, d, hd, rfl, fun H1 s1 => ⟨_, rfl, rfl, _, rfl, iteN rfl ?_⟩⟩
    have e1 := s1 _ _ ea
    refine ⟨_, rfl, _, rfl, a, c.cR, dx, [], rfl, e1, C.cl, C.nf _ (by decide), by simp, ?_⟩
    refine ⟨_, rfl, _, _, _, _, rfl, rfl, SW _, wT_at hd, _, rfl, ?_⟩
    refine ⟨smL (by have := wT_len d hd; omega), fun p np => ?_⟩
    have hpa : a ≠ p := ne_of_none upd_same np
    refine ⟨_, rfl, a, c.cR, dx, [("own_digit", .int d)], rfl, by rw [upd_ne hpa]; exact upd_same, C.cl, C.nf _ (by decide), by simp, ?_⟩
    exact k _ ((s1.toX.put.new np).put) ⟨dx, p, upd_same, hd⟩
/-- a new Rights of a word, of a digit, of rights -/
def spRDig (c : Ct) : Sp := fun vs H Q _ => ∃ d : Nat, d < 8 ∧ vs = [.ref c.cR, .int d] ∧ ∀ H' x, Same H H' → H x = none → RtAt c H' x d → Q (.ref x) H'
theorem ok_from_digit {c : Ct} (T : TxR c) : HasC c c.cR "from_digit" 4 (spRDig c) := by
  obtain ⟨mc, p, f, fd, CR, CM, F⟩ := T.from_digit
  obtain ⟨fI, MI, GI⟩ := mk_R T
  obtain ⟨tW, eW, SW⟩ := T.words
  refine ⟨mc, p, f, CR, CM, rawN (ps := ["cls", "digit"]) F (okD F sc_R_from_digit ?_ ?_) (fun _ _ _ _ _ _ us hl => match us, hl with | [_, _], _ => rfl)⟩
  · rintro vs H Q E ⟨d, _, rfl, _⟩
    rfl
  · rintro cdv A outer s H vs Q E hr ⟨d, hd, rfl, k⟩
    refine ⟨_, pss_cons (ps_if (PW.pt (pw_or (pt_not (pt_val (pe_callB call_isi rfl T.isin boot_isinstance (pa_cons (pv 1) (pa_cons (pe_bltn (v := .ty "int") rfl T.int boot_int rfl) pa_nil))))) (pw_or (pt_val (pe_callB call_isi rfl T.isin boot_isinstance (pa_cons (pv 1) (pa_cons (pe_bltn (v := .ty "bool") rfl T.bool boot_bool rfl) pa_nil)))) (pw_or1 (pt_not (pt_chain op_le op_le pe_int (pv 1) pe_int)))))) pss_never pss_nil) (pss_one (ps_ret (pe_mkL 0 MI GI hr (by decide) (pa_cons (pe_ix ix_tup (pe_glob (v := .ref tW) rfl eW rfl) (pv 1) (fun _ _ => rfl)) pa_nil)))), ?_⟩
    refine ⟨_, rfl, _, _, _, _, true, rfl, .ty _, .base (.int _), kit_ty (by decide +kernel), true, rfl, ?_⟩
    refine ⟨_, rfl, _, _, _, _, false, rfl, .ty _, .base (.int _), kit_ty (by decide +kernel), false, rfl, ?_⟩
    refine ⟨_, rfl, _, _, rfl, rfl, _, rfl, iteY (decide_eq_true (by omega)) ⟨_, _, rfl, rfl, _, rfl, iteN (by rw [decide_eq_true (by omega)]; rfl) ?_⟩⟩
    refine ⟨rfl, _, rfl, _, _, _, _, rfl, rfl, SW _, wT_at hd, fun x dx nx nd ne => ⟨x, d, dx, hd, rfl, upd_same, fun H' s' r' => ⟨rfl, ?_⟩⟩⟩
    exact k _ _ (s'.made nx nd) nx r'
/-- digit of rights -/
def spRPr (c : Ct) : Sp := fun vs H Q _ => ∃ a d, vs = [.ref a] ∧ RtAt c H a d ∧ Q (.int d) H
theorem pr_digit {c : Ct} (T : TxR c) : HasPr c c.cR "digit" 1 (spRPr c) := by
  obtain ⟨p, f, fd, PR, F⟩ := T.digit
  have C := T.clR
  refine ⟨p, f, fd, ["self"], PR, okD F sc_R_digit ?_ ?_, F.bindsN (fun _ _ _ _ _ _ us hl => match us, hl with | [_], _ => rfl)⟩
  · rintro vs H Q E ⟨a, d, rfl, _⟩
    rfl
  · rintro cdv A outer s H vs Q E hr ⟨a, d, rfl, ⟨dx, l, e, hd⟩, k⟩
    exact ⟨_, pss_one (ps_ret (pe_fld (pv 0) rfl)), _, rfl, a, c.cR, dx, _, _, rfl, e, C.cl, C.nf _ (by decide), rfl, k⟩
/-- the star's tuple of one -/
def spROfB (c : Ct) : Sp := fun vs H Q _ => ∃ a t d, vs = [.ref c.cR, .ref t] ∧ H t = some (.tup [.ref a]) ∧ RtAt c H a d ∧ ∀ H' x, Same H H' → H x = none → RtAt c H' x d → Q (.ref x) H'
def spROf (c : Ct) : Sp := fun vs H Q _ => ∃ a d, vs = [.ref c.cR, .ref a] ∧ RtAt c H a d ∧ ∀ H' x, Same H H' → H x = none → RtAt c H' x d → Q (.ref x) H'
theorem or0 : ∀ d : Nat, d < 8 → Builtin.bitOr 0 (d : Int) = (d : Int) := by decide +kernel
theorem ip_or {X : Cx} : PIp X .BitOr (rI0 fun i j => .int (Builtin.bitOr i j)) := fun pins s σ H x y v u Q I r1 r2 h => iop_or pins s σ H x y v u Q I r1 r2 h
theorem ok_of {c : Ct} (T : TxR c) : HasC c c.cR "of" 4 (spROf c) := by
  obtain ⟨mc, p, f, fd, CR, CM, F⟩ := T.of
  obtain ⟨fI, MI, GI⟩ := mk_R T
  obtain ⟨fD, mD, kD, GD⟩ := ok_digit_of T
  obtain ⟨tW, eW, SW⟩ := T.words
  obtain ⟨pd, gd, fdd, psd, Pd, Gd, bd⟩ := pr_digit T
  have C := T.clR
  have Cd := C.cl
  refine ⟨mc, p, f, CR, CM, (okStar (ps := ["cls"]) (pv := "parts") (sp := spROfB c) (k := 3) F sc_R_of (fun kV doc pm an cdv ct => bind_star1 (B := fun us => bindArgs (PySem.W.fnOf "of" "Rights.of" (defArgs s_R_of) (defBody s_R_of) (defScope s_R_of) .none kV doc pm an cdv ct) ⟨us, []⟩) (p1 := "cls") (pv := "parts") (fun _ => rfl) (fun _ _ _ => rfl)) ?_).imp ?_⟩
  · rintro cdv A outer s H vs Q E hr ⟨a, t, d, rfl, et, ra, k⟩
    obtain ⟨dx, l, ea, hd⟩ := ra
    refine ⟨_, pss_cons (ps_set (i := 2) sc_R_of.nd rfl (Or.inl rfl) (pe_int)) (pss_cons (ps_for PassesOwn.never rfl (pi_tup (pv 1)) (pg_name (i := 3) sc_R_of.nd rfl (Or.inl rfl)) (pss_cons (ps_set (i := 4) sc_R_of.nd rfl (Or.inl rfl) (pe_ifExp (pt_val (pe_callB call_isi rfl T.isin boot_isinstance (pa_cons (pv 3) (pa_cons ((pe_glob (v := .ref c.cR) rfl C.mg rfl)) pa_nil)))) (pe_prop (pv 3) Cd Pd Gd (hr.mono (by decide)) bd .nil pass0 (by rfl)) (pe_cR GD hr (by decide) kD rfl mD (pa_cons (pv 3) pa_nil)))) (pss_cons (ps_if (pt_cmpR op_isN (pv 4) pe_non (nomark _)) pss_never pss_nil) (pss_one (ps_aug (i := 2) sc_R_of.nd rfl (.inl rfl) (pv 4) ip_or))))) (pss_one (ps_ret (pe_mkL 0 MI GI hr (by decide) (pa_cons (pe_ix ix_tup (pe_glob (v := .ref tW) rfl eW rfl) (pv 2) (fun _ _ => rfl)) pa_nil))))), ?_⟩
    refine ⟨_, rfl, t, rfl, ⟨_, SqT.of et⟩, for_it (walk_tup (xs := [.ref a])) (fun i σ H2 => ∃ y z, σ = [some (.ref c.cR), some (.ref t), some (.int (if i = 0 then 0 else d)), y, z] ∧ H2 = H) ⟨none, none, rfl, rfl⟩ ?_ ?_ ?_⟩
    · rintro i σ H2 _ ⟨y, z, rfl, rfl⟩
      exact SqT.of et
    · rintro i x σ H2 H3 hi ⟨y, z, rfl, rfl⟩ ⟨rfl, ex⟩
      obtain rfl : i = 0 := by simp at hi; omega
      cases ex
      refine ⟨_, rfl, _, _, _, _, true, rfl, .own _, tyOf C ea, kit_same, true, rfl, ?_⟩
      refine ⟨_, rfl, a, dx, _, rfl, ea, a, d, rfl, ⟨dx, l, ea, hd⟩, ?_⟩
      refine ⟨_, rfl, rfl, _, rfl, iteN rfl ?_⟩
      refine ⟨_, rfl, _, rfl, 0, _, rfl, rfl, ?_⟩
      exact ⟨_, _, congrArg (fun z => [some (V.ref c.cR), some (V.ref t), some (V.int z), some (V.ref a), some (V.int d)]) (or0 d hd), rfl⟩
    · rintro σ H2 ⟨y, z, rfl, rfl⟩
      refine ⟨rfl, _, rfl, _, _, _, _, rfl, rfl, SW _, wT_at hd, fun x dx nx nd ne => ⟨x, d, dx, hd, rfl, upd_same, fun H' s' r' => ⟨rfl, ?_⟩⟩⟩
      exact k _ _ (s'.made nx nd) nx r'
  · rintro vs H Q E ⟨a, d, rfl, ra, k⟩
    refine ⟨[.ref c.cR], [.ref a], rfl, rfl, smL (by simp), fun t nt => ⟨a, t, d, rfl, upd_same, ra.same (same_upd nt), fun H' x s' nx r' => k _ _ (fun b o e => s' _ _ (upd_old e nt)) (nn nx) r'⟩⟩
end K37
end
section
set_option Elab.async false
set_option linter.all false
set_option maxRecDepth 100000
set_option maxHeartbeats 4000000
/-! K3d: digits, access lists. -/
namespace K37
open PySem PySem.Spec PyProof.Rows L2 StX ClX SX
open C8 (sl_txt rSlX)
def subD (d e : Nat) : Nat := d &&& (7 - e)
theorem sub_fact : ∀ d : Nat, d < 8 → ∀ e : Nat, e < 8 → Builtin.bitAnd (d : Int) (7 - (e : Int)) = (subD d e : Int) ∧ subD d e < 8 := by decide +kernel
/-- self - other -/
def spRSub (c : Ct) : Sp := fun vs H Q _ => ∃ a b d e, vs = [.ref a, .ref b] ∧ RtAt c H a d ∧ RtAt c H b e ∧ ∀ H' x, Same H H' → H x = none → RtAt c H' x (subD d e) → Q (.ref x) H'
def HasSub (c : Ct) (k : Nat) (sp : Sp) : Prop := ∃ g, PySem.W.findIn c.K (.ref c.cR) (PySem.dunder Operator.Sub.info.2) = some (some (.ref g)) ∧ PySem.W.isFn c.K (.ref g) = true ∧ PySem.W.selfFirst c.K c.cR = true ∧ FnR c.P c.w c.K c.mg c.base CX0 k g sp
theorem ok_sub {c : Ct} (T : TxR c) : HasSub c 4 (spRSub c) := by
  obtain ⟨f, fd, h1, h2, h3, F⟩ := T.subR
  obtain ⟨fI, MI, GI⟩ := mk_R T
  obtain ⟨tW, eW, SW⟩ := T.words
  have C := T.clR
  refine ⟨f, h1, h2, h3, rawN (ps := ["self", "other"]) F (okD F sc_R_sub ?_ ?_) (fun _ _ _ _ _ _ us hl => match us, hl with | [_, _], _ => rfl)⟩
  · rintro vs H Q E ⟨a, b, d, e, rfl, _⟩
    rfl
  · rintro cdv A outer s H vs Q E hr ⟨a, b, d, e, rfl, ⟨dx, l, ea, hd⟩, ⟨dx2, l2, eb, he⟩, k⟩
    obtain ⟨hs, hlt⟩ := sub_fact d hd e he
    refine ⟨_, pss_cons (ps_if (pt_not (pt_val (pe_callB call_isi rfl T.isin boot_isinstance (pa_cons (pv 1) (pa_cons ((pe_glob (v := .ref c.cR) rfl C.mg rfl)) pa_nil))))) pss_never pss_nil) (pss_one (ps_ret (pe_makeR MI GI hr rfl C.mg pass0 (pa_cons (pe_ix ix_tup (pe_glob (v := .ref tW) rfl eW rfl) (pe_op op_and (pe_fld (pv 0) rfl) (pe_op op_sub pe_int (pe_fld (pv 1) rfl))) (fun _ _ => rfl)) pa_nil)))), ?_⟩
    refine ⟨_, rfl, _, _, _, _, true, rfl, .own _, tyOf C eb, kit_same, true, rfl, iteN rfl ?_⟩
    refine ⟨_, rfl, a, _, _, _, _, rfl, ea, C.cl, C.nf _ (by decide), rfl, _, rfl, b, _, _, _, _, rfl, eb, C.cl, C.nf _ (by decide), rfl, _, _, rfl, rfl, _, _, rfl, rfl, ?_⟩
    refine ⟨_, _, _, _, rfl, congrArg V.int hs, SW _, wT_at hlt, fun x dx nx nd ne => ⟨x, _, dx, hlt, rfl, upd_same, fun H' s' r' => ⟨rfl, ?_⟩⟩⟩
    exact k _ _ (s'.made nx nd) nx r'
/-- rights, or a word of them -/
def spDigitIn (c : Ct) : Sp := fun vs H Q _ => ∃ d : Nat, d < 8 ∧ ((∃ a, vs = [.ref a] ∧ RtAt c H a d) ∨ vs = [.str (wT d)]) ∧ ∀ H', Same H H' → Q (.int d) H'
theorem ok_digit_in {c : Ct} (T : TxR c) : Has c "digit_in" 3 (spDigitIn c) := by
  obtain ⟨f, fd, m, F⟩ := T.digit_in
  obtain ⟨fD, mD, kD, GD⟩ := ok_digit_of T
  obtain ⟨pd, gd, fdd, psd, Pd, Gd, bd⟩ := pr_digit T
  have C := T.clR
  have Cd := C.cl
  refine Has.mk m F (ps := ["value"]) (okD F sc_digit_in ?_ ?_) (fun _ _ _ _ _ _ us hl => match us, hl with | [_], _ => rfl)
  · rintro vs H Q E ⟨d, _, ⟨a, rfl, _⟩ | rfl, _⟩ <;> rfl
  · rintro cdv A outer s H vs Q E hr ⟨d, hd, h, k⟩
    refine ⟨_, pss_one (ps_ret (pe_ifExp (pt_val (pe_callB call_isi rfl T.isin boot_isinstance (pa_cons (pv 0) (pa_cons ((pe_glob (v := .ref c.cR) rfl C.mg rfl)) pa_nil)))) (pe_prop (pv 0) Cd Pd Gd (hr.mono (by decide)) bd .nil pass0 (by rfl)) (pe_cR GD hr (by decide) kD rfl mD (pa_cons (pv 0) pa_nil)))), ?_⟩
    rcases h with ⟨a, rfl, ra⟩ | rfl
    · obtain ⟨dx, l, ea, _⟩ := ra
      exact ⟨_, rfl, _, _, _, _, true, rfl, .own _, tyOf C ea, kit_same, true, rfl, iteY rfl ⟨_, rfl, a, dx, _, rfl, ea, a, d, rfl, ⟨dx, l, ea, hd⟩, k _ fun _ _ e => e⟩⟩
    · exact ⟨_, rfl, _, _, _, _, false, rfl, .own _, .base (.str _), T.strR, false, rfl, iteN rfl ⟨_, rfl, d, hd, rfl, k⟩⟩
def spIsRights (c : Ct) : Sp := fun vs H Q _ => ∃ d a, vs = [.ref a] ∧ RtAt c H a d ∧ ∀ H', Same H H' → Q (.bl true) H'
theorem ok_is_rights {c : Ct} (T : TxR c) : Has c "is_rights" 4 (spIsRights c) := by
  obtain ⟨f, fd, m, F⟩ := T.is_rights
  obtain ⟨fD, mD, kD, GD⟩ := ok_digit_in T
  refine Has.mk m F (ps := ["value"]) (okD F sc_is_rights ?_ ?_) (fun _ _ _ _ _ _ us hl => match us, hl with | [_], _ => rfl)
  · rintro vs H Q E ⟨d, a, rfl, _⟩
    rfl
  · rintro cdv A outer s H vs Q E hr ⟨d, a, rfl, ra, k⟩
    have hd := ra.lt
    exact ⟨_, pss_one (ps_ret (pe_cmpR op_notN (pe_cR GD hr (by decide) kD rfl mD (pa_cons (pv 0) pa_nil)) pe_non (nomark _))), _, rfl, d, hd, .inl ⟨a, rfl, ra⟩, fun H' s' => ⟨rfl, k _ s'⟩⟩
def spAsRights (c : Ct) : Sp := fun vs H Q _ => ∃ d a, vs = [.ref a] ∧ RtAt c H a d ∧ ∀ H' x, Same H H' → H x = none → RtAt c H' x d → Q (.ref x) H'
theorem ok_as_rights {c : Ct} (T : TxR c) : Has c "as_rights" 5 (spAsRights c) := by
  obtain ⟨f, fd, m, F⟩ := T.as_rights
  obtain ⟨mc, p, fO, CR, CM, GO⟩ := ok_of T
  refine Has.mk m F (ps := ["value"]) (okD F sc_as_rights ?_ ?_) (fun _ _ _ _ _ _ us hl => match us, hl with | [_], _ => rfl)
  · rintro vs H Q E ⟨d, a, rfl, _⟩
    rfl
  · rintro cdv A outer s H vs Q E hr ⟨d, a, rfl, ra, k⟩
    exact ⟨_, pss_one (ps_ret (pe_cmR CR CM GO hr (by decide) (pe_glob (v := .ref c.cR) rfl T.clR.mg rfl) (pa_cons (pv 0) pa_nil))), rfl, _, rfl, a, d, rfl, ra, k⟩
/-! ### three digits -/
def oT (a b c : Nat) : Str := S [48 + a, 48 + b, 48 + c]
theorem oct_sign : ∀ a, a < 8 → 48 + a ∈ (Str.ofString "01234567").cps.toList := by decide +kernel
theorem oct_at : ∀ a, a < 8 → Builtin.Str.occurrences "01234567" (S [48 + a]) 0 (Str.ofString "01234567").length 1 = [a] := by decide +kernel
theorem oct_num : ∀ a, a < 8 → Str.ofString (toString ((a : Nat) : Int)) = S [48 + a] := by decide +kernel
structure TxL (c : Ct) : Prop extends TxR c where
  is_digits : DefG c "is_digits" "is_digits" s_is_digits
  need_digits : DefG c "need_digits" "need_digits" s_need_digits
  rights_of_digits : DefG c "rights_of_digits" "rights_of_digits" s_rights_of_digits
  without_letters : DefG c "without_letters" "without_letters" s_without_letters
  named_rights : DefG c "named_rights" "named_rights" s_named_rights
  clA : Cla c "AccessList" c.cA ["own_owner", "own_group", "own_other", "own_users", "own_groups", "own_mask", "own_entries"]
  mkA : MkD c c.cA "AccessList.__init__" s_A_init [] [("users", .non), ("groups", .non), ("mask", .non)]
  plain : CmD c c.cA "plain" "AccessList.plain" s_A_plain
  everything : ∃ mc p g fd, CRead c.K c.cA mc ∧ StMet c.K c.cA mc "everything" p g ∧ FunD c.K "everything" "AccessList.everything" (defArgs s_A_everything) (defBody s_A_everything) (defScope s_A_everything) [] [] g fd
  Aowner : ProD c c.cA "owner" "AccessList.owner" s_A_owner
  Agroup : ProD c c.cA "group" "AccessList.group" s_A_group
  Aother : ProD c c.cA "other" "AccessList.other" s_A_other
  Amask : ProD c c.cA "mask" "AccessList.mask" s_A_mask
  Ausers : MetD c c.cA "users" "AccessList.users" s_A_users
  Agroups : MetD c c.cA "groups" "AccessList.groups" s_A_groups
abbrev N_is_digits : List Str := ["value", "sign"]
def spIsDigits : Sp := fun vs H Q _ => ∃ a b c, vs = [.str (oT a b c)] ∧ a < 8 ∧ b < 8 ∧ c < 8 ∧ ∀ H', Same H H' → Q (.bl true) H'
theorem oT_at {a b c i x : Nat} (e : (oT a b c).cps[i]? = some x) (ha : a < 8) (hb : b < 8) (hc : c < 8) : ∃ d, d < 8 ∧ x = 48 + d ∧ [a, b, c][i]? = some d := by
  have e' : [48 + a, 48 + b, 48 + c][i]? = some x := by
    have : ([48 + a, 48 + b, 48 + c].toArray)[i]? = some x := e
    rwa [List.getElem?_toArray] at this
  match i, e' with
  | 0, e' => exact ⟨a, ha, (Option.some.inj e').symm, rfl⟩
  | 1, e' => exact ⟨b, hb, (Option.some.inj e').symm, rfl⟩
  | 2, e' => exact ⟨c, hc, (Option.some.inj e').symm, rfl⟩
  | i + 3, e' => simp at e'
theorem rep_f (n : Nat) : (List.replicate n false).any id = false := by simp
theorem ok_is_digits {c : Ct} (T : TxL c) : Has c "is_digits" 1 spIsDigits := by
  obtain ⟨f, fd, m, F⟩ := T.is_digits
  refine Has.mk m F (ps := ["value"]) (okD F sc_is_digits ?_ ?_) (fun _ _ _ _ _ _ us hl => match us, hl with | [_], _ => rfl)
  · rintro vs H Q E ⟨d, a, b, rfl, _⟩
    rfl
  · rintro cdv A outer s H vs Q E hr ⟨d1, d2, d3, rfl, h1, h2, h3, k⟩
    refine ⟨_, pss_one (ps_ret (pe_and (pe_callB call_isi rfl T.isin boot_isinstance (pa_cons (pv 0) (pa_cons (pe_bltn (v := .ty "str") rfl T.str boot_str rfl) pa_nil))) (pe_and (pe_cmpR op_eq (pe_callB call_len_str rfl T.len PySem.boot_len (pa_cons (pv 0) pa_nil)) pe_int (nomark _)) (pe_one (pe_not (pe_callB (cr_any rfl) rfl T.any (by decide +kernel) (pa_cons (pe_lc (own := [("sign", 1)]) (g := gName 1) (tt := tYes) rfl sc_is_digits.nd (pi_str (pv 0)) (blkOk_by (N := N_is_digits) (sc := defScope s_is_digits) (by decide +kernel)) (fun _ _ _ _ _ => pg_name (i := 1) sc_is_digits.nd rfl (Or.inl rfl)) (fun _ _ _ _ _ => pts_nil) (fun _ _ _ _ _ => pe_cmpR op_notIn_sign (pv 1) pe_str rfl)) pa_nil))))))), ?_⟩
    refine ⟨_, rfl, _, _, _, _, true, rfl, .ty _, .base (.str _), kit_ty (by decide +kernel), true, rfl, iteY rfl ?_⟩
    refine ⟨_, rfl, _, rfl, smL (by simp [oT, S_len]), rfl, _, rfl, iteY (by simp [oT, S_len]) ?_⟩
    refine ⟨_, rfl, _, rfl, fun D nD => lc_it walk_str (fun i H1 => Same H H1 ∧ H1 D = some (.lst (List.replicate i (.bl false)))) ⟨same_upd nD, upd_same⟩ (fun _ _ _ _ => trivial) ?_ ?_⟩
    · rintro i x H1 H2 hi ⟨sm, eD⟩ ⟨rfl, x, ex, rfl⟩
      obtain ⟨d, hd, rfl, _⟩ := oT_at ex h1 h2 h3
      refine ⟨rfl, _, rfl, _, _, rfl, rfl, _, eD, ?_, same_new sm nD, ?_⟩
      · rw [List.length_replicate]
        have : (oT d1 d2 d3).cps.size = 3 := rfl
        exact smT (by omega)
      · rw [upd_same, decide_eq_true (oct_sign d hd), show (!true) = false from rfl, ← List.replicate_succ']
    · rintro H1 ⟨sm, eD⟩
      refine ⟨D, List.replicate 3 false, rfl, SqL.of (by rw [List.map_replicate]; exact eD), _, rfl, ?_⟩
      exact k _ sm
def spNeedDigits : Sp := fun vs H Q _ => ∃ a b c, vs = [.str (oT a b c)] ∧ a < 8 ∧ b < 8 ∧ c < 8 ∧ ∀ H', Same H H' → Q .non H'
theorem ok_need_digits {c : Ct} (T : TxL c) : Has c "need_digits" 2 spNeedDigits := by
  obtain ⟨f, fd, m, F⟩ := T.need_digits
  obtain ⟨fI, mI, kI, GI⟩ := ok_is_digits T
  refine Has.mk m F (ps := ["digits"]) (okD F sc_need_digits ?_ ?_) (fun _ _ _ _ _ _ us hl => match us, hl with | [_], _ => rfl)
  · rintro vs H Q E ⟨d, a, b, rfl, _⟩
    rfl
  · rintro cdv A outer s H vs Q E hr ⟨d1, d2, d3, rfl, h1, h2, h3, k⟩
    exact ⟨_, pss_one (ps_if (pt_not (pt_val (pe_cR GI hr (by decide) kI rfl mI (pa_cons (pv 0) pa_nil)))) pss_never pss_nil), _, rfl, d1, d2, d3, rfl, h1, h2, h3, fun H' s' => ⟨_, rfl, iteN rfl (k _ s')⟩⟩
theorem RtAt.x {c : Ct} {H H' : Hp} {x a : Addr} {d : Nat} (h : RtAt c H x d) (s : SameX a H H') (ne : x ≠ a) : RtAt c H' x d := by
  obtain ⟨dx, l, e, hd⟩ := h
  exact ⟨dx, l, s _ _ ne e, hd⟩
theorem RtAt.lst {c : Ct} {H H' : Hp} {x D : Addr} {d : Nat} {l : List V} (h : RtAt c H x d) (e : H D = some (.lst l)) (s : SameX D H H') : RtAt c H' x d := by
  obtain ⟨dx, l, e', hd⟩ := h
  exact ⟨dx, l, s _ _ (ne_of e' e fun z => nomatch z) e', hd⟩
abbrev N_rights_of_digits : List Str := ["digits", "sign"]
/-- the list l holds rights of the first digits -/
def RtsAt (c : Ct) (H : Hp) (ds : List Nat) (l : List V) : Prop := l.length ≤ ds.length ∧ ∀ (j : Nat) (v : V), l[j]? = some v → ∃ x d, v = V.ref x ∧ ds[j]? = some d ∧ RtAt c H x d
def spRod (c : Ct) : Sp := fun vs H Q _ => ∃ d1 d2 d3, vs = [.str (oT d1 d2 d3)] ∧ d1 < 8 ∧ d2 < 8 ∧ d3 < 8 ∧
  ∀ H' r x y z, Same H H' → H r = none → H' r = some (.lst [.ref x, .ref y, .ref z]) → RtAt c H' x d1 → RtAt c H' y d2 → RtAt c H' z d3 → Q (.ref r) H'
theorem RtsAt.three {c : Ct} {H : Hp} {a b d : Nat} {l : List V} (h : RtsAt c H [a, b, d] l) (e : l.length = 3) : ∃ x y z, l = [V.ref x, V.ref y, V.ref z] ∧ RtAt c H x a ∧ RtAt c H y b ∧ RtAt c H z d := by
  match l, e with
  | [u, v, w], _ =>
    obtain ⟨x, a', rfl, e1, r1⟩ := h.2 0 u rfl
    obtain ⟨y, b', rfl, e2, r2⟩ := h.2 1 v rfl
    obtain ⟨z, d', rfl, e3, r3⟩ := h.2 2 w rfl
    cases e1
    cases e2
    cases e3
    exact ⟨x, y, z, rfl, r1, r2, r3⟩
theorem ok_rights_of_digits {c : Ct} (T : TxL c) : Has c "rights_of_digits" 5 (spRod c) := by
  obtain ⟨f, fd, m, F⟩ := T.rights_of_digits
  obtain ⟨fN, mN, kN, GN⟩ := ok_need_digits T
  obtain ⟨mc, p, fO, CR, CM, GO⟩ := ok_from_digit T.toTxR
  refine Has.mk m F (ps := ["digits"]) (okD F sc_rights_of_digits ?_ ?_) (fun _ _ _ _ _ _ us hl => match us, hl with | [_], _ => rfl)
  · rintro vs H Q E ⟨d, a, b, rfl, _⟩
    rfl
  · rintro cdv A outer s H vs Q E hr ⟨d1, d2, d3, rfl, h1, h2, h3, k⟩
    refine ⟨_, pss_cons (ps_expr (pe_cR GN hr (by decide) kN rfl mN (pa_cons (pv 0) pa_nil))) (pss_one (ps_ret (pe_lc (own := [("sign", 1)]) (g := gName 1) (tt := tYes) rfl sc_rights_of_digits.nd (pi_str (pv 0)) (blkOk_by (N := N_rights_of_digits) (sc := defScope s_rights_of_digits) (by decide +kernel)) (fun _ _ _ _ _ => pg_name (i := 1) sc_rights_of_digits.nd rfl (Or.inl rfl)) (fun _ _ _ _ _ => pts_nil) (fun _ _ _ _ _ => pe_cmR CR CM GO hr (by decide) (pe_glob (v := .ref c.cR) rfl T.clR.mg rfl) (pa_cons (pe_m1 PySem.F.slot_str_index PySem.F.type_str_index mt_sindex (pe_str) (pv 1)) pa_nil))))), ?_⟩
    refine ⟨_, rfl, d1, d2, d3, rfl, h1, h2, h3, fun H1 s1 => ⟨_, rfl, _, rfl, fun D nD => lc_it walk_str (fun i H2 => Same H H2 ∧ ∃ l, H2 D = some (.lst l) ∧ l.length = i ∧ RtsAt c H2 [d1, d2, d3] l) ⟨same_new s1 (s1.none nD), [], upd_same, rfl, by simp, fun j v e => by simp at e⟩ (fun _ _ _ _ => trivial) ?_ ?_⟩⟩
    · rintro i x H2 H3 hi ⟨sm, l, eD, hl, hR⟩ ⟨rfl, x, ex, rfl⟩
      obtain ⟨d, hd, rfl, hat⟩ := oT_at ex h1 h2 h3
      refine ⟨rfl, rfl, ⟨_, rfl⟩, _, rfl, _, _, d, [], rfl, rfl, oct_at d hd, d, hd, rfl, fun H4 x s4 nx r4 => ?_⟩
      have hi3 : i < 3 := hi
      have eD4 := s4 _ _ eD
      refine ⟨l, eD4, smT (by omega), same_new (sm.trans s4) (s1.none nD), _, upd_same, by simp [hl], by simp; omega, fun j v ej => ?_⟩
      by_cases hj : j < l.length
      · rw [List.getElem?_append_left hj] at ej
        obtain ⟨x', d', e1, e2, e3⟩ := hR.2 j v ej
        exact ⟨x', d', e1, e2, (e3.same s4).lst eD4 sameX_upd⟩
      · have hj' : j = l.length := by
          have := (List.getElem?_eq_some_iff.mp ej).1
          rw [List.length_append, List.length_singleton] at this
          omega
        subst hj'
        rw [List.getElem?_concat_length] at ej
        cases ej
        exact ⟨x, d, rfl, by rw [hl]; exact hat, r4.lst eD4 sameX_upd⟩
    · rintro H2 ⟨sm, l, eD, hl, hR⟩
      obtain ⟨x, y, z, rfl, r1, r2, r3⟩ := hR.three hl
      exact k _ D x y z sm (s1.none nD) eD r1 r2 r3
end K37
end
section
set_option Elab.async false
set_option linter.all false
set_option maxRecDepth 100000
set_option maxHeartbeats 4000000
/-! K3e: less letters; access lists. -/
namespace K37
open PySem PySem.Spec PyProof.Rows L2 StX ClX SX
open C8 (sl_txt rSlX pss_cut tCut)
/-! ### rules whose K is written (within comprehensions) -/
theorem ix_listK {X : Cx} (K : PySem.W.Frag) (h : X.K = K := by rfl) : IxR X (rIxL K) := by subst h; exact ix_list
theorem ix_tupK {X : Cx} (K : PySem.W.Frag) (h : X.K = K := by rfl) : IxR X (rIxT K) := by subst h; exact ix_tup
theorem op_inK {X : Cx} (K : PySem.W.Frag) (h : X.K = K := by rfl) : OpR X (compareOp .In) (rIn K false) := by subst h; exact op_in_seq
theorem op_notInK {X : Cx} (K : PySem.W.Frag) (h : X.K = K := by rfl) : OpR X (compareOp .NotIn) (rIn K true) := by subst h; exact op_notIn_seq
theorem pe_never {X : Cx} {e : Expr} : PE X e (fun _ _ _ => False) := ⟨fun _ _ _ _ _ _ h => h.elim⟩
abbrev N_A_init : List Str := ["self", "owner", "group", "other", "users", "groups", "mask", "rights", "some", "name"]
abbrev N_without_letters : List Str := ["digits", "umask", "less", "place", "one"]
def spWithout : Sp := fun vs H Q _ => ∃ a b c d e g, vs = [.str (oT a b c), .str (oT d e g)] ∧ a < 8 ∧ b < 8 ∧ c < 8 ∧ d < 8 ∧ e < 8 ∧ g < 8 ∧ ∀ H', Same H H' → Q (.str (oT (subD a d) (subD b e) (subD c g))) H'
/-- the texts of the first differences -/
def SubsAt (l : List V) (as bs : List Nat) : Prop := ∀ (j : Nat) (v : V), l[j]? = some v → ∃ a b, as[j]? = some a ∧ bs[j]? = some b ∧ v = .str (S [48 + subD a b])
theorem SubsAt.three {l : List V} {a b c d e g : Nat} (h : SubsAt l [a, b, c] [d, e, g]) (hl : l.length = 3) : l = [S [48 + subD a d], S [48 + subD b e], S [48 + subD c g]].map V.str := by
  match l, hl with
  | [u, v, w], _ =>
    obtain ⟨_, _, e1, e2, rfl⟩ := h 0 u rfl
    obtain ⟨_, _, e3, e4, rfl⟩ := h 1 v rfl
    obtain ⟨_, _, e5, e6, rfl⟩ := h 2 w rfl
    cases e1; cases e2; cases e3; cases e4; cases e5; cases e6
    rfl
theorem RtsAt.mk3 {c : Ct} {H : Hp} {x y z : Addr} {a b d : Nat} (rx : RtAt c H x a) (ry : RtAt c H y b) (rz : RtAt c H z d) : RtsAt c H [a, b, d] [.ref x, .ref y, .ref z] := by
  refine ⟨Nat.le_refl _, fun j v e => ?_⟩
  match j, e with
  | 0, e => exact ⟨x, a, (Option.some.inj e).symm, rfl, rx⟩
  | 1, e => exact ⟨y, b, (Option.some.inj e).symm, rfl, ry⟩
  | 2, e => exact ⟨z, d, (Option.some.inj e).symm, rfl, rz⟩
  | j + 3, e => simp at e
theorem ok_without {c : Ct} (T : TxL c) : Has c "without_letters" 6 spWithout := by
  obtain ⟨f, fd, m, F⟩ := T.without_letters
  obtain ⟨fN, mN, kN, GN⟩ := ok_need_digits T
  obtain ⟨fR, mR, kR, GR⟩ := ok_rights_of_digits T
  obtain ⟨gS, s1, s2, s3, GS⟩ := ok_sub T.toTxR
  obtain ⟨pd, gd, fdd, psd, Pd, Gd, bd⟩ := pr_digit T.toTxR
  have Cd := T.clR.cl
  refine Has.mk m F (ps := ["digits", "umask"]) (okD F sc_without_letters ?_ ?_) (fun _ _ _ _ _ _ us hl => match us, hl with | [_, _], _ => rfl)
  · rintro vs H Q E ⟨_, _, _, _, _, _, rfl, _⟩
    rfl
  · rintro cdv A outer s H vs Q E hr ⟨a1, a2, a3, b1, b2, b3, rfl, ha1, ha2, ha3, hb1, hb2, hb3, k⟩
    refine ⟨_, pss_cons (ps_expr (pe_cR GN hr (by decide) kN rfl mN (pa_cons (pv 0) pa_nil))) (pss_cons (ps_set (i := 2) sc_without_letters.nd rfl (Or.inr rfl) (pe_cR GR hr (by decide) kR rfl mR (pa_cons (pv 1) pa_nil))) (pss_one (ps_ret (pe_bm PySem.F.plainAttrs_str PySem.F.slot_str_join PySem.F.type_str_join mt_join (pe_str) (pa_cons (pe_lc (own := [("place", 3), ("one", 4)]) (g := gTup c.K 2 (gCons (gName 3) (gCons (gName 4) gNil))) (tt := tYes) rfl sc_without_letters.nd (pi_enum rfl T.enumerate (pa_cons (pe_cR GR hr (by decide) kR rfl mR (pa_cons (pv 0) pa_nil)) pa_nil)) (blkOk_by (N := N_without_letters) (sc := defScope s_without_letters) (by decide +kernel)) (fun _ _ _ _ _ => pg_tup rfl (pgs_cons (pg_name (i := 3) sc_without_letters.nd rfl (Or.inl rfl)) (pgs_cons (pg_name (i := 4) sc_without_letters.nd rfl (Or.inl rfl)) pgs_nil))) (fun _ _ _ _ _ => pts_nil) (fun _ _ _ _ _ => pe_callTy (call_str_int) rfl T.str (by decide +kernel) (pa_cons (pe_prop (pe_op (op_ownSub s1 s2 s3 GS hr (by decide)) (pv 4) (pe_ix (ix_listK c.K) (pv 2) (pv 3) (fun _ _ => rfl))) Cd Pd Gd (hr.mono (by decide)) bd .nil pass0 (by rfl)) pa_nil))) pa_nil))))), ?_⟩
    refine ⟨_, rfl, a1, a2, a3, rfl, ha1, ha2, ha3, fun H1 s1 => ⟨_, rfl, b1, b2, b3, rfl, hb1, hb2, hb3, fun H2 r2 x y z s2 n2 e2 rx ry rz => ?_⟩⟩
    refine ⟨rfl, _, rfl, a1, a2, a3, rfl, ha1, ha2, ha3, fun H3 r3 x' y' z' s3 n3 e3 rx' ry' rz' => ⟨r3, _, rfl, SqL.of e3, fun D nD => ?_⟩⟩
    have hA := RtsAt.mk3 rx' ry' rz'
    have hB := RtsAt.mk3 (rx.same s3) (ry.same s3) (rz.same s3)
    have e2' := s3 _ _ e2
    refine lc_it (walk_enum (xs := [.ref x', .ref y', .ref z'])) (fun i H4 => Same H3 H4 ∧ ∃ l, H4 D = some (.lst l) ∧ l.length = i ∧ SubsAt l [a1, a2, a3] [b1, b2, b3]) ⟨same_upd nD, [], upd_same, rfl, fun j v e => by simp at e⟩ (fun i H4 _ q => SqL.of (q.1 _ _ e3)) ?_ ?_
    · rintro i v H4 H5 hi ⟨sm, l, eD, hl, hS⟩ ⟨t, u, w, rfl, nt, rfl, eu, ew⟩
      have hi3 : i < 3 := hi
      cases eu
      obtain ⟨p1, d1, rfl, ed1, q1⟩ := hA.2 i w ew
      obtain ⟨w2, ew2⟩ : ∃ w2, ([.ref x, .ref y, .ref z] : List V)[i]? = some w2 := ⟨_, List.getElem?_eq_getElem (show i < 3 from hi)⟩
      obtain ⟨p2, d2, rfl, ed2, q2⟩ := hB.2 i w2 ew2
      have sT : Same H3 (upd H4 t (.tup [.int i, .ref p1])) := sm.trans (same_upd nt)
      obtain ⟨dx1, l1, f1, h1⟩ := q1.same sT
      obtain ⟨dx2, l2, f2, h2⟩ := q2.same sT
      refine ⟨t, _, rfl, SqT.of upd_same, rfl, _, _, rfl, _, _, rfl, rfl, rfl, ?_⟩
      refine ⟨_, rfl, _, rfl, _, rfl, r2, _, _, _, rfl, rfl, SqL.of (sT _ _ e2'), atI_nat ew2, p1, p2, dx1, dx2, _, _, rfl, rfl, f1, f2, p1, p2, d1, d2, rfl, ⟨dx1, l1, f1, h1⟩, ⟨dx2, l2, f2, h2⟩, fun H6 n s6 nn6 r6 => ?_⟩
      have r6' := r6
      obtain ⟨dx6, l6, f6, h6⟩ := r6
      refine ⟨n, dx6, _, rfl, f6, n, _, rfl, r6', _, rfl, ?_, l, s6 _ _ (same_upd nt _ _ eD), smT (by omega), same_new (sT.trans s6) nD, _, upd_same, by simp [hl], fun j v ej => ?_⟩
      · exact Nat.lt_of_le_of_lt (show _ ≤ 3 from by
          have : ∀ k : Nat, k < 8 → ((k : Int).natAbs.log2 ≤ 3) := by decide
          exact this _ h6) (by decide)
      · by_cases hj : j < l.length
        · rw [List.getElem?_append_left hj] at ej
          exact hS j v ej
        · have hj' : j = l.length := by
            have := (List.getElem?_eq_some_iff.mp ej).1
            rw [List.length_append, List.length_singleton] at this
            omega
          subst hj'
          rw [List.getElem?_concat_length] at ej
          cases ej
          exact ⟨d1, d2, by rw [hl]; exact ed1, by rw [hl]; exact ed2, by rw [oct_num _ h6]⟩
    · rintro H4 ⟨sm, l, eD, hl, hS⟩
      refine ⟨_, D, _, rfl, rfl, .inl (SqL.of ((hS.three hl) ▸ eD)), by simp [S_len]; decide, ?_⟩
      have e : Txt.join (Str.ofString "") [S [48 + subD a1 b1], S [48 + subD a2 b2], S [48 + subD a3 b3]] = oT (subD a1 b1) (subD a2 b2) (subD a3 b3) := by
        rw [show (Str.ofString "") = S [] from rfl]
        exact join_S [] [[48 + subD a1 b1], [48 + subD a2 b2], [48 + subD a3 b3]]
      rw [e]
      exact k _ (s1.trans (s2.trans (s3.trans sm)))
/-! ### access lists -/
def spNamedNone : Sp := fun vs H Q _ => vs = [.non] ∧ ∀ H' p, Same H H' → H p = none → H' p = some (.dK []) → Q (.ref p) H'
theorem ok_named {c : Ct} (T : TxL c) : Has c "named_rights" 1 spNamedNone := by
  obtain ⟨f, fd, m, F⟩ := T.named_rights
  refine Has.mk m F (ps := ["value"]) (okD F sc_named_rights ?_ ?_) (fun _ _ _ _ _ _ us hl => match us, hl with | [_], _ => rfl)
  · rintro vs H Q E ⟨rfl, _⟩
    rfl
  · rintro cdv A outer s H vs Q E hr ⟨rfl, k⟩
    refine ⟨_, pss_cons (ps_if (pt_cmpR op_isN (pv 0) pe_non (nomark _)) (pss_one (ps_ret pe_dnewK)) pss_nil) pss_never, ?_⟩
    exact ⟨_, rfl, rfl, _, rfl, iteY rfl fun d nd => k _ d (same_upd nd) nd upd_same⟩
/-- an access list without named entries -/
def AlAt (c : Ct) (H : Hp) (a : Addr) (o g t : Nat) : Prop := ∃ dx ro rg rt us gs es, H a = some (.ins c.cA dx [("own_owner", .ref ro), ("own_group", .ref rg), ("own_other", .ref rt), ("own_users", .ref us), ("own_groups", .ref gs), ("own_mask", .non), ("own_entries", .ref es)]) ∧
  RtAt c H ro o ∧ RtAt c H rg g ∧ RtAt c H rt t ∧ H us = some (.dK []) ∧ H gs = some (.dK [])
theorem AlAt.same {c : Ct} {H H' : Hp} {a : Addr} {o g t : Nat} (h : AlAt c H a o g t) (s : Same H H') : AlAt c H' a o g t := by
  obtain ⟨dx, ro, rg, rt, us, gs, es, e, r1, r2, r3, e1, e2⟩ := h
  exact ⟨dx, ro, rg, rt, us, gs, es, s _ _ e, r1.same s, r2.same s, r3.same s, s _ _ e1, s _ _ e2⟩
def spAInitB (c : Ct) : Sp := fun vs H Q _ => ∃ a dx ro rg rt o g t, vs = [.ref a, .ref ro, .ref rg, .ref rt, .non, .non, .non] ∧ H a = some (.ins c.cA dx []) ∧ RtAt c H ro o ∧ RtAt c H rg g ∧ RtAt c H rt t ∧ ∀ H', SameX a H H' → AlAt c H' a o g t → Q .non H'
def spAInit (c : Ct) : Sp := fun vs H Q _ => ∃ a dx ro rg rt o g t, vs = [.ref a, .ref ro, .ref rg, .ref rt] ∧ H a = some (.ins c.cA dx []) ∧ RtAt c H ro o ∧ RtAt c H rg g ∧ RtAt c H rt t ∧ ∀ H', SameX a H H' → AlAt c H' a o g t → Q .non H'
theorem RtAt.ne {c : Ct} {H : Hp} {x a C dx : Addr} {d : Nat} (h : RtAt c H x d) (e : H a = some (.ins C dx [])) : x ≠ a := by
  obtain ⟨dx, l, e', _⟩ := h
  rintro rfl
  rw [e] at e'
  cases e'
theorem ne_of_ins {c : Ct} {H : Hp} {x a C dx : Addr} {d : Nat} {v : V} {l : List (Str × V)} (h : RtAt c H x d) (e : H a = some (.ins C dx (("own_owner", v) :: l))) : x ≠ a := by
  obtain ⟨dx, l, e', _⟩ := h
  rintro rfl
  rw [e] at e'
  injection e' with e'
  injection e' with _ _ e'
  injection e' with e' _
  exact absurd (show (Str.ofString "own_owner") = Str.ofString "own_digit" from congrArg Prod.fst e') (by decide)
theorem lock_same {H H' : Hp} {d : Addr} {u : HO} {od : Obj} (e : H d = some u) (s : Same (upd H d (.frz od u)) H') : Same H (upd H' d u) := fun b o eb => by
  by_cases h : b = d
  · subst h
    rw [e] at eb
    cases eb
    exact upd_same
  · rw [upd_ne h]
    exact s _ _ (by rw [upd_ne h]; exact eb)
/-- an access list whose entries' list is being made: l so far -/
structure AlM (c : Ct) (a dx x1 x2 x3 us gs es : Addr) (o g t : Nat) (l : List V) (H H' : Hp) : Prop where
  sx : SameX a H H'
  ea : H' a = some (.ins c.cA dx [("own_owner", .ref x1), ("own_group", .ref x2), ("own_other", .ref x3), ("own_users", .ref us), ("own_groups", .ref gs), ("own_mask", .non), ("own_entries", .ref es)])
  ne : H es = none
  el : H' es = some (.lst l)
  r1 : RtAt c H' x1 o
  r2 : RtAt c H' x2 g
  r3 : RtAt c H' x3 t
  u : H' us = some (.dK [])
  gr : H' gs = some (.dK [])
theorem AlM.step {c : Ct} {a dx x1 x2 x3 us gs es : Addr} {o g t : Nat} {l : List V} {H H' H2 : Hp} (h : AlM c a dx x1 x2 x3 us gs es o g t l H H') (s : Same H' H2) : AlM c a dx x1 x2 x3 us gs es o g t l H H2 :=
  ⟨h.sx.step s, s _ _ h.ea, h.ne, s _ _ h.el, h.r1.same s, h.r2.same s, h.r3.same s, s _ _ h.u, s _ _ h.gr⟩
theorem AlM.put {c : Ct} {a dx x1 x2 x3 us gs es : Addr} {o g t : Nat} {l l' : List V} {H H' : Hp} (h : AlM c a dx x1 x2 x3 us gs es o g t l H H') : AlM c a dx x1 x2 x3 us gs es o g t l' H (upd H' es (.lst l')) where
  sx := fun b x hb e => by
    rw [upd_ne (ne_of_none e h.ne)]
    exact h.sx b x hb e
  ea := by
    rw [upd_ne (ne_of h.ea h.el fun z => nomatch z)]
    exact h.ea
  ne := h.ne
  el := upd_same
  r1 := h.r1.lst h.el sameX_upd
  r2 := h.r2.lst h.el sameX_upd
  r3 := h.r3.lst h.el sameX_upd
  u := by
    rw [upd_ne (ne_of h.u h.el fun z => nomatch z)]
    exact h.u
  gr := by
    rw [upd_ne (ne_of h.gr h.el fun z => nomatch z)]
    exact h.gr
theorem AlM.re {c : Ct} {a dx x1 x2 x3 us gs es : Addr} {o g t : Nat} {l : List V} {H H' : Hp} (h : AlM c a dx x1 x2 x3 us gs es o g t l H H') : AlM c a dx x1 x2 x3 us gs es o g t l H (upd H' a (.ins c.cA dx [("own_owner", .ref x1), ("own_group", .ref x2), ("own_other", .ref x3), ("own_users", .ref us), ("own_groups", .ref gs), ("own_mask", .non), ("own_entries", .ref es)])) := by
  refine h.step fun b x e => ?_
  by_cases q : b = a
  · subst q
    rw [h.ea] at e
    rw [upd_same]
    exact e
  · rw [upd_ne q]
    exact e
theorem mk_A {c : Ct} (T : TxL c) : HasMk c c.cA 6 (spAInit c) := by
  obtain ⟨f, fd, M, F⟩ := T.mkA
  obtain ⟨fI, mI, kI, GI⟩ := ok_is_rights T.toTxR
  obtain ⟨fA, mA, kA, GA⟩ := ok_as_rights T.toTxR
  obtain ⟨fN, mN, kN, GN⟩ := ok_named T
  have C := T.clA
  have G : FnOk c.P c.w c.K c.mg c.base CX0 6 f fd ["self", "owner", "group", "other", "users", "groups", "mask"] (spAInitB c) := okD F sc_A_init ?_ ?_
  · obtain ⟨ds, hv, hb⟩ := F.binds0 (ps := ["self", "owner", "group", "other", "users", "groups", "mask"]) 4 (by simp) rfl (fun D doc pm an cdv ct us ks h1 h2 => match us, ks, h1, h2 with | [_, _, _, _], [_, _, _], _, _ => ⟨_, _, _, _, _, _, rfl, rfl, _, _, _, _, _, _, rfl, rfl, _, _, _, _, _, _, rfl, rfl, rfl⟩)
    exact ⟨f, M, (G.raw hb hv).imp fun vs H Q E ⟨a, dx, ro, rg, rt, o, g, t, e, q⟩ => ⟨a, dx, ro, rg, rt, o, g, t, by rw [e]; rfl, q⟩⟩
  · rintro vs H Q E ⟨_, _, _, _, _, _, _, _, rfl, _⟩
    rfl
  · rintro cdv A outer s H vs Q E hr ⟨a, dx, ro, rg, rt, o, g, t, rfl, ea, hro, hrg, hrt, k⟩
    refine ⟨_, pss_cut (ps_for PassesOwn.never rfl (pi_tup (pe_tup (pa_cons (pv 1) (pa_cons (pv 2) (pa_cons (pv 3) pa_nil))))) (pg_name (i := 7) sc_A_init.nd rfl (Or.inl rfl)) (pss_one (ps_if (pt_not (pt_val (pe_cR GI hr (by decide) kI rfl mI (pa_cons (pv 7) pa_nil)))) pss_never pss_nil))) (
      pss_cut (ps_fld (pv 0) (pe_cR GA hr (by decide) kA rfl mA (pa_cons (pv 1) pa_nil)) rfl) (pss_cut (ps_fld (pv 0) (pe_cR GA hr (by decide) kA rfl mA (pa_cons (pv 2) pa_nil)) rfl) (pss_cut (ps_fld (pv 0) (pe_cR GA hr (by decide) kA rfl mA (pa_cons (pv 3) pa_nil)) rfl) (pss_cut (ps_fld (pv 0) (pe_cR GN hr (by decide) kN rfl mN (pa_cons (pv 4) pa_nil)) rfl) (pss_cut (ps_fld (pv 0) (pe_cR GN hr (by decide) kN rfl mN (pa_cons (pv 5) pa_nil)) rfl) (
      pss_cons (ps_if (PW.pt (pw_and (pt_cmpR op_notN (pv 6) pe_non (nomark _)) (pw_and1 (pt_not (pt_val pe_never))))) pss_never pss_nil) (
      pss_cut (ps_fld (pv 0) (pe_non) rfl) (
      pss_cut (ps_if (pt_cmpR op_notN (pv 6) pe_non (nomark _)) pss_never (pss_one (ps_if (pt_cmpR op_gt (pe_op op_add (pe_callB call_lenD rfl T.len PySem.boot_len (pa_cons (pe_fld (pv 0) rfl) pa_nil)) (pe_callB call_lenD rfl T.len PySem.boot_len (pa_cons (pe_fld (pv 0) rfl) pa_nil))) pe_int (nomark _)) pss_never pss_nil))) (
      pss_cut (ps_fld (pv 0) (pe_lst (pa_cons (pe_tup (pa_cons (pe_str) (pa_cons (pe_str) (pa_cons (pe_fld (pv 0) rfl) pa_nil)))) pa_nil)) rfl) (
      pss_cut (ps_fldaug (pv 0) (pe_lock (pe_lc (own := [("name", 9)]) (g := gName 9) (tt := tYes) rfl sc_A_init.nd (pi_keys (pe_fld (pv 0) rfl)) (blkOk_by (N := N_A_init) (sc := defScope s_A_init) (by decide +kernel)) (fun _ _ _ _ _ => pg_name (i := 9) sc_A_init.nd rfl (Or.inl rfl)) (fun _ _ _ _ _ => pts_nil) (fun _ _ _ _ _ => pe_never))) in_ext) (
      pss_cut (ps_expr (pe_bm PySem.F.plainAttrs_list PySem.F.slot_list_append PySem.F.type_list_append mt_append (pe_fld (pv 0) rfl) (pa_cons (pe_tup (pa_cons (pe_str) (pa_cons (pe_str) (pa_cons (pe_fld (pv 0) rfl) pa_nil)))) pa_nil))) (
      pss_cut (ps_fldaug (pv 0) (pe_lock (pe_lc (own := [("name", 9)]) (g := gName 9) (tt := tYes) rfl sc_A_init.nd (pi_keys (pe_fld (pv 0) rfl)) (blkOk_by (N := N_A_init) (sc := defScope s_A_init) (by decide +kernel)) (fun _ _ _ _ _ => pg_name (i := 9) sc_A_init.nd rfl (Or.inl rfl)) (fun _ _ _ _ _ => pts_nil) (fun _ _ _ _ _ => pe_never))) in_ext) (
      pss_cons (ps_if (pt_cmpR op_notN (pe_fld (pv 0) rfl) pe_non (nomark _)) pss_never pss_nil) (
      pss_one (ps_expr (pe_bm PySem.F.plainAttrs_list PySem.F.slot_list_append PySem.F.type_list_append mt_append (pe_fld (pv 0) rfl) (pa_cons (pe_tup (pa_cons (pe_str) (pa_cons (pe_str) (pa_cons (pe_fld (pv 0) rfl) pa_nil)))) pa_nil))))))))))))))))), ?_⟩
    have ne1 := hro.ne ea
    have ne2 := hrg.ne ea
    have ne3 := hrt.ne ea
    -- the loop
    refine ⟨fun σ H' => ∃ y, σ = [some (.ref a), some (.ref ro), some (.ref rg), some (.ref rt), some .non, some .non, some .non, y, none, none] ∧ Same H H', ?_, ?_⟩
    · refine ⟨_, rfl, _, rfl, _, rfl, smL (by simp), fun tt nt => ⟨tt, rfl, ⟨_, SqT.of upd_same⟩, for_it (walk_tup (xs := [.ref ro, .ref rg, .ref rt])) (fun i σ H' => ∃ y, σ = [some (.ref a), some (.ref ro), some (.ref rg), some (.ref rt), some .non, some .non, some .non, y, none, none] ∧ Same (upd H tt (.tup [.ref ro, .ref rg, .ref rt])) H') ⟨none, rfl, fun _ _ e => e⟩ (fun i σ H' _ ⟨_, _, q⟩ => SqT.of (q _ _ upd_same)) ?_ ?_⟩⟩
      · rintro i x σ H1 H2 hi ⟨y, rfl, sm⟩ ⟨rfl, ex⟩
        have s1 : Same H H2 := (same_upd nt).trans sm
        have hx : ∃ p d, x = .ref p ∧ RtAt c H2 p d := by
          match i, ex with
          | 0, ex => exact ⟨ro, o, (Option.some.inj ex).symm, hro.same s1⟩
          | 1, ex => exact ⟨rg, g, (Option.some.inj ex).symm, hrg.same s1⟩
          | 2, ex => exact ⟨rt, t, (Option.some.inj ex).symm, hrt.same s1⟩
          | i + 3, ex => simp at ex
        obtain ⟨p, d, rfl, rp⟩ := hx
        exact ⟨_, rfl, d, p, rfl, rp, fun H3 s3 => ⟨_, rfl, iteN rfl ⟨_, rfl, sm.trans s3⟩⟩⟩
      · rintro σ H1 ⟨y, rfl, sm⟩
        exact ⟨y, rfl, (same_upd nt).trans sm⟩
    rintro _ H1 ⟨y, rfl, s1⟩
    -- own_owner
    refine ⟨fun σ H' => σ = [some (.ref a), some (.ref ro), some (.ref rg), some (.ref rt), some .non, some .non, some .non, y, none, none] ∧ SameX a H H' ∧ ∃ x, H' a = some (.ins c.cA dx [("own_owner", .ref x)]) ∧ RtAt c H' x o, ?_, ?_⟩
    · refine ⟨_, rfl, o, ro, rfl, hro.same s1, fun H2 x s2 n2 r2 => ⟨_, rfl, a, c.cA, dx, [], rfl, s2 _ _ (s1 _ _ ea), C.cl, C.nf _ (by decide), by simp, rfl, (s1.trans s2).toX.put, x, upd_same, r2.x sameX_upd (ne_of_none (s1 _ _ ea) n2).symm⟩⟩
    rintro _ H2 ⟨rfl, s2, x1, e2, q1⟩
    have m1 := ne_of_ins q1 e2
    -- own_group
    refine ⟨fun σ H' => σ = [some (.ref a), some (.ref ro), some (.ref rg), some (.ref rt), some .non, some .non, some .non, y, none, none] ∧ SameX a H H' ∧ ∃ x2, H' a = some (.ins c.cA dx [("own_owner", .ref x1), ("own_group", .ref x2)]) ∧ RtAt c H' x1 o ∧ RtAt c H' x2 g, ?_, ?_⟩
    · refine ⟨_, rfl, g, rg, rfl, hrg.x s2 ne2, fun H3 x s3 n3 r3 => ⟨_, rfl, a, c.cA, dx, _, rfl, s3 _ _ e2, C.cl, C.nf _ (by decide), by simp, rfl, (s2.step s3).put, x, upd_same, (q1.same s3).x sameX_upd m1, r3.x sameX_upd (ne_of_none e2 n3).symm⟩⟩
    rintro _ H3 ⟨rfl, s3, x2, e3, q1, q2⟩
    have m2 := ne_of_ins q2 e3
    -- own_other
    refine ⟨fun σ H' => σ = [some (.ref a), some (.ref ro), some (.ref rg), some (.ref rt), some .non, some .non, some .non, y, none, none] ∧ SameX a H H' ∧ ∃ x3, H' a = some (.ins c.cA dx [("own_owner", .ref x1), ("own_group", .ref x2), ("own_other", .ref x3)]) ∧ RtAt c H' x1 o ∧ RtAt c H' x2 g ∧ RtAt c H' x3 t, ?_, ?_⟩
    · refine ⟨_, rfl, t, rt, rfl, hrt.x s3 ne3, fun H4 x s4 n4 r4 => ⟨_, rfl, a, c.cA, dx, _, rfl, s4 _ _ e3, C.cl, C.nf _ (by decide), by simp, rfl, (s3.step s4).put, x, upd_same, (q1.same s4).x sameX_upd m1, (q2.same s4).x sameX_upd m2, r4.x sameX_upd (ne_of_none e3 n4).symm⟩⟩
    rintro _ H4 ⟨rfl, s4, x3, e4, q1, q2, q3⟩
    have m3 := ne_of_ins q3 e4
    -- own_users
    refine ⟨fun σ H' => σ = [some (.ref a), some (.ref ro), some (.ref rg), some (.ref rt), some .non, some .non, some .non, y, none, none] ∧ SameX a H H' ∧ ∃ us, H' a = some (.ins c.cA dx [("own_owner", .ref x1), ("own_group", .ref x2), ("own_other", .ref x3), ("own_users", .ref us)]) ∧ RtAt c H' x1 o ∧ RtAt c H' x2 g ∧ RtAt c H' x3 t ∧ H' us = some (.dK []), ?_, ?_⟩
    · refine ⟨_, rfl, rfl, fun H5 p s5 n5 e5 => ⟨_, rfl, a, c.cA, dx, _, rfl, s5 _ _ e4, C.cl, C.nf _ (by decide), by simp, rfl, (s4.step s5).put, p, upd_same, (q1.same s5).x sameX_upd m1, (q2.same s5).x sameX_upd m2, (q3.same s5).x sameX_upd m3, ?_⟩⟩
      rw [upd_ne (ne_of_none e4 n5).symm]
      exact e5
    rintro _ H5 ⟨rfl, s5, us, e5, q1, q2, q3, u5⟩
    -- own_groups
    refine ⟨fun σ H' => σ = [some (.ref a), some (.ref ro), some (.ref rg), some (.ref rt), some .non, some .non, some .non, y, none, none] ∧ SameX a H H' ∧ ∃ gs, H' a = some (.ins c.cA dx [("own_owner", .ref x1), ("own_group", .ref x2), ("own_other", .ref x3), ("own_users", .ref us), ("own_groups", .ref gs)]) ∧ RtAt c H' x1 o ∧ RtAt c H' x2 g ∧ RtAt c H' x3 t ∧ H' us = some (.dK []) ∧ H' gs = some (.dK []), ?_, ?_⟩
    · refine ⟨_, rfl, rfl, fun H6 p s6 n6 e6 => ⟨_, rfl, a, c.cA, dx, _, rfl, s6 _ _ e5, C.cl, C.nf _ (by decide), by simp, rfl, (s5.step s6).put, p, upd_same, (q1.same s6).x sameX_upd m1, (q2.same s6).x sameX_upd m2, (q3.same s6).x sameX_upd m3, ?_, ?_⟩⟩
      · rw [upd_ne (ne_of u5 e5 fun z => nomatch z)]
        exact s6 _ _ u5
      · rw [upd_ne (ne_of_none e5 n6).symm]
        exact e6
    rintro _ H6 ⟨rfl, s6, gs, e6, q1, q2, q3, u6, g6⟩
    -- no mask
    refine ⟨_, rfl, rfl, _, rfl, iteN rfl (iteN rfl ?_)⟩
    refine ⟨fun σ H' => σ = [some (.ref a), some (.ref ro), some (.ref rg), some (.ref rt), some .non, some .non, some .non, y, none, none] ∧ SameX a H H' ∧ H' a = some (.ins c.cA dx [("own_owner", .ref x1), ("own_group", .ref x2), ("own_other", .ref x3), ("own_users", .ref us), ("own_groups", .ref gs), ("own_mask", .non)]) ∧ RtAt c H' x1 o ∧ RtAt c H' x2 g ∧ RtAt c H' x3 t ∧ H' us = some (.dK []) ∧ H' gs = some (.dK []), ?_, ?_⟩
    · refine ⟨_, rfl, a, c.cA, dx, _, rfl, e6, C.cl, C.nf _ (by decide), by simp, rfl, s6.put, upd_same, q1.x sameX_upd m1, q2.x sameX_upd m2, q3.x sameX_upd m3, ?_, ?_⟩
      · rw [upd_ne (ne_of u6 e6 fun z => nomatch z)]
        exact u6
      · rw [upd_ne (ne_of g6 e6 fun z => nomatch z)]
        exact g6
    rintro _ H7 ⟨rfl, s7, e7, q1, q2, q3, u7, g7⟩
    -- no named entries
    refine ⟨fun σ H' => σ = [some (.ref a), some (.ref ro), some (.ref rg), some (.ref rt), some .non, some .non, some .non, y, none, none] ∧ H7 = H', ?_, ?_⟩
    · refine ⟨_, rfl, rfl, _, rfl, iteN rfl ?_⟩
      refine ⟨_, rfl, a, c.cA, dx, _, _, rfl, e7, C.cl, C.nf _ (by decide), rfl, us, [], rfl, u7, _, rfl, a, c.cA, dx, _, _, rfl, e7, C.cl, C.nf _ (by decide), rfl, gs, [], rfl, g7, _, _, rfl, rfl, _, _, rfl, rfl, _, rfl, iteN rfl ⟨rfl, rfl⟩⟩
    rintro _ _ ⟨rfl, rfl⟩
    -- own_entries
    refine ⟨fun σ H' => σ = [some (.ref a), some (.ref ro), some (.ref rg), some (.ref rt), some .non, some .non, some .non, y, none, none] ∧ ∃ es l, l.length ≤ 1 ∧ AlM c a dx x1 x2 x3 us gs es o g t l H H', ?_, ?_⟩
    · refine ⟨_, rfl, a, c.cA, dx, _, _, rfl, e7, C.cl, C.nf _ (by decide), rfl, smL (by simp), fun tt nt => ⟨smL (by simp), fun es nes => ?_⟩⟩
      have ea8 : (upd (upd H7 tt (.tup [.str "owner", .str "", .ref x1])) es (.lst [.ref tt])) a = some (.ins c.cA dx [("own_owner", .ref x1), ("own_group", .ref x2), ("own_other", .ref x3), ("own_users", .ref us), ("own_groups", .ref gs), ("own_mask", .non)]) := upd_old (upd_old e7 nt) nes
      have hea : a ≠ es := ne_of_none (upd_old e7 nt) nes
      have s8 : Same H7 (upd (upd H7 tt (.tup [.str "owner", .str "", .ref x1])) es (.lst [.ref tt])) := same_new (same_upd nt) (nn nes)
      refine ⟨_, rfl, a, c.cA, dx, _, rfl, ea8, C.cl, C.nf _ (by decide), by simp, rfl, es, [.ref tt], by simp, ?_⟩
      refine ⟨(s7.step s8).put, upd_same, ?_, ?_, (q1.same s8).x sameX_upd m1, (q2.same s8).x sameX_upd m2, (q3.same s8).x sameX_upd m3, ?_, ?_⟩
      · cases eh : H es with
        | none => rfl
        | some v =>
          have := s7 es v hea.symm eh
          rw [nn nes] at this
          cases this
      · rw [upd_ne hea.symm]
        exact upd_same
      · rw [upd_ne (ne_of u7 e7 fun z => nomatch z)]
        exact s8 _ _ u7
      · rw [upd_ne (ne_of g7 e7 fun z => nomatch z)]
        exact s8 _ _ g7
    rintro _ H8 ⟨rfl, es, l, hl, A8⟩
    -- the users' entries: none
    refine ⟨fun σ H' => σ = [some (.ref a), some (.ref ro), some (.ref rg), some (.ref rt), some .non, some .non, some .non, y, none, none] ∧ ∃ es l, l.length ≤ 1 ∧ AlM c a dx x1 x2 x3 us gs es o g t l H H', ?_, ?_⟩
    · refine ⟨_, rfl, a, c.cA, dx, _, _, rfl, A8.ea, C.cl, C.nf _ (by decide), rfl, us, _, A8.u, trivial, fun od => ?_⟩
      have hau : a ≠ us := ne_of A8.ea A8.u fun z => nomatch z
      have heu : es ≠ us := ne_of A8.el A8.u fun z => nomatch z
      refine ⟨_, rfl, a, c.cA, dx, _, _, rfl, by rw [upd_ne hau]; exact A8.ea, C.cl, C.nf _ (by decide), rfl, us, od, rfl, .inl ⟨[], upd_same, fun D nD => ?_⟩⟩
      refine ⟨fun i m H9 => i = 0 ∧ upd (upd H8 us (.frz od (.dK []))) D (.lst []) = H9, ⟨0, rfl, rfl⟩, ?_⟩
      · rintro _ m H9 ⟨rfl, rfl⟩
        refine .inl ⟨(walk_keys (kvs := [])).stops _ (upd_old upd_same nD), ?_⟩
        refine ⟨upd_old upd_same nD, ?_⟩
        have sL : Same H8 (upd (upd (upd H8 us (.frz od (.dK []))) D (.lst [])) us (.dK [])) := lock_same A8.u (same_upd nD)
        have A9 := A8.step sL
        have hDu : D ≠ us := fun z => by subst z; rw [upd_same] at nD; cases nD
        refine ⟨es, D, l, [], rfl, rfl, A9.el, by rw [upd_ne hDu, upd_same], smL (by simp; omega), dx, _, A9.put.ea, by simp, rfl, es, l ++ [], by simp; omega, ?_⟩
        exact A9.put.re
    rintro _ H9 ⟨rfl, es, l, hl, A9⟩
    -- append
    refine ⟨fun σ H' => σ = [some (.ref a), some (.ref ro), some (.ref rg), some (.ref rt), some .non, some .non, some .non, y, none, none] ∧ ∃ es l, l.length ≤ 2 ∧ AlM c a dx x1 x2 x3 us gs es o g t l H H', ?_, ?_⟩
    · refine ⟨_, rfl, a, c.cA, dx, _, _, rfl, A9.ea, C.cl, C.nf _ (by decide), rfl, .inl ⟨rfl, _, SqL.of A9.el⟩, ?_⟩
      refine ⟨_, rfl, a, c.cA, dx, _, _, rfl, A9.ea, C.cl, C.nf _ (by decide), rfl, smL (by simp), fun tt nt => ?_⟩
      have A10 := A9.step (same_upd nt (o := .tup [.str "group", .str "", .ref x2]))
      exact ⟨es, l, _, rfl, rfl, A10.el, smT (by omega), rfl, es, _, by simp; omega, A10.put⟩
    rintro _ H10 ⟨rfl, es, l, hl, A10⟩
    -- the groups' entries: none
    refine ⟨fun σ H' => σ = [some (.ref a), some (.ref ro), some (.ref rg), some (.ref rt), some .non, some .non, some .non, y, none, none] ∧ ∃ es l, l.length ≤ 2 ∧ AlM c a dx x1 x2 x3 us gs es o g t l H H', ?_, ?_⟩
    · refine ⟨_, rfl, a, c.cA, dx, _, _, rfl, A10.ea, C.cl, C.nf _ (by decide), rfl, gs, _, A10.gr, trivial, fun od => ?_⟩
      have hau : a ≠ gs := ne_of A10.ea A10.gr fun z => nomatch z
      have heu : es ≠ gs := ne_of A10.el A10.gr fun z => nomatch z
      refine ⟨_, rfl, a, c.cA, dx, _, _, rfl, by rw [upd_ne hau]; exact A10.ea, C.cl, C.nf _ (by decide), rfl, gs, od, rfl, .inl ⟨[], upd_same, fun D nD => ?_⟩⟩
      refine ⟨fun i m H9 => i = 0 ∧ upd (upd H10 gs (.frz od (.dK []))) D (.lst []) = H9, ⟨0, rfl, rfl⟩, ?_⟩
      · rintro _ m H9 ⟨rfl, rfl⟩
        refine .inl ⟨(walk_keys (kvs := [])).stops _ (upd_old upd_same nD), ?_⟩
        refine ⟨upd_old upd_same nD, ?_⟩
        have sL : Same H10 (upd (upd (upd H10 gs (.frz od (.dK []))) D (.lst [])) gs (.dK [])) := lock_same A10.gr (same_upd nD)
        have A9 := A10.step sL
        have hDu : D ≠ gs := fun z => by subst z; rw [upd_same] at nD; cases nD
        refine ⟨es, D, l, [], rfl, rfl, A9.el, by rw [upd_ne hDu, upd_same], smL (by simp; omega), dx, _, A9.put.ea, by simp, rfl, es, l ++ [], by simp; omega, ?_⟩
        exact A9.put.re
    rintro _ H11 ⟨rfl, es, l, hl, A11⟩
    refine ⟨_, rfl, a, c.cA, dx, _, _, rfl, A11.ea, C.cl, C.nf _ (by decide), rfl, rfl, _, rfl, iteN rfl ?_⟩
    refine ⟨_, rfl, a, c.cA, dx, _, _, rfl, A11.ea, C.cl, C.nf _ (by decide), rfl, .inl ⟨rfl, _, SqL.of A11.el⟩, ?_⟩
    refine ⟨_, rfl, a, c.cA, dx, _, _, rfl, A11.ea, C.cl, C.nf _ (by decide), rfl, smL (by simp), fun tt nt => ?_⟩
    have A12 := A11.step (same_upd nt (o := .tup [.str "other", .str "", .ref x3]))
    refine ⟨es, l, _, rfl, rfl, A12.el, smT (by omega), ?_⟩
    have A13 := A12.put (l' := l ++ [.ref tt])
    exact k _ A13.sx ⟨dx, x1, x2, x3, us, gs, es, A13.ea, A13.r1, A13.r2, A13.r3, A13.u, A13.gr⟩
end K37
end
section
set_option Elab.async false
set_option linter.all false
set_option maxRecDepth 100000
set_option maxHeartbeats 4000000
/-! K3f: access lists: plain, parts; people. -/
namespace K37
open PySem PySem.Spec PyProof.Rows L2 StX ClX SX
open C8 (sl_txt rSlX pss_cut tCut)
def spPlain (c : Ct) : Sp := fun vs H Q _ => ∃ o g t, vs = [.ref c.cA, .str (oT o g t)] ∧ o < 8 ∧ g < 8 ∧ t < 8 ∧ ∀ H' x, Same H H' → H x = none → AlAt c H' x o g t → Q (.ref x) H'
theorem ok_plain {c : Ct} (T : TxL c) : HasC c c.cA "plain" 8 (spPlain c) := by
  obtain ⟨mc, p, f, fd, CR, CM, F⟩ := T.plain
  obtain ⟨fI, MI, GI⟩ := mk_A T
  obtain ⟨fR, mR, kR, GR⟩ := ok_rights_of_digits T
  refine ⟨mc, p, f, CR, CM, rawN (ps := ["cls", "digits"]) F (okD F sc_A_plain ?_ ?_) (fun _ _ _ _ _ _ us hl => match us, hl with | [_, _], _ => rfl)⟩
  · rintro vs H Q E ⟨_, _, _, rfl, _⟩
    rfl
  · rintro cdv A outer s H vs Q E hr ⟨o, g, t, rfl, ho, hg, ht, k⟩
    refine ⟨_, pss_cons (ps_asg (pe_cR GR hr (by decide) kR rfl mR (pa_cons (pv 1) pa_nil)) (pg_lst rfl (pgs_cons (pg_name (i := 2) sc_A_plain.nd rfl (Or.inl rfl)) (pgs_cons (pg_name (i := 3) sc_A_plain.nd rfl (Or.inl rfl)) (pgs_cons (pg_name (i := 4) sc_A_plain.nd rfl (Or.inl rfl)) pgs_nil))))) (pss_one (ps_ret (pe_mkL 0 MI GI hr (by decide) (pa_cons (pv 2) (pa_cons (pv 3) (pa_cons (pv 4) pa_nil)))))), ?_⟩
    refine ⟨_, rfl, o, g, t, rfl, ho, hg, ht, fun H1 r x y z s1 n1 e1 rx ry rz => ?_⟩
    refine ⟨r, _, rfl, SqL.of e1, rfl, _, _, rfl, _, _, rfl, _, _, rfl, rfl, ?_⟩
    refine ⟨rfl, _, rfl, _, rfl, _, rfl, fun a dx na nd ne => ?_⟩
    have sN : Same H1 (upd (upd H1 dx (.own a)) a (.ins c.cA dx [])) := same_new (same_upd nd) na
    exact ⟨a, dx, x, y, z, o, g, t, rfl, upd_same, rx.same sN, ry.same sN, rz.same sN, fun H' s' al => ⟨rfl, k _ _ (s1.trans (s'.made na nd)) (s1.none na) al⟩⟩
def HasS (c : Ct) (C : Addr) (m : Str) (k : Nat) (sp : Sp) : Prop := ∃ mc p g, CRead c.K C mc ∧ StMet c.K C mc m p g ∧ FnR c.P c.w c.K c.mg c.base CX0 k g sp
def spEvery (c : Ct) : Sp := fun vs H Q _ => vs = [] ∧ ∀ H' x, Same H H' → H x = none → AlAt c H' x 7 7 7 → Q (.ref x) H'
theorem ok_every {c : Ct} (T : TxL c) : HasS c c.cA "everything" 9 (spEvery c) := by
  obtain ⟨mc, p, f, fd, CR, SM, F⟩ := T.everything
  obtain ⟨mcP, pP, fP, CRP, CMP, GP⟩ := ok_plain T
  refine ⟨mc, p, f, CR, SM, rawN (ps := []) F (okD F sc_A_everything ?_ ?_) (fun _ _ _ _ _ _ us hl => match us, hl with | [], _ => rfl)⟩
  · rintro vs H Q E ⟨rfl, _⟩
    rfl
  · rintro cdv A outer s H vs Q E hr ⟨rfl, k⟩
    refine ⟨_, pss_one (ps_ret (pe_cmR CRP CMP GP hr (by decide) (pe_glob (v := .ref c.cA) rfl T.clA.mg rfl) (pa_cons (pe_str) pa_nil))), ?_⟩
    exact ⟨rfl, 7, 7, 7, rfl, by decide, by decide, by decide, k⟩
/-- a property that gives a field -/
def spFld (C : Addr) (f : Str) : Sp := fun vs H Q _ => ∃ a dx fs v, vs = [.ref a] ∧ H a = some (.ins C dx fs) ∧ fs.lookup f = some v ∧ Q v H
theorem pr_fld {c : Ct} {C : Addr} {name m qual f : Str} {fs : List Str} {st : Stmt} {p1 p2 p3 : Pos} (T : Cla c name C fs) (P : ProD c C m qual st) (hS : FnScope ["self"] ["self"] (defScope st)) (hv : Vis (defScope st) "self")
    (hb : defBody st = [.Return (some (.Attribute (.Name "self" p1) f p2)) p3]) (hf : f ∈ fs)
    (h : ∀ (kV doc pm : Value) (an : Option Addr) (cdv ct : Value) (us : List Value), us.length = 1 → bindArgs (PySem.W.fnOf m qual (defArgs st) (defBody st) (defScope st) .none kV doc pm an cdv ct) ⟨us, []⟩ = pure ((["self"] : List Str).zip us)) : HasPr c C m 1 (spFld C f) := by
  obtain ⟨p, g, fd, PR, F⟩ := P
  refine ⟨p, g, fd, ["self"], PR, okD (N := ["self"]) F hS ?_ ?_, F.bindsN h⟩
  · rintro vs H Q E ⟨a, _, _, _, rfl, _⟩
    rfl
  · rintro cdv A outer s H vs Q E hr ⟨a, dx, l, v, rfl, e, hl, k⟩
    rw [hb]
    refine ⟨_, pss_one (ps_ret (pe_fld (pe_var (i := 0) rfl hv) rfl)), ?_⟩
    exact ⟨_, rfl, a, C, dx, l, v, rfl, e, T.cl, T.nf _ hf, hl, k⟩
theorem pr_Aowner {c : Ct} (T : TxL c) : HasPr c c.cA "owner" 1 (spFld c.cA "own_owner") := pr_fld T.clA T.Aowner sc_A_owner (.inl rfl) rfl (by decide) (fun _ _ _ _ _ _ us hl => match us, hl with | [_], _ => rfl)
theorem pr_Agroup {c : Ct} (T : TxL c) : HasPr c c.cA "group" 1 (spFld c.cA "own_group") := pr_fld T.clA T.Agroup sc_A_group (.inl rfl) rfl (by decide) (fun _ _ _ _ _ _ us hl => match us, hl with | [_], _ => rfl)
theorem pr_Aother {c : Ct} (T : TxL c) : HasPr c c.cA "other" 1 (spFld c.cA "own_other") := pr_fld T.clA T.Aother sc_A_other (.inl rfl) rfl (by decide) (fun _ _ _ _ _ _ us hl => match us, hl with | [_], _ => rfl)
theorem pr_Amask {c : Ct} (T : TxL c) : HasPr c c.cA "mask" 1 (spFld c.cA "own_mask") := pr_fld T.clA T.Amask sc_A_mask (.inl rfl) rfl (by decide) (fun _ _ _ _ _ _ us hl => match us, hl with | [_], _ => rfl)
def spANone (c : Ct) : Sp := fun vs H Q _ => ∃ a o g t, vs = [.ref a] ∧ AlAt c H a o g t ∧ ∀ H' d, Same H H' → H d = none → H' d = some (.dK []) → Q (.ref d) H'
theorem ok_Ausers {c : Ct} (T : TxL c) : HasM c c.cA "users" 1 (spANone c) := by
  obtain ⟨f, fd, M, F⟩ := T.Ausers
  have C := T.clA
  refine ⟨f, M, rawN (ps := ["self"]) F (okD F sc_A_users ?_ ?_) (fun _ _ _ _ _ _ us hl => match us, hl with | [_], _ => rfl)⟩
  · rintro vs H Q E ⟨_, _, _, _, rfl, _⟩
    rfl
  · rintro cdv A outer s H vs Q E hr ⟨a, o, g, t, rfl, ⟨dx, ro, rg, rt, us, gs, es, e, r1, r2, r3, e1, e2⟩, k⟩
    refine ⟨_, pss_one (ps_ret (pe_callTy (call_dictD) rfl T.dict (by decide +kernel) (pa_cons (pe_fld (pv 0) rfl) pa_nil))), ?_⟩
    refine ⟨_, rfl, a, c.cA, dx, _, _, rfl, e, C.cl, C.nf _ (by decide), rfl, us, _, rfl, .inl e1, fun p np => k _ p (same_upd np) np upd_same⟩
theorem ok_Agroups {c : Ct} (T : TxL c) : HasM c c.cA "groups" 1 (spANone c) := by
  obtain ⟨f, fd, M, F⟩ := T.Agroups
  have C := T.clA
  refine ⟨f, M, rawN (ps := ["self"]) F (okD F sc_A_groups ?_ ?_) (fun _ _ _ _ _ _ us hl => match us, hl with | [_], _ => rfl)⟩
  · rintro vs H Q E ⟨_, _, _, _, rfl, _⟩
    rfl
  · rintro cdv A outer s H vs Q E hr ⟨a, o, g, t, rfl, ⟨dx, ro, rg, rt, us, gs, es, e, r1, r2, r3, e1, e2⟩, k⟩
    refine ⟨_, pss_one (ps_ret (pe_callTy (call_dictD) rfl T.dict (by decide +kernel) (pa_cons (pe_fld (pv 0) rfl) pa_nil))), ?_⟩
    refine ⟨_, rfl, a, c.cA, dx, _, _, rfl, e, C.cl, C.nf _ (by decide), rfl, gs, _, rfl, .inl e2, fun p np => k _ p (same_upd np) np upd_same⟩
end K37
end
section
set_option Elab.async false
set_option linter.all false
set_option maxRecDepth 100000
set_option maxHeartbeats 4000000
/-! K3g: people, the judge. -/
namespace K37
open PySem PySem.Spec PyProof.Rows L2 StX ClX SX
open C8 (sl_txt rSlX pss_cut tCut)
/-- an expression whose value, a dict, is held as it stands from here on -/
def tFrz (te : TE) : TE := fun σ H Q => te σ H fun x H1 => ∃ d u, x = .ref d ∧ H1 d = some u ∧ Mut (some u) ∧ ∀ od, Q (.ref d) (upd H1 d (.frz od u))
theorem pe_frz {X : Cx} {e : Expr} {te : TE} (he : PE X e te) : PE X e (tFrz te) := by
  refine ⟨fun pins s σ H Q I h => ?_⟩
  refine thn (he.run pins s σ H _ I h) fun v s1 ⟨x, H1, I1, r1, d, u, ex, ed, mu, q⟩ => ?_
  obtain ⟨od, I2⟩ := I1.lock ed mu
  subst ex
  exact ⟨_, _, I2, r1, q od⟩
structure TxP (c : Ct) : Prop extends TxL c where
  nob : ∃ t, c.mg "NOBODY" = some (.str "root" t)
  mostU : ∃ t, c.mg "MOST_USERS" = some (.int 6 t)
  mostG : ∃ t, c.mg "MOST_GROUPS" = some (.int 6 t)
  is_list : DefG c "is_list" "is_list" s_is_list
  is_folk : DefG c "is_folk" "is_folk" s_is_folk
  are_groups : DefG c "are_groups" "are_groups" s_are_groups
  clP : Cla c "People" c.cP ["own_members", "own_groups"]
  mkP : MkD c c.cP "People.__init__" s_P_init [] []
  Pcontains : ∃ g fd, PySem.W.findIn c.K (.ref c.cP) "__contains__" = some (some (.ref g)) ∧ PySem.W.isFn c.K (.ref g) = true ∧ FunD c.K "__contains__" "People.__contains__" (defArgs s_P_contains) (defBody s_P_contains) (defScope s_P_contains) [] [] g fd
  Pusers : MetD c c.cP "users" "People.users" s_P_users
  Pneed_user : MetD c c.cP "need_user" "People.need_user" s_P_need_user
  Pgroups_of : MetD c c.cP "groups_of" "People.groups_of" s_P_groups_of
  Pfirst_group : MetD c c.cP "first_group" "People.first_group" s_P_first_group
  clJ : Cla c "Judge" c.cJ ["own_people"]
  mkJ : MkD c c.cJ "Judge.__init__" s_J_init [] []
  Jcall : ∃ g fd, CallO c.K c.cJ g ∧ FunD c.K "__call__" "Judge.__call__" (defArgs s_J_call) (defBody s_J_call) (defScope s_J_call) [] [] g fd
  Jneed_case : MetD c c.cJ "need_case" "Judge.need_case" s_J_need_case
  Jentries_for : MetD c c.cJ "entries_for" "Judge.entries_for" s_J_entries_for
  Jdeciding : MetD c c.cJ "deciding" "Judge.deciding" s_J_deciding
/-! ### people -/
def root : List Nat := [114, 111, 111, 116]
theorem root_S : (Str.ofString "root") = S root := rfl
def UsOk (us : List (List Nat)) : Prop := us.length ≤ 6 ∧ us.Nodup ∧ ∀ u ∈ us, okN u ∧ u ≠ root
def GrpOk (gs : List Str) : Prop := gs = [Str.ofString "staff"] ∨ gs = [Str.ofString "chess", Str.ofString "staff"]
def PeAt (c : Ct) (H : Hp) (p : Addr) (us : List (List Nat)) : Prop := ∃ dx m g kvs, H p = some (.ins c.cP dx [("own_members", .ref m), ("own_groups", .ref g)]) ∧ H m = some (.dK kvs) ∧ kvs.map (·.1) = us.map (fun u => (Sum.inr (S u) : Key)) ∧
  ∀ q ∈ kvs, ∃ t gs, q.2 = .ref t ∧ H t = some (.tup (gs.map V.str)) ∧ GrpOk gs
theorem PeAt.same {c : Ct} {H H' : Hp} {p : Addr} {us : List (List Nat)} (h : PeAt c H p us) (s : Same H H') : PeAt c H' p us := by
  obtain ⟨dx, m, g, kvs, e1, e2, e3, e4⟩ := h
  exact ⟨dx, m, g, kvs, s _ _ e1, s _ _ e2, e3, fun q hq => (e4 q hq).imp fun t ⟨gs, a, b, d⟩ => ⟨gs, a, s _ _ b, d⟩⟩
theorem val_at : ∀ {kvs : List (Key × V)} {k : Key}, k ∈ kvs.map (·.1) → ∃ v, valV kvs k = some v ∧ (k, v) ∈ kvs
  | [], _, h => by simp at h
  | q :: r, k, h => by
    by_cases e : q.1 = k
    · exact ⟨q.2, valV_pos e, by rw [← e]; exact List.mem_cons_self⟩
    · obtain ⟨v, h1, h2⟩ := val_at (kvs := r) (k := k) (by
        rcases List.mem_cons.mp h with h | h
        · exact absurd h.symm e
        · exact h)
      exact ⟨v, by rw [valV_neg e]; exact h1, List.mem_cons_of_mem _ h2⟩
def spPUser (c : Ct) (r : Hp → VK → Prop) : Sp := fun vs H Q _ => ∃ p us u, vs = [.ref p, .str (S u)] ∧ PeAt c H p us ∧ u ∈ us ∧ r H Q
def spPHas (c : Ct) : Sp := spPUser c fun H Q => ∀ H', Same H H' → Q (.bl true) H'
def spPNeed (c : Ct) : Sp := spPUser c fun H Q => ∀ H', Same H H' → Q .non H'
def spPGroups (c : Ct) : Sp := spPUser c fun H Q => ∀ H' l gs, Same H H' → H l = none → H' l = some (.lst (gs.map V.str)) → GrpOk gs → Q (.ref l) H'
def spPFirst (c : Ct) : Sp := spPUser c fun H Q => ∀ H' g, Same H H' → Q (.str g) H'
def HasIn (c : Ct) (C : Addr) (k : Nat) (sp : Sp) : Prop := ∃ g, PySem.W.findIn c.K (.ref C) "__contains__" = some (some (.ref g)) ∧ PySem.W.isFn c.K (.ref g) = true ∧ FnR c.P c.w c.K c.mg c.base CX0 k g sp
theorem ok_Pcontains {c : Ct} (T : TxP c) : HasIn c c.cP 1 (spPHas c) := by
  obtain ⟨g, fd, h1, h2, F⟩ := T.Pcontains
  have C := T.clP
  refine ⟨g, h1, h2, rawN (ps := ["self", "value"]) F (okD F sc_P_contains ?_ ?_) (fun _ _ _ _ _ _ us hl => match us, hl with | [_, _], _ => rfl)⟩
  · rintro vs H Q E ⟨_, _, _, rfl, _⟩
    rfl
  · rintro cdv A outer s H vs Q E hr ⟨p, us, u, rfl, ⟨dx, m, g, kvs, e1, e2, e3, e4⟩, hu, k⟩
    refine ⟨_, pss_one (ps_ret (pe_and (pe_callB call_isi rfl T.isin boot_isinstance (pa_cons (pv 1) (pa_cons (pe_bltn (v := .ty "str") rfl T.str boot_str rfl) pa_nil))) (pe_one (pe_cmp (pc_din (hu_of hr) (pv 1) (pe_fld (pv 0) rfl)) rfl)))), ?_⟩
    refine ⟨_, rfl, _, _, _, _, true, rfl, .ty _, .base (.str _), kit_ty (by decide +kernel), true, rfl, iteY rfl ⟨_, rfl, _, rfl, p, c.cP, dx, _, _, rfl, e1, C.cl, C.nf _ (by decide), rfl, m, _, rfl, DGet.k (k := Sum.inr (S u)) e2, ?_⟩⟩
    obtain ⟨v, hv, _⟩ := val_at (kvs := kvs) (k := Sum.inr (S u)) (by rw [e3]; exact List.mem_map.mpr ⟨u, hu, rfl⟩)
    rw [hv]
    exact k _ fun _ _ e => e
theorem ok_Pneed {c : Ct} (T : TxP c) : HasM c c.cP "need_user" 1 (spPNeed c) := by
  obtain ⟨f, fd, M, F⟩ := T.Pneed_user
  have C := T.clP
  refine ⟨f, M, rawN (ps := ["self", "user"]) F (okD F sc_P_need_user ?_ ?_) (fun _ _ _ _ _ _ us hl => match us, hl with | [_, _], _ => rfl)⟩
  · rintro vs H Q E ⟨_, _, _, rfl, _⟩
    rfl
  · rintro cdv A outer s H vs Q E hr ⟨p, us, u, rfl, ⟨dx, m, g, kvs, e1, e2, e3, e4⟩, hu, k⟩
    refine ⟨_, pss_one (ps_if (PW.pt (pw_or (pt_not (pt_val (pe_callB call_isi rfl T.isin boot_isinstance (pa_cons (pv 1) (pa_cons (pe_bltn (v := .ty "str") rfl T.str boot_str rfl) pa_nil))))) (pw_or1 (pt_cmp (pc_dnotin (hu_of hr) (pv 1) (pe_fld (pv 0) rfl)))))) pss_never pss_nil), ?_⟩
    refine ⟨_, rfl, _, _, _, _, true, rfl, .ty _, .base (.str _), kit_ty (by decide +kernel), true, rfl, iteN rfl ⟨_, rfl, _, rfl, p, c.cP, dx, _, _, rfl, e1, C.cl, C.nf _ (by decide), rfl, m, _, rfl, DGet.k (k := Sum.inr (S u)) e2, _, rfl, ?_⟩⟩
    obtain ⟨v, hv, _⟩ := val_at (kvs := kvs) (k := Sum.inr (S u)) (by rw [e3]; exact List.mem_map.mpr ⟨u, hu, rfl⟩)
    rw [hv]
    exact k _ fun _ _ e => e
theorem ok_Pgroups {c : Ct} (T : TxP c) : HasM c c.cP "groups_of" 2 (spPGroups c) := by
  obtain ⟨f, fd, M, F⟩ := T.Pgroups_of
  obtain ⟨fN, MN, GN⟩ := ok_Pneed T
  have C := T.clP
  have CN := C.cl
  refine ⟨f, M, rawN (ps := ["self", "user"]) F (okD F sc_P_groups_of ?_ ?_) (fun _ _ _ _ _ _ us hl => match us, hl with | [_, _], _ => rfl)⟩
  · rintro vs H Q E ⟨_, _, _, rfl, _⟩
    rfl
  · rintro cdv A outer s H vs Q E hr ⟨p, us, u, rfl, hp, hu, k⟩
    refine ⟨_, pss_cons (ps_expr (pe_mR CN MN GN hr (by decide) (pv 0) (pa_cons (pv 1) pa_nil))) (pss_one (ps_ret (pe_callTy (call_list_of) rfl T.list (by decide +kernel) (pa_cons (pe_dget (hu_of hr) (pe_fld (pv 0) rfl) (pv 1) (fun _ _ => rfl)) pa_nil)))), ?_⟩
    have hp' := hp
    obtain ⟨dx, m, g, kvs, e1, e2, e3, e4⟩ := hp
    refine ⟨_, rfl, p, dx, _, rfl, e1, rfl, _, rfl, p, us, u, rfl, hp', hu, fun H1 s1 => ?_⟩
    obtain ⟨v, hv, hm⟩ := val_at (kvs := kvs) (k := Sum.inr (S u)) (by rw [e3]; exact List.mem_map.mpr ⟨u, hu, rfl⟩)
    obtain ⟨t, gs, ev, et, hg⟩ := e4 _ hm
    have ev : v = .ref t := ev
    subst ev
    refine ⟨_, rfl, p, c.cP, dx, _, _, rfl, s1 _ _ e1, C.cl, C.nf _ (by decide), rfl, _, rfl, m, _, rfl, by rw [← hv]; exact DGet.k (k := Sum.inr (S u)) (s1 _ _ e2), t, _, rfl, .inr (SqT.of (s1 _ _ et)), fun l nl => ?_⟩
    exact k _ l gs (s1.trans (same_upd nl)) (s1.none nl) upd_same hg
theorem ok_Pfirst {c : Ct} (T : TxP c) : HasM c c.cP "first_group" 2 (spPFirst c) := by
  obtain ⟨f, fd, M, F⟩ := T.Pfirst_group
  obtain ⟨fN, MN, GN⟩ := ok_Pneed T
  have C := T.clP
  have CN := C.cl
  refine ⟨f, M, rawN (ps := ["self", "user"]) F (okD F sc_P_first_group ?_ ?_) (fun _ _ _ _ _ _ us hl => match us, hl with | [_, _], _ => rfl)⟩
  · rintro vs H Q E ⟨_, _, _, rfl, _⟩
    rfl
  · rintro cdv A outer s H vs Q E hr ⟨p, us, u, rfl, hp, hu, k⟩
    refine ⟨_, pss_cons (ps_expr (pe_mR CN MN GN hr (by decide) (pv 0) (pa_cons (pv 1) pa_nil))) (pss_one (ps_ret (pe_ix ix_tup (pe_dget (hu_of hr) (pe_fld (pv 0) rfl) (pv 1) (fun _ _ => rfl)) pe_int (fun _ _ => rfl)))), ?_⟩
    have hp' := hp
    obtain ⟨dx, m, g, kvs, e1, e2, e3, e4⟩ := hp
    refine ⟨_, rfl, p, dx, _, rfl, e1, rfl, _, rfl, p, us, u, rfl, hp', hu, fun H1 s1 => ?_⟩
    obtain ⟨v, hv, hm⟩ := val_at (kvs := kvs) (k := Sum.inr (S u)) (by rw [e3]; exact List.mem_map.mpr ⟨u, hu, rfl⟩)
    obtain ⟨t, gs, ev, et, hg⟩ := e4 _ hm
    have ev : v = .ref t := ev
    subst ev
    obtain ⟨g0, hg0⟩ : ∃ g0, atI (gs.map V.str) 0 = some (.str g0) := by
      rcases hg with rfl | rfl
      · exact ⟨_, rfl⟩
      · exact ⟨_, rfl⟩
    refine ⟨_, rfl, p, c.cP, dx, _, _, rfl, s1 _ _ e1, C.cl, C.nf _ (by decide), rfl, _, rfl, m, _, rfl, by rw [← hv]; exact DGet.k (k := Sum.inr (S u)) (s1 _ _ e2), t, _, _, _, rfl, rfl, SqT.of (s1 _ _ et), hg0, ?_⟩
    exact k _ g0 s1
/-- the users, by their names -/
def usV (us : List (List Nat)) : List V := (us.map S).map V.str
def spPUsers (c : Ct) : Sp := fun vs H Q _ => ∃ p us, vs = [.ref p] ∧ PeAt c H p us ∧ ∀ H' l, Same H H' → H l = none → H' l = some (.lst (usV us)) → Q (.ref l) H'
theorem ok_Pusers {c : Ct} (T : TxP c) : HasM c c.cP "users" 1 (spPUsers c) := by
  obtain ⟨f, fd, M, F⟩ := T.Pusers
  have C := T.clP
  refine ⟨f, M, rawN (ps := ["self"]) F (okD F sc_P_users ?_ ?_) (fun _ _ _ _ _ _ us hl => match us, hl with | [_], _ => rfl)⟩
  · rintro vs H Q E ⟨_, _, rfl, _⟩
    rfl
  · rintro cdv A outer s H vs Q E hr ⟨p, us, rfl, ⟨dx, m, g, kvs, e1, e2, e3, e4⟩, k⟩
    refine ⟨_, pss_one (ps_ret (pe_callTy (call_listD rfl) rfl T.list (by decide +kernel) (pa_cons (pe_fld (pv 0) rfl) pa_nil))), ?_⟩
    refine ⟨_, rfl, p, c.cP, dx, _, _, rfl, e1, C.cl, C.nf _ (by decide), rfl, m, _, rfl, .inl e2, fun l nl => ?_⟩
    refine k _ l (same_upd nl) nl ?_
    have e : kvs.map (fun kv => kV kv.1) = usV us := by
      have : kvs.map (fun kv => kV kv.1) = (kvs.map (·.1)).map kV := by rw [List.map_map]; rfl
      rw [this, e3, List.map_map, usV, List.map_map]
      rfl
    rw [upd_same, e]
end K37
end
section
set_option Elab.async false
set_option linter.all false
set_option maxRecDepth 100000
set_option maxHeartbeats 4000000
/-! K3h: the judge. -/
namespace K37
open PySem PySem.Spec PyProof.Rows L2 StX ClX SX
open C8 (sl_txt rSlX pss_cut tCut)
theorem pt_never {X : Cx} {e : Expr} : PT X e (fun _ _ _ => False) := ⟨fun _ _ _ _ _ _ h => h.elim⟩
theorem ip_ext {X : Cx} : PIp X .Add rExt2 := fun pins s σ H x y v u Q I r1 r2 h => iop_ext pins s σ H x y v u Q I r1 r2 h
def JuAt (c : Ct) (H : Hp) (j p : Addr) : Prop := ∃ dx, H j = some (.ins c.cJ dx [("own_people", .ref p)])
def spJInit (c : Ct) : Sp := fun vs H Q _ => ∃ a p us dx, vs = [.ref a, .ref p] ∧ H a = some (.ins c.cJ dx []) ∧ PeAt c H p us ∧ ∀ H', SameX a H H' → JuAt c H' a p → Q .non H'
theorem mk_J {c : Ct} (T : TxP c) : HasMk c c.cJ 1 (spJInit c) := by
  obtain ⟨f, fd, M, F⟩ := T.mkJ
  have C := T.clJ
  refine ⟨f, M, rawN (ps := ["self", "people"]) F (okD F sc_J_init ?_ ?_) (fun _ _ _ _ _ _ us hl => match us, hl with | [_, _], _ => rfl)⟩
  · rintro vs H Q E ⟨_, _, _, _, rfl, _⟩
    rfl
  · rintro cdv A outer s H vs Q E hr ⟨a, p, us, dx, rfl, ea, ⟨dp, m, g, kvs, ep, _⟩, k⟩
    refine ⟨_, pss_cons (ps_if (pt_not (pt_val (pe_callB call_isi rfl T.isin boot_isinstance (pa_cons (pv 1) (pa_cons ((pe_glob (v := .ref c.cP) rfl T.clP.mg rfl)) pa_nil))))) pss_never pss_nil) (pss_one (ps_fld (pv 0) (pv 1) rfl)), ?_⟩
    refine ⟨_, rfl, _, _, _, _, true, rfl, .own _, tyOf T.clP ep, kit_same, true, rfl, iteN rfl ?_⟩
    exact ⟨_, rfl, _, rfl, a, c.cJ, dx, [], rfl, ea, C.cl, C.nf _ (by decide), by simp, k _ sameX_upd ⟨dx, upd_same⟩⟩
/-- what the judge is asked: a user who is neither owner nor of the group; others have t -/
structure JCase (c : Ct) (H : Hp) (j p : Addr) (us : List (List Nat)) (u : List Nat) (a : Addr) (o g t : Nat) : Prop where
  ju : JuAt c H j p
  pe : PeAt c H p us
  mem : u ∈ us
  ne : u ≠ root
  al : AlAt c H a o g t
theorem JCase.same {c : Ct} {H H' : Hp} {j p : Addr} {us : List (List Nat)} {u : List Nat} {a : Addr} {o g t : Nat} (h : JCase c H j p us u a o g t) (s : Same H H') : JCase c H' j p us u a o g t :=
  ⟨h.ju.imp fun _ e => s _ _ e, h.pe.same s, h.mem, h.ne, h.al.same s⟩
theorem root_ne {u : List Nat} (h : u ≠ root) : decide (V.str (S u) = V.str (Str.ofString "root")) = false := decide_eq_false fun z => h (S_inj (V.str.inj z))
def spJ (c : Ct) (r : Nat → Hp → VK → Prop) : Sp := fun vs H Q _ => ∃ j p us u a o g t, vs = [.ref j, .str (S u), .str "root", .str "root", .ref a] ∧ JCase c H j p us u a o g t ∧ r t H Q
def spJNeed (c : Ct) : Sp := spJ c fun t H Q => ∀ H', Same H H' → Q .non H'
def spJEnt (c : Ct) : Sp := spJ c fun t H Q => ∀ H' l tt, Same H H' → H l = none → H' l = some (.lst [.ref tt]) → H' tt = some (.tup [.str "other", .str "", .int t]) → Q (.ref l) H'
theorem ok_Jneed {c : Ct} (T : TxP c) : HasM c c.cJ "need_case" 2 (spJNeed c) := by
  obtain ⟨f, fd, M, F⟩ := T.Jneed_case
  obtain ⟨fN, MN, GN⟩ := ok_Pneed T
  obtain ⟨tN, eN⟩ := T.nob
  have C := T.clJ
  have CN := T.clP.cl
  refine ⟨f, M, rawN (ps := ["self", "user", "owner", "group", "access"]) F (okD F sc_J_need_case ?_ ?_) (fun _ _ _ _ _ _ us hl => match us, hl with | [_, _, _, _, _], _ => rfl)⟩
  · rintro vs H Q E ⟨_, _, _, _, _, _, _, _, rfl, _⟩
    rfl
  · rintro cdv A outer s H vs Q E hr ⟨j, p, us, u, a, o, g, t, rfl, J, k⟩
    refine ⟨_, pss_cons (ps_expr (pe_mR CN MN GN hr (by decide) (pe_fld (pv 0) rfl) (pa_cons (pv 1) pa_nil))) (pss_cons (ps_if (PW.pt (pw_and (pt_cmpR op_ne (pv 2) (pe_glob (v := .str "root") rfl eN ⟨_, rfl⟩) (nomark _)) (pw_and1 pt_never))) pss_never pss_nil) (pss_cons (ps_if (PW.pt (pw_or (pt_not (pt_val (pe_callB call_isi rfl T.isin boot_isinstance (pa_cons (pv 3) (pa_cons (pe_bltn (v := .ty "str") rfl T.str boot_str rfl) pa_nil))))) (pw_or1 (PW.pt (pw_and (pt_cmpR op_ne (pv 3) (pe_glob (v := .str "root") rfl eN ⟨_, rfl⟩) (nomark _)) (pw_and1 pt_never)))))) pss_never pss_nil) (pss_one (ps_if (pt_not (pt_val (pe_callB call_isi rfl T.isin boot_isinstance (pa_cons (pv 4) (pa_cons ((pe_glob (v := .ref c.cA) rfl T.clA.mg rfl)) pa_nil))))) pss_never pss_nil)))), ?_⟩
    obtain ⟨dj, ej⟩ := J.ju
    obtain ⟨dp, mm, gg, kvs, ep, e2, e3, e4⟩ := J.pe
    refine ⟨_, rfl, j, c.cJ, dj, _, _, rfl, ej, C.cl, C.nf _ (by decide), rfl, p, dp, _, rfl, ep, rfl, _, rfl, p, us, u, rfl, J.pe, J.mem, fun H1 s1 => ?_⟩
    obtain ⟨da, ro, rg, rt, ua, ga, es, ea, _⟩ := J.al.same s1
    refine ⟨_, rfl, rfl, _, rfl, iteN (by decide) (iteN rfl ?_)⟩
    refine ⟨_, rfl, _, _, _, _, true, rfl, .ty _, .base (.str _), kit_ty (by decide +kernel), true, rfl, iteN rfl ⟨_, rfl, rfl, _, rfl, iteN (by decide) (iteN rfl ?_)⟩⟩
    exact ⟨_, rfl, _, _, _, _, true, rfl, .own _, tyOf T.clA ea, kit_same, true, rfl, iteN rfl (k _ s1)⟩
abbrev N_J_entries_for : List Str := ["self", "user", "owner", "group", "access", "mask", "named", "groups", "found", "name", "rights"]
theorem ok_Jentries {c : Ct} (T : TxP c) : HasM c c.cJ "entries_for" 3 (spJEnt c) := by
  obtain ⟨f, fd, M, F⟩ := T.Jentries_for
  obtain ⟨fG, MG, GG⟩ := ok_Pgroups T
  obtain ⟨fU, MU, GU⟩ := ok_Ausers T.toTxL
  obtain ⟨fV, MV, GV⟩ := ok_Agroups T.toTxL
  obtain ⟨pm, gm, fdm, psm, Pm, Gm, bm⟩ := pr_Amask T.toTxL
  obtain ⟨po, go, fdo, pso, Po, Go, bo⟩ := pr_Aother T.toTxL
  obtain ⟨pd, gd, fdd, psd, Pd, Gd, bd⟩ := pr_digit T.toTxR
  have C := T.clJ
  have CG := T.clP.cl
  have CU := T.clA.cl
  have CV := T.clA.cl
  have Cm := T.clA.cl
  have Co := T.clA.cl
  have Cd := T.clR.cl
  refine ⟨f, M, rawN (ps := ["self", "user", "owner", "group", "access"]) F (okD F sc_J_entries_for ?_ ?_) (fun _ _ _ _ _ _ us hl => match us, hl with | [_, _, _, _, _], _ => rfl)⟩
  · rintro vs H Q E ⟨_, _, _, _, _, _, _, _, rfl, _⟩
    rfl
  · rintro cdv A outer s H vs Q E hr ⟨j, p, us, u, a, o, g, t, rfl, J, k⟩
    refine ⟨_, pss_cons (ps_set (i := 5) sc_J_entries_for.nd rfl (Or.inr rfl) (pe_ifExp (pt_cmpR op_isN (pe_prop (pv 4) Cm Pm Gm (hr.mono (by decide)) bm .nil pass0 (by rfl)) pe_non (nomark _)) pe_int pe_never)) (pss_cons (ps_if (pt_cmpR op_eq (pv 1) (pv 2) (nomark _)) pss_never pss_nil) (pss_cons (ps_set (i := 6) sc_J_entries_for.nd rfl (Or.inl rfl) (pe_m0R CU MU GU hr (by decide) (pv 4))) (pss_cons (ps_if (pt_cmp (pc_din (hu_of hr) (pv 1) (pv 6))) pss_never pss_nil) (pss_cons (ps_set (i := 7) sc_J_entries_for.nd rfl (Or.inr rfl) (pe_mR CG MG GG hr (by decide) (pe_fld (pv 0) rfl) (pa_cons (pv 1) pa_nil))) (pss_cons (ps_set (i := 8) sc_J_entries_for.nd rfl (Or.inl rfl) (pe_ifExp (pt_cmpR op_in_seq (pv 3) (pv 7) rfl) pe_never (pe_lst pa_nil))) (pss_cons (ps_aug (i := 8) sc_J_entries_for.nd rfl (.inl rfl) (pe_lc (own := [("name", 9), ("rights", 10)]) (g := gTup c.K 2 (gCons (gName 9) (gCons (gName 10) gNil))) rfl sc_J_entries_for.nd (pi_items (pe_frz (pe_m0R CV MV GV hr (by decide) (pv 4)))) (blkOk_by (N := N_J_entries_for) (sc := defScope s_J_entries_for) (by decide +kernel)) (fun _ _ _ _ _ => pg_tup rfl (pgs_cons (pg_name (i := 9) sc_J_entries_for.nd rfl (Or.inl rfl)) (pgs_cons (pg_name (i := 10) sc_J_entries_for.nd rfl (Or.inl rfl)) pgs_nil))) (fun _ _ _ _ _ => pts_one pt_never) (fun _ _ _ _ _ => pe_never)) ip_ext) (pss_one (ps_ret (pe_orT (pv 8) (pe_one (pe_lst (pa_cons (pe_tup (pa_cons (pe_str) (pa_cons (pe_str) (pa_cons (pe_prop (pe_prop (pv 4) Co Po Go (hr.mono (by decide)) bo .nil pass0 (by rfl)) Cd Pd Gd (hr.mono (by decide)) bd .nil pass0 (by rfl)) pa_nil)))) pa_nil)))))))))))), ?_⟩
    obtain ⟨da, ro, rg, rt, ua, ga, es, ea, h1, h2, h3, h4, h5⟩ := J.al
    refine ⟨_, rfl, a, da, _, rfl, ea, a, da, _, _, rfl, ea, rfl, rfl, _, rfl, iteY rfl ?_⟩
    refine ⟨_, rfl, _, rfl, rfl, _, rfl, iteN (root_ne J.ne) ?_⟩
    refine ⟨_, rfl, a, da, _, rfl, ea, rfl, a, o, g, t, rfl, J.al, fun H1 d1 s1 n1 e1 => ?_⟩
    refine ⟨_, rfl, _, rfl, d1, _, rfl, DGet.k (k := Sum.inr (S u)) e1, _, rfl, iteN rfl ?_⟩
    have J1 := J.same s1
    obtain ⟨dj, ej⟩ := J1.ju
    obtain ⟨dp, mm, gg, kvs, ep, e2, e3, e4⟩ := J1.pe
    refine ⟨_, rfl, j, c.cJ, dj, _, _, rfl, ej, C.cl, C.nf _ (by decide), rfl, p, dp, _, rfl, ep, rfl, _, rfl, p, us, u, rfl, J1.pe, J1.mem, fun H2 l2 gs s2 n2 f2 hg => ?_⟩
    have hin : inV (.str "root") (gs.map V.str) = false ∧ (gs.map V.str).all flatV = true := by
      rcases hg with rfl | rfl <;> exact ⟨by decide, rfl⟩
    refine ⟨_, rfl, _, rfl, l2, _, rfl, .inl (SqL.of f2), rfl, hin.2, _, rfl, iteN hin.1 ⟨smL (by simp), fun l3 n3 => ?_⟩⟩
    have s3 : Same H (upd H2 l3 (.lst [])) := (s1.trans s2).trans (same_upd n3)
    refine ⟨_, rfl, _, rfl, a, da, _, rfl, s3 _ _ ea, rfl, a, o, g, t, rfl, J.al.same s3, fun H4 d4 s4 n4 e4 => ⟨d4, _, rfl, e4, trivial, fun od => ?_⟩⟩
    refine ⟨d4, od, [], rfl, upd_same, fun D nD => ?_⟩
    refine ⟨fun i m H9 => i = 0 ∧ upd (upd H4 d4 (.frz od (.dK []))) D (.lst []) = H9, ⟨0, rfl, rfl⟩, ?_⟩
    rintro _ m H9 ⟨rfl, rfl⟩
    refine .inl ⟨(walk_items (kvs := [])).stops _ (upd_old upd_same nD), ?_⟩
    have e3 : H4 l3 = some (.lst []) := s4 _ _ upd_same
    have n34 : l3 ≠ d4 := ne_of e3 e4 fun z => nomatch z
    have f3 : (upd (upd H4 d4 (.frz od (.dK []))) D (.lst [])) l3 = some (.lst []) := upd_old (by rw [upd_ne n34]; exact e3) nD
    refine ⟨l3, D, [], [], rfl, rfl, f3, upd_same, smL (by simp), _, rfl, ?_⟩
    -- from here on all that stood stands
    have s5 : Same H (upd (upd (upd H4 d4 (.frz od (.dK []))) D (.lst [])) l3 (.lst ([] ++ []))) := by
      intro b x e
      have hb : b ≠ d4 := ne_of_none (s3 _ _ e) n4
      have hb3 : b ≠ l3 := ne_of_none ((s1.trans s2) _ _ e) n3
      rw [upd_ne hb3]
      exact upd_old (by rw [upd_ne hb]; exact s4 _ _ (s3 _ _ e)) nD
    refine ⟨false, .inl ⟨_, SqL.of upd_same, rfl⟩, iteN rfl ?_⟩
    have a5 := s5 _ _ ea
    obtain ⟨dr, lr, er, hr⟩ := h3.same s5
    refine ⟨_, rfl, a, da, _, rfl, a5, a, da, _, _, rfl, a5, rfl, rt, dr, _, rfl, er, rt, t, rfl, ⟨dr, lr, er, hr⟩, smL (by simp), fun tt nt => ⟨smL (by simp), fun l nl => ?_⟩⟩
    refine k _ l tt (same_new (same_new s5 (s5.none nt)) (s5.none (nn nl))) (s5.none (nn nl)) upd_same (upd_old upd_same nl)
abbrev N_J_deciding : List Str := ["self", "user", "owner", "group", "access", "letters", "wanted", "entries", "granting", "kind", "name", "digit"]
/-- .. letters that the others have -/
def spJDec (c : Ct) (r : Hp → VK → Prop) : Sp := fun vs H Q _ => ∃ j p us u a o g t d, vs = [.ref j, .str (S u), .str "root", .str "root", .ref a, .str (wT d)] ∧ JCase c H j p us u a o g t ∧ d < 8 ∧ Builtin.bitAnd (d : Int) (t : Int) = (d : Int) ∧ r H Q
def spJTup (c : Ct) : Sp := spJDec c fun H Q => ∀ H' t l, Same H H' → H' t = some (.tup [.bl true, .ref l]) → Q (.ref t) H'
def spJTrue (c : Ct) : Sp := spJDec c fun H Q => ∀ H', Same H H' → Q (.bl true) H'
theorem ok_Jdec {c : Ct} (T : TxP c) : HasM c c.cJ "deciding" 4 (spJTup c) := by
  obtain ⟨f, fd, M, F⟩ := T.Jdeciding
  obtain ⟨fN, MN, GN⟩ := ok_Jneed T
  obtain ⟨fE, ME, GE⟩ := ok_Jentries T
  obtain ⟨fD, mD, kD, GD⟩ := ok_digit_in T.toTxR
  have CN := T.clJ.cl
  have CE := T.clJ.cl
  refine ⟨f, M, rawN (ps := ["self", "user", "owner", "group", "access", "letters"]) F (okD F sc_J_deciding ?_ ?_) (fun _ _ _ _ _ _ us hl => match us, hl with | [_, _, _, _, _, _], _ => rfl)⟩
  · rintro vs H Q E ⟨_, _, _, _, _, _, _, _, _, rfl, _⟩
    rfl
  · rintro cdv A outer s H vs Q E hr ⟨j, p, us, u, a, o, g, t, d, rfl, J, hd, hand, k⟩
    refine ⟨_, pss_cons (ps_expr (pe_mR CN MN GN hr (by decide) (pv 0) (pa_cons (pv 1) (pa_cons (pv 2) (pa_cons (pv 3) (pa_cons (pv 4) pa_nil)))))) (pss_cons (ps_set (i := 6) sc_J_deciding.nd rfl (Or.inr rfl) (pe_cR GD hr (by decide) kD rfl mD (pa_cons (pv 5) pa_nil))) (pss_cons (ps_if (pt_cmpR op_isN (pv 6) pe_non (nomark _)) pss_never pss_nil) (pss_cons (ps_set (i := 7) sc_J_deciding.nd rfl (Or.inl rfl) (pe_mR CE ME GE hr (by decide) (pv 0) (pa_cons (pv 1) (pa_cons (pv 2) (pa_cons (pv 3) (pa_cons (pv 4) pa_nil)))))) (pss_cons (ps_setLc (i := 8) (own := [("kind", 9), ("name", 10), ("digit", 11)]) (g := gTup c.K 3 (gCons (gName 9) (gCons (gName 10) (gCons (gName 11) gNil)))) rfl sc_J_deciding.nd rfl rfl (sw_true rfl rfl rfl (by decide +kernel)) (pi_list (pv 7)) (blkOk_by (N := N_J_deciding) (sc := defScope s_J_deciding) (by decide +kernel)) (fun _ _ _ _ _ => pg_tup rfl (pgs_cons (pg_name (i := 9) sc_J_deciding.nd rfl (Or.inl rfl)) (pgs_cons (pg_name (i := 10) sc_J_deciding.nd rfl (Or.inl rfl)) (pgs_cons (pg_name (i := 11) sc_J_deciding.nd rfl (Or.inl rfl)) pgs_nil)))) (fun _ _ _ _ _ => pts_one (pt_cmpR op_eq (pe_op op_and (pv 6) (pv 11)) (pv 6) (nomark _))) (fun _ _ _ _ _ => pe_tup (pa_cons (pv 9) (pa_cons (pv 10) pa_nil)))) (pss_cons (ps_if (pt_cmpR (op_neD hr.units) (pv 8) (pe_lst pa_nil) (nomark _)) (pss_one (ps_ret (pe_tup (pa_cons (pe_bl) (pa_cons (pv 8) pa_nil))))) pss_nil) (pss_one (ps_never))))))), ?_⟩
    obtain ⟨dj, ej⟩ := J.ju
    refine ⟨_, rfl, j, dj, _, rfl, ej, rfl, _, rfl, _, rfl, _, rfl, _, rfl, j, p, us, u, a, o, g, t, rfl, J, fun H1 s1 => ?_⟩
    refine ⟨_, rfl, d, hd, .inr rfl, fun H2 s2 => ⟨_, rfl, rfl, _, rfl, iteN rfl ?_⟩⟩
    have s12 := s1.trans s2
    refine ⟨_, rfl, j, dj, _, rfl, s12 _ _ ej, rfl, _, rfl, _, rfl, _, rfl, _, rfl, j, p, us, u, a, o, g, t, rfl, J.same s12, fun H3 l tt s3 nl el et => ?_⟩
    refine ⟨_, rfl, l, rfl, ⟨_, SqL.of el⟩, fun D nD => ?_⟩
    refine lc_it (walk_list (xs := [.ref tt])) (fun i H4 => Same H3 H4 ∧ ((i = 0 ∧ H4 D = some (.lst [])) ∨ i = 1 ∧ ∃ pr, H4 D = some (.lst [.ref pr]) ∧ H4 pr = some (.tup [.str "other", .str ""]))) ⟨same_upd nD, .inl ⟨rfl, upd_same⟩⟩ (fun i H4 _ q => SqL.of (q.1 _ _ el)) ?_ ?_
    · rintro i x H4 H5 hi ⟨sm, hD⟩ ⟨rfl, ex⟩
      obtain rfl : i = 0 := by simp at hi; omega
      cases ex
      obtain ⟨_, eD⟩ | ⟨h1, _⟩ := hD
      · refine ⟨tt, _, rfl, SqT.of (sm _ _ et), rfl, _, _, rfl, _, _, rfl, _, _, rfl, rfl, rfl, ?_⟩
        refine ⟨_, rfl, _, rfl, _, _, rfl, rfl, _, rfl, rfl, _, rfl, iteY (decide_eq_true (congrArg V.int hand)) ?_⟩
        refine ⟨_, rfl, _, rfl, smL (by simp), fun pr npr => ⟨[], upd_old eD npr, smT (by simp), same_new (sm.trans (same_upd npr)) nD, .inr ⟨rfl, pr, upd_same, ?_⟩⟩⟩
        rw [upd_ne (ne_of_none eD npr).symm]
        exact upd_same
      · exact absurd h1 (by decide)
    · rintro H4 ⟨sm, hD⟩
      obtain ⟨h, _⟩ | ⟨_, pr, eD, ep⟩ := hD
      · exact absurd h (by simp)
      refine ⟨_, rfl, smL (by simp), fun q nq => ?_⟩
      refine ⟨.list [.tuple [.str "other", .str ""]], .list [], .lst (SqL.of (upd_old eD nq)) (.cons (.tup (SqT.of (upd_old ep nq)) (.cons (.str _) (.cons (.str _) .nil))) .nil), .lst (SqL.of upd_same) .nil, by decide +kernel, by decide +kernel, _, rfl, iteY (by decide +kernel) ?_⟩
      refine ⟨_, rfl, smL (by simp), fun t2 nt2 => ?_⟩
      have s6 := (s12.trans s3).trans sm
      exact k _ t2 D (same_new (same_new s6 (s6.none nq)) (s6.none (nn nt2))) upd_same
theorem ok_Jcall {c : Ct} (T : TxP c) : ∃ g, CallO c.K c.cJ g ∧ FnR c.P c.w c.K c.mg c.base CX0 5 g (spJTrue c) := by
  obtain ⟨g, fd, CO, F⟩ := T.Jcall
  obtain ⟨fD, MD, GD⟩ := ok_Jdec T
  have CD := T.clJ.cl
  refine ⟨g, CO, rawN (ps := ["self", "user", "owner", "group", "access", "letters"]) F (okD F sc_J_call ?_ ?_) (fun _ _ _ _ _ _ us hl => match us, hl with | [_, _, _, _, _, _], _ => rfl)⟩
  · rintro vs H Q E ⟨_, _, _, _, _, _, _, _, _, rfl, _⟩
    rfl
  · rintro cdv A outer s H vs Q E hr ⟨j, p, us, u, a, o, g, t, d, rfl, J, hd, hand, k⟩
    refine ⟨_, pss_one (ps_ret (pe_ix ix_tup (pe_mR CD MD GD hr (by decide) (pv 0) (pa_cons (pv 1) (pa_cons (pv 2) (pa_cons (pv 3) (pa_cons (pv 4) (pa_cons (pv 5) pa_nil)))))) pe_int (fun _ _ => rfl))), ?_⟩
    obtain ⟨dj, ej⟩ := J.ju
    refine ⟨_, rfl, j, dj, _, rfl, ej, rfl, _, rfl, _, rfl, _, rfl, _, rfl, _, rfl, j, p, us, u, a, o, g, t, d, rfl, J, hd, hand, fun H1 t1 l s1 e1 => ?_⟩
    exact ⟨t1, _, _, _, rfl, rfl, SqT.of e1, rfl, k _ s1⟩
end K37
end
section
set_option Elab.async false
set_option linter.all false
set_option maxRecDepth 100000
set_option maxHeartbeats 4000000
/-! K3i: nodes. -/
namespace K37
open PySem PySem.Spec PyProof.Rows L2 StX ClX SX
open C8 (sl_txt rSlX pss_cut tCut)
structure TxN (c : Ct) : Prop extends TxP c where
  clN : Cla c "Node" c.cN ["own_number", "own_fields"]
  mkN : MkD c c.cN "Node.__init__" s_N_init [] []
  Nkind : ProD c c.cN "kind" "Node.kind" s_N_kind
  Nowner : ProD c c.cN "owner" "Node.owner" s_N_owner
  Ngroup : ProD c c.cN "group" "Node.group" s_N_group
  Naccess : ProD c c.cN "access" "Node.access" s_N_access
  Npasses : ProD c c.cN "passes" "Node.passes" s_N_passes
  Ndefault : ProD c c.cN "default" "Node.default" s_N_default
  Nnumber : ProD c c.cN "number" "Node.number" s_N_number
  with_field : MetD c c.cN "with_field" "Node.with_field" s_N_with_field
  new_node : ∃ f fd, c.mg "new_node" = some (.ref f) ∧ FunD c.K "new_node" "new_node" (defArgs s_new_node) (defBody s_new_node) (defScope s_new_node) [] [("content", .str ""), ("passes", .bl false), ("default", .non)] f fd
/-- keys that are texts -/
def tk (s : String) : Key := Sum.inr (Str.ofString s)
def ndF (f : Bool) (o g : Str) (acc : Addr) (st : Bool) : List (Key × V) := [(tk "kind", .str (kT f)), (tk "owner", .str o), (tk "group", .str g), (tk "access", .ref acc), (tk "sticky", .bl st), (tk "passes", .bl false), (tk "default", .non), (tk "content", .str "")]
/-- a node at a: its number, is it a file, its owner, group, access list -/
def NdAt (c : Ct) (H : Hp) (a : Addr) (n : Int) (f : Bool) (o g : Str) (acc : Addr) : Prop := ∃ dx d st, H a = some (.ins c.cN dx [("own_number", .int n), ("own_fields", .ref d)]) ∧ H d = some (.dK (ndF f o g acc st))
theorem NdAt.same {c : Ct} {H H' : Hp} {a : Addr} {n : Int} {f : Bool} {o g : Str} {acc : Addr} (h : NdAt c H a n f o g acc) (s : Same H H') : NdAt c H' a n f o g acc := by
  obtain ⟨dx, d, st, e1, e2⟩ := h
  exact ⟨dx, d, st, s _ _ e1, s _ _ e2⟩
def spNInit (c : Ct) : Sp := fun vs H Q _ => ∃ a n d0 dx kvs, vs = [.ref a, .int n, .ref d0] ∧ H a = some (.ins c.cN dx []) ∧ H d0 = some (.dK kvs) ∧ ∀ H' d, SameX a H H' → H' a = some (.ins c.cN dx [("own_number", .int n), ("own_fields", .ref d)]) → H' d = some (.dK kvs) → Q .non H'
theorem mk_N {c : Ct} (T : TxN c) : HasMk c c.cN 1 (spNInit c) := by
  obtain ⟨f, fd, M, F⟩ := T.mkN
  have C := T.clN
  refine ⟨f, M, rawN (ps := ["self", "number", "fields"]) F (okD F sc_N_init ?_ ?_) (fun _ _ _ _ _ _ us hl => match us, hl with | [_, _, _], _ => rfl)⟩
  · rintro vs H Q E ⟨_, _, _, _, _, rfl, _⟩
    rfl
  · rintro cdv A outer s H vs Q E hr ⟨a, n, d0, dx, kvs, rfl, ea, e0, k⟩
    refine ⟨_, pss_cons (ps_fld (pv 0) (pv 1) rfl) (pss_one (ps_fld (pv 0) (pe_callTy (call_dictD) rfl T.dict (by decide +kernel) (pa_cons (pv 2) pa_nil)) rfl)), ?_⟩
    have n0 : d0 ≠ a := ne_of e0 ea fun z => nomatch z
    refine ⟨_, rfl, _, rfl, a, c.cN, dx, [], rfl, ea, C.cl, C.nf _ (by decide), by simp, ?_⟩
    refine ⟨_, rfl, d0, kvs, rfl, .inl (by rw [upd_ne n0]; exact e0), fun d nd => ?_⟩
    refine ⟨_, rfl, a, c.cN, dx, [("own_number", .int n)], rfl, upd_old upd_same nd, C.cl, C.nf _ (by decide), by simp, ?_⟩
    refine k _ d ((sameX_upd.new nd).put) upd_same ?_
    rw [upd_ne (ne_of_none upd_same nd).symm]
    exact upd_same
/-- a new node of these fields -/
theorem made_N {c : Ct} {H H' : Hp} {x dx d : Addr} {n : Int} {fl : Bool} {o g : Str} {acc : Addr} {st : Bool} (e1 : H' x = some (.ins c.cN dx [("own_number", .int n), ("own_fields", .ref d)])) (e2 : H' d = some (.dK (ndF fl o g acc st))) : NdAt c H' x n fl o g acc := ⟨dx, d, st, e1, e2⟩
/-- a property that gives an entry of the fields -/
def spKey (c : Ct) (key : String) : Sp := fun vs H Q _ => ∃ a dx n d kvs v, vs = [.ref a] ∧ H a = some (.ins c.cN dx [("own_number", .int n), ("own_fields", .ref d)]) ∧ H d = some (.dK kvs) ∧ valV kvs (tk key) = some v ∧ Q v H
theorem pr_key {c : Ct} {m qual : Str} {key : String} {st : Stmt} {j : Nat} {p1 p2 p3 p4 p5 : Pos} (T : TxN c) (P : ProD c c.cN m qual st) (hS : FnScope ["self"] ["self"] (defScope st)) (hv : Vis (defScope st) "self")
    (hb : defBody st = [.Return (some (.Subscript (.Attribute (.Name "self" p1) "own_fields" p2) (.Constant (.str key) j p3) p4)) p5])
    (h : ∀ (kV doc pm : Value) (an : Option Addr) (cdv ct : Value) (us : List Value), us.length = 1 → bindArgs (PySem.W.fnOf m qual (defArgs st) (defBody st) (defScope st) .none kV doc pm an cdv ct) ⟨us, []⟩ = pure ((["self"] : List Str).zip us)) : HasPr c c.cN m 1 (spKey c key) := by
  obtain ⟨p, g, fd, PR, F⟩ := P
  have C := T.clN
  refine ⟨p, g, fd, ["self"], PR, okD (N := ["self"]) F hS ?_ ?_, F.bindsN h⟩
  · rintro vs H Q E ⟨_, _, _, _, _, _, rfl, _⟩
    rfl
  · rintro cdv A outer s H vs Q E hr ⟨a, dx, n, d, kvs, v, rfl, e1, e2, hl, k⟩
    rw [hb]
    refine ⟨_, pss_one (ps_ret (pe_dget (hu_of hr) (pe_fld (pe_var (i := 0) rfl hv) rfl) pe_str (fun _ _ => rfl))), ?_⟩
    exact ⟨_, rfl, a, c.cN, dx, _, _, rfl, e1, C.cl, C.nf _ (by decide), rfl, d, v, rfl, by rw [← hl]; exact DGet.k (k := tk key) e2, k⟩
theorem pr_Nkind {c : Ct} (T : TxN c) : HasPr c c.cN "kind" 1 (spKey c "kind") := pr_key T T.Nkind sc_N_kind (.inl rfl) rfl (fun _ _ _ _ _ _ us hl => match us, hl with | [_], _ => rfl)
theorem pr_Nowner {c : Ct} (T : TxN c) : HasPr c c.cN "owner" 1 (spKey c "owner") := pr_key T T.Nowner sc_N_owner (.inl rfl) rfl (fun _ _ _ _ _ _ us hl => match us, hl with | [_], _ => rfl)
theorem pr_Ngroup {c : Ct} (T : TxN c) : HasPr c c.cN "group" 1 (spKey c "group") := pr_key T T.Ngroup sc_N_group (.inl rfl) rfl (fun _ _ _ _ _ _ us hl => match us, hl with | [_], _ => rfl)
theorem pr_Naccess {c : Ct} (T : TxN c) : HasPr c c.cN "access" 1 (spKey c "access") := pr_key T T.Naccess sc_N_access (.inl rfl) rfl (fun _ _ _ _ _ _ us hl => match us, hl with | [_], _ => rfl)
theorem pr_Npasses {c : Ct} (T : TxN c) : HasPr c c.cN "passes" 1 (spKey c "passes") := pr_key T T.Npasses sc_N_passes (.inl rfl) rfl (fun _ _ _ _ _ _ us hl => match us, hl with | [_], _ => rfl)
theorem pr_Ndefault {c : Ct} (T : TxN c) : HasPr c c.cN "default" 1 (spKey c "default") := pr_key T T.Ndefault sc_N_default (.inl rfl) rfl (fun _ _ _ _ _ _ us hl => match us, hl with | [_], _ => rfl)
theorem pr_Nnumber {c : Ct} (T : TxN c) : HasPr c c.cN "number" 1 (spFld c.cN "own_number") := pr_fld T.clN T.Nnumber sc_N_number (.inl rfl) rfl (by decide) (fun _ _ _ _ _ _ us hl => match us, hl with | [_], _ => rfl)
theorem kT_key (f : Bool) (o g : Str) (acc : Addr) (st : Bool) : valV (ndF f o g acc st) (tk "kind") = some (.str (kT f)) := rfl
/-- the same node with one field set anew -/
def spWith (c : Ct) : Sp := fun vs H Q _ => ∃ a key v dx n d kvs, vs = [.ref a, .str (Str.ofString key), v] ∧ H a = some (.ins c.cN dx [("own_number", .int n), ("own_fields", .ref d)]) ∧ H d = some (.dK kvs) ∧ kvs.length ≤ 15 ∧
  ∀ H' x dx' d', Same H H' → H x = none → H' x = some (.ins c.cN dx' [("own_number", .int n), ("own_fields", .ref d')]) → H' d' = some (.dK (mergeK (mergeK [] kvs) (mergeK [] [(tk key, v)]))) → Q (.ref x) H'
theorem ok_with {c : Ct} (T : TxN c) : HasM c c.cN "with_field" 3 (spWith c) := by
  obtain ⟨f, fd, M, F⟩ := T.with_field
  obtain ⟨fI, MI, GI⟩ := mk_N T
  have C := T.clN
  refine ⟨f, M, rawN (ps := ["self", "name", "value"]) F (okD F sc_N_with_field ?_ ?_) (fun _ _ _ _ _ _ us hl => match us, hl with | [_, _, _], _ => rfl)⟩
  · rintro vs H Q E ⟨_, _, _, _, _, _, _, rfl, _⟩
    rfl
  · rintro cdv A outer s H vs Q E hr ⟨a, key, v, dx, n, d, kvs, rfl, ea, ed, hl, k⟩
    refine ⟨_, pss_one (ps_ret (pe_makeR MI GI hr rfl C.mg pass0 (pa_cons (pe_fld (pv 0) rfl) (pa_cons (pe_dispS (pe_fld (pv 0) rfl) (pps_cons (pv 1) (pv 2) pps_nil) (by rfl) (by rfl) (fun z => by cases z) (by decide)) pa_nil)))), ?_⟩
    refine ⟨_, rfl, a, c.cN, dx, _, _, rfl, ea, C.cl, C.nf _ (by decide), rfl, fun d1 n1 => ?_⟩
    have ea1 := upd_old (o := .dK []) ea n1
    have ed1 := upd_old (o := .dK []) ed n1
    refine ⟨_, rfl, a, c.cN, dx, _, _, rfl, ea1, C.cl, C.nf _ (by decide), rfl, d, kvs, rfl, ed1, (ne_of_none ed n1).symm, upd_same, by omega, fun p np => ?_⟩
    have npd : d1 ≠ p := ne_of_none upd_same np
    refine ⟨_, rfl, _, rfl, upd_same, by rw [upd_ne npd]; exact upd_same, [(tk key, v)], rfl, by simp, fun x dx' nx nd' ne' => ?_⟩
    have hp : H p = none := nn (nn np)
    have sG : Same H (upd (upd (upd (upd (upd H d1 (.dK [])) d1 (.dK (mergeK [] kvs))) p (.dK [])) p (.dK (mergeK [] [(tk key, v)]))) d1 (.dK (mergeK (mergeK [] kvs) (mergeK [] [(tk key, v)])))) := fun b o e => by
      have h1 : b ≠ d1 := ne_of_none e n1
      have h2 : b ≠ p := ne_of_none e hp
      rw [upd_ne h1, upd_ne h2, upd_ne h2, upd_ne h1, upd_ne h1]
      exact e
    refine ⟨x, n, d1, dx', _, rfl, upd_same, same_new (same_upd nd') nx _ _ upd_same, fun H' d' s' e1 e2 => ⟨rfl, ?_⟩⟩
    exact k H' x dx' d' (sG.trans (s'.made nx nd')) (sG.none nx) e1 e2
theorem merge_new (f : Bool) (o g : Str) (acc : Addr) : mergeK (mergeK [] (mergeK [] [(tk "kind", .str (kT f)), (tk "owner", .str o), (tk "group", .str g), (tk "access", .ref acc), (tk "sticky", .bl false), (tk "passes", .bl false)])) (mergeK [] [(tk "default", .non), (tk "content", .str "")]) = ndF f o g acc false := by kernel_rfl
theorem merge_sticky (f : Bool) (o g : Str) (acc : Addr) (st b : Bool) : mergeK (mergeK [] (ndF f o g acc st)) (mergeK [] [(tk "sticky", .bl b)]) = ndF f o g acc b := by kernel_rfl
theorem merge_passes (f : Bool) (o g : Str) (acc : Addr) (st : Bool) : mergeK (mergeK [] (ndF f o g acc st)) (mergeK [] [(tk "passes", .bl false)]) = ndF f o g acc st := by kernel_rfl
theorem merge_default (f : Bool) (o g : Str) (acc : Addr) (st : Bool) : mergeK (mergeK [] (ndF f o g acc st)) (mergeK [] [(tk "default", .non)]) = ndF f o g acc st := by kernel_rfl
/-- a new node -/
def spNew (c : Ct) : Sp := fun vs H Q _ => ∃ n f o g acc, vs = [.int n, .str (kT f), .str o, .str g, .ref acc, .str "", .bl false, .non] ∧ ∀ H' x, Same H H' → H x = none → NdAt c H' x n f o g acc → Q (.ref x) H'
theorem fnok_new {c : Ct} (T : TxN c) : ∃ f fd, c.mg "new_node" = some (.ref f) ∧ FunD c.K "new_node" "new_node" (defArgs s_new_node) (defBody s_new_node) (defScope s_new_node) [] [("content", .str ""), ("passes", .bl false), ("default", .non)] f fd ∧ FnOk c.P c.w c.K c.mg c.base CX0 3 f fd ["number", "kind", "owner", "group", "access", "content", "passes", "default"] (spNew c) := by
  obtain ⟨f, fd, m, F⟩ := T.new_node
  obtain ⟨fI, MI, GI⟩ := mk_N T
  have C := T.clN
  refine ⟨f, fd, m, F, okD F sc_new_node ?_ ?_⟩
  · rintro vs H Q E ⟨_, _, _, _, _, rfl, _⟩
    rfl
  · rintro cdv A outer s H vs Q E hr ⟨n, fl, o, g, acc, rfl, k⟩
    refine ⟨_, pss_cons (ps_set (i := 8) sc_new_node.nd rfl (Or.inl rfl) (pe_disp (pps_cons (pe_str) (pv 1) (pps_cons (pe_str) (pv 2) (pps_cons (pe_str) (pv 3) (pps_cons (pe_str) (pv 4) (pps_cons (pe_str) (pe_bl) (pps_cons (pe_str) (pv 6) pps_nil)))))) (by rfl) (by rfl) (fun z => by cases z) (by decide))) (pss_one (ps_ret (pe_makeR MI GI hr rfl C.mg pass0 (pa_cons (pv 0) (pa_cons (pe_dispS (pv 8) (pps_cons (pe_str) (pv 7) (pps_cons (pe_str) (pv 5) pps_nil)) (by rfl) (by rfl) (fun z => by cases z) (by decide)) pa_nil))))), ?_⟩
    intro d0 n0
    refine ⟨_, rfl, _, rfl, _, rfl, _, rfl, _, rfl, upd_same, [(tk "kind", .str (kT fl)), (tk "owner", .str o), (tk "group", .str g), (tk "access", .ref acc), (tk "sticky", .bl false), (tk "passes", .bl false)], rfl, by simp, ?_⟩
    refine ⟨_, rfl, fun d1 n1 => ?_⟩
    have h0 : d0 ≠ d1 := ne_of_none upd_same n1
    refine ⟨_, rfl, d0, _, rfl, by rw [upd_ne h0]; exact upd_same, h0.symm, upd_same, by exact (by decide : (6 : Nat) ≤ 1000), fun p np => ?_⟩
    have npd : d1 ≠ p := ne_of_none upd_same np
    refine ⟨_, rfl, _, rfl, upd_same, by rw [upd_ne npd]; exact upd_same, [(tk "default", .non), (tk "content", .str "")], rfl, by simp, fun x dx' nx nd' ne' => ?_⟩
    rw [merge_new] at nx nd' ⊢
    have h1 : H d1 = none := nn (nn n1)
    have hp : H p = none := nn (nn (nn (nn np)))
    refine ⟨x, n, d1, dx', _, rfl, upd_same, same_new (same_upd nd') nx _ _ upd_same, fun H' d' s' e1 e2 => ⟨rfl, ?_⟩⟩
    have sG := s'.made nx nd'
    refine k H' x (fun b o e => sG b o ?_) (nn (nn (nn (nn (nn (nn (nn nx))))))) ⟨dx', d', false, e1, e2⟩
    have b0 : b ≠ d0 := ne_of_none e n0
    have b1 : b ≠ d1 := ne_of_none e h1
    have b2 : b ≠ p := ne_of_none e hp
    rw [upd_ne b1, upd_ne b2, upd_ne b2, upd_ne b1, upd_ne b1, upd_ne b0, upd_ne b0]
    exact e
/-- new_node(number, kind, owner, group, access) -/
def spNew5 (c : Ct) : Sp := fun vs H Q _ => ∃ n f o g acc, vs = [.int n, .str (kT f), .str o, .str g, .ref acc] ∧ ∀ H' x, Same H H' → H x = none → NdAt c H' x n f o g acc → Q (.ref x) H'
theorem ok_new {c : Ct} (T : TxN c) : Has c "new_node" 3 (spNew5 c) := by
  obtain ⟨f, fd, m, F, G⟩ := fnok_new T
  obtain ⟨ds, hv, hb⟩ := F.binds0 (ps := ["number", "kind", "owner", "group", "access", "content", "passes", "default"]) 5 (by simp) rfl (fun D doc pm an cdv ct us ks h1 h2 => match us, ks, h1, h2 with | [_, _, _, _, _], [_, _, _], _, _ => ⟨_, _, _, _, _, _, rfl, rfl, _, _, _, _, _, _, rfl, rfl, _, _, _, _, _, _, rfl, rfl, rfl⟩)
  refine ⟨f, m, F.kp, (G.raw hb hv).imp ?_⟩
  rintro vs H Q E ⟨n, fl, o, g, acc, rfl, q⟩
  exact ⟨n, fl, o, g, acc, rfl, q⟩
/-- f(e, .., k = v, ..) of a def without defaults ahead of the star -/
theorem kbind0 {K : PySem.W.Frag} {x qual : Str} {params : Arguments} {body : List Stmt} {scope : Scope} {kws : List (Str × V)} {f : Addr} {fd : FuncData} {ps : List Str} (F : FunD K x qual params body scope [] kws f fd) (n : Nat) (ks : List Str) (ms : List (Str × V))
    (g : {α : Type} → List α → List α → List α → List α) (hk : kws ≠ []) (hms : ∀ q ∈ ms, q ∈ kws) (hrel : ∀ {vs mz zs : List V} {us mv ws : List Value}, Vals vs us → Vals mz mv → Vals zs ws → Vals (g vs mz zs) (g us mv ws))
    (h : ∀ (D : Addr) (doc pm : Value) (an : Option Addr) (cdv ct : Value) (us mv ws : List Value), us.length = n → mv.length = ms.length → ws.length = ks.length →
      KwChain D ((ms.map (·.1)).zip mv) (bindArgs (PySem.W.fnOf x qual params body scope .none (.ref D) doc pm an cdv ct) ⟨us, ks.zip ws⟩) (ps.zip (g us mv ws))) :
    ∃ mv : List Value, KBn K fd ps n ks (fun us ws => g us mv ws) (fun vs zs => g vs (ms.map (·.2)) zs) := by
  obtain ⟨_, _, dV, kV, doc, pm, an, cdv, ct, _, rfl, _, _, dn, kn⟩ := F.ex
  have e0 : dV = .none := dn.elim (fun z => z.2) (fun z => absurd rfl z.1)
  subst e0
  obtain z | ⟨D, e1, hq⟩ := kn
  · exact absurd z hk
  subst e1
  obtain ⟨mv, hl, rk, hks⟩ := kwd_vals (ms := ms) fun q hm => hq q (hms q hm)
  refine ⟨mv, ⟨fun s us ws XI l1 l2 => BindsTo.of_looks fun M => KwChain.looks XI hks (h D doc pm an cdv ct us mv ws l1 hl l2), fun r1 r2 => hrel r1 rk r2⟩⟩
/-- new_node(number, kind, owner, group, access, content=content) -/
theorem kb_new {c : Ct} (T : TxN c) : ∃ f fd g, c.mg "new_node" = some (.ref f) ∧ PySem.W.keepIn c.K (.ref f) = true ∧ FnOk c.P c.w c.K c.mg c.base CX0 3 f fd ["number", "kind", "owner", "group", "access", "content", "passes", "default"] (spNew c) ∧ KBn c.K fd ["number", "kind", "owner", "group", "access", "content", "passes", "default"] 5 ["content"] g (fun vs zs => vs ++ (zs ++ [.bl false, .non])) := by
  obtain ⟨f, fd, m, F, G⟩ := fnok_new T
  obtain ⟨mv, hb⟩ := kbind0 F (ps := ["number", "kind", "owner", "group", "access", "content", "passes", "default"]) 5 ["content"] [("passes", .bl false), ("default", .non)] (fun us mv ws => us ++ (ws ++ mv)) (by simp) (by simp) (fun r1 r2 r3 => r1.append (r3.append r2))
    (fun D doc pm an cdv ct us ks ws h1 h2 h3 => match us, ks, ws, h1, h2, h3 with | [_, _, _, _, _], [_, _], [_], _, _, _ => ⟨_, _, _, _, _, _, rfl, rfl, _, _, _, _, _, _, rfl, rfl, rfl⟩)
  exact ⟨f, fd, _, m, F.kp, G, hb⟩
end K37
end
section
set_option Elab.async false
set_option linter.all false
set_option maxRecDepth 100000
set_option maxHeartbeats 4000000
/-! K3j: houses: what they are, what is asked of them. -/
namespace K37
open PySem PySem.Spec PyProof.Rows L2 StX ClX SX
open C8 (sl_txt rSlX pss_cut tCut)
/-! ### what stands -/
/-- lists, and houses, may be changed -/
def chg : HO → Prop
  | .lst _ => True
  | .ins _ _ ((f, _) :: _ :: _) => f = Str.ofString "own_people"
  | _ => False
/-- all but lists and houses as it was -/
def Keep (H H' : Hp) : Prop := ∀ b o, ¬ chg o → H b = some o → H' b = some o
theorem Keep.of {H H' : Hp} (s : Same H H') : Keep H H' := fun b o _ e => s b o e
theorem Keep.trans {H H1 H2 : Hp} (s : Keep H H1) (t : Keep H1 H2) : Keep H H2 := fun b o n e => t b o n (s b o n e)
theorem Keep.x {H H' : Hp} {a : Addr} {o : HO} (s : SameX a H H') (e : H a = some o) (m : chg o) : Keep H H' := fun b u n eb => s b u (fun z => by
  subst z
  rw [e] at eb
  cases eb
  exact n m) eb
theorem RtAt.keep {c : Ct} {H H' : Hp} {a : Addr} {d : Nat} (h : RtAt c H a d) (s : Keep H H') : RtAt c H' a d := by
  obtain ⟨dx, l, e, hd⟩ := h
  exact ⟨dx, l, s _ _ (show ¬ (Str.ofString "own_digit" = Str.ofString "own_people") by decide) e, hd⟩
theorem AlAt.keep {c : Ct} {H H' : Hp} {a : Addr} {o g t : Nat} (h : AlAt c H a o g t) (s : Keep H H') : AlAt c H' a o g t := by
  obtain ⟨dx, ro, rg, rt, us, gs, es, e, r1, r2, r3, e1, e2⟩ := h
  exact ⟨dx, ro, rg, rt, us, gs, es, s _ _ (show ¬ (Str.ofString "own_owner" = Str.ofString "own_people") by decide) e, r1.keep s, r2.keep s, r3.keep s, s _ _ id e1, s _ _ id e2⟩
theorem PeAt.keep {c : Ct} {H H' : Hp} {p : Addr} {us : List (List Nat)} (h : PeAt c H p us) (s : Keep H H') : PeAt c H' p us := by
  obtain ⟨dx, m, g, kvs, e1, e2, e3, e4⟩ := h
  exact ⟨dx, m, g, kvs, s _ _ (show ¬ (Str.ofString "own_members" = Str.ofString "own_people") by decide) e1, s _ _ id e2, e3, fun q hq => (e4 q hq).imp fun t ⟨gs, a, b, d⟩ => ⟨gs, a, s _ _ id b, d⟩⟩
theorem JuAt.keep {c : Ct} {H H' : Hp} {j p : Addr} (h : JuAt c H j p) (s : Keep H H') : JuAt c H' j p := h.imp fun _ e => s _ _ id e
theorem NdAt.keep {c : Ct} {H H' : Hp} {a : Addr} {n : Int} {f : Bool} {o g : Str} {acc : Addr} (h : NdAt c H a n f o g acc) (s : Keep H H') : NdAt c H' a n f o g acc := by
  obtain ⟨dx, d, st, e1, e2⟩ := h
  exact ⟨dx, d, st, s _ _ (show ¬ (Str.ofString "own_number" = Str.ofString "own_people") by decide) e1, s _ _ id e2⟩
/-! ### trees -/
abbrev Tr : Type := List (Pa × Int × Addr)
def tmp : List Nat := [116, 109, 112]
theorem tmp_S : pS [tmp] = Str.ofString "/tmp" := rfl
theorem tmp_ok : okN tmp := ⟨by decide, by decide, by decide⟩
def nodesK (L : Tr) : List (Key × V) := L.map fun q => ((Sum.inr (pS q.1) : Key), V.ref q.2.2)
structure LOk (L : Tr) (k : Int) (D : Nat) : Prop where
  dl : D ≤ 98
  nd : (L.map (·.1)).Nodup
  ok : ∀ q ∈ L, q.1.length ≤ D ∧ ∀ n ∈ q.1, okN n
  num : ∀ q ∈ L, 0 ≤ q.2.1 ∧ q.2.1 < k
  nn : (L.map (·.2.1)).Nodup
  clo : ∀ p n, p ++ [n] ∈ L.map (·.1) → p ∈ L.map (·.1) ∧ isF p = false
  g0 : ∃ a, ([], 0, a) ∈ L
  g1 : ∃ a, ([tmp], 1, a) ∈ L
  len : L.length ≤ 14
theorem LOk.okp {L : Tr} {k : Int} {D : Nat} (h : LOk L k D) {q : Pa × Int × Addr} (m : q ∈ L) : okP q.1 := ⟨Nat.le_trans (h.ok q m).1 (by have := h.dl; omega), (h.ok q m).2⟩
theorem LOk.okk {L : Tr} {k : Int} {D : Nat} (h : LOk L k D) {p : Pa} (m : p ∈ L.map (·.1)) : okP p := by
  obtain ⟨q, hq, rfl⟩ := List.mem_map.mp m
  exact h.okp hq
theorem nodes_val : ∀ {L : Tr} {p : Pa} {n : Int} {a : Addr}, (L.map (·.1)).Nodup → (∀ q ∈ L, okP q.1) → (p, n, a) ∈ L → valV (nodesK L) (Sum.inr (pS p)) = some (.ref a)
  | [], _, _, _, _, _, m => by simp at m
  | q :: L, p, n, a, nd, ok, m => by
    obtain ⟨n1, n2⟩ := List.nodup_cons.mp (show (q.1 :: L.map (·.1)).Nodup from nd)
    rcases List.mem_cons.mp m with rfl | m
    · exact valV_pos rfl
    · have hp : okP p := ok (p, n, a) (List.mem_cons_of_mem _ m)
      have ne : ¬ (Sum.inr (pS q.1) : Key) = Sum.inr (pS p) := fun z => by
        have := pS_inj (ok q List.mem_cons_self) hp (Sum.inr.inj z)
        exact n1 (this ▸ List.mem_map.mpr ⟨(p, n, a), m, rfl⟩)
      show valV ((Sum.inr (pS q.1), V.ref q.2.2) :: nodesK L) _ = _
      rw [valV_neg ne]
      exact nodes_val n2 (fun x hx => ok x (List.mem_cons_of_mem _ hx)) m
theorem nodes_none : ∀ {L : Tr} {p : Pa}, okP p → (∀ q ∈ L, okP q.1) → p ∉ L.map (·.1) → valV (nodesK L) (Sum.inr (pS p)) = none
  | [], _, _, _, _ => rfl
  | q :: L, p, hp, ok, m => by
    have ne : ¬ (Sum.inr (pS q.1) : Key) = Sum.inr (pS p) := fun z => by
      have := pS_inj (ok q List.mem_cons_self) hp (Sum.inr.inj z)
      exact m (this ▸ List.mem_cons_self)
    show valV ((Sum.inr (pS q.1), V.ref q.2.2) :: nodesK L) _ = _
    rw [valV_neg ne]
    exact nodes_none hp (fun x hx => ok x (List.mem_cons_of_mem _ hx)) fun z => m (List.mem_cons_of_mem _ z)
/-- a state at st: the tree L, the counter k -/
def StAt (c : Ct) (H : Hp) (us : List (List Nat)) (st : Addr) (L : Tr) (k : Int) : Prop := ∃ nd um, H st = some (.tup [.ref nd, .ref um, .int k]) ∧ H nd = some (.dK (nodesK L)) ∧ H um = some (.dK (us.map fun u => ((Sum.inr (S u) : Key), V.str "022"))) ∧
  (∀ q ∈ L, ∃ o g acc, NdAt c H q.2.2 q.2.1 (isF q.1) o g acc) ∧ (∀ a, ([], 0, a) ∈ L → ∃ acc, NdAt c H a 0 false "root" "root" acc ∧ AlAt c H acc 5 5 5) ∧ ∀ a, ([tmp], 1, a) ∈ L → ∃ acc, NdAt c H a 1 false "root" "root" acc ∧ AlAt c H acc 7 7 7
theorem StAt.keep {c : Ct} {H H' : Hp} {us : List (List Nat)} {st : Addr} {L : Tr} {k : Int} (h : StAt c H us st L k) (s : Keep H H') : StAt c H' us st L k := by
  obtain ⟨nd, um, e1, e2, e3, h1, h2, h3⟩ := h
  exact ⟨nd, um, s _ _ id e1, s _ _ id e2, s _ _ id e3, fun q hq => (h1 q hq).imp fun o ⟨g, acc, z⟩ => ⟨g, acc, z.keep s⟩, fun a m => (h2 a m).imp fun acc z => ⟨z.1.keep s, z.2.keep s⟩, fun a m => (h3 a m).imp fun acc z => ⟨z.1.keep s, z.2.keep s⟩⟩
/-- the house at h -/
def HoAt (c : Ct) (H : Hp) (h p j st : Addr) : Prop := ∃ dx, H h = some (.ins c.cH dx [("own_people", .ref p), ("own_judge", .ref j), ("state", .ref st)])
structure HSt (c : Ct) (H : Hp) (h p j : Addr) (us : List (List Nat)) (st : Addr) (L : Tr) (k : Int) (D : Nat) : Prop where
  ho : HoAt c H h p j st
  pe : PeAt c H p us
  ju : JuAt c H j p
  sa : StAt c H us st L k
  lo : LOk L k D
  us : UsOk us
theorem HSt.same {c : Ct} {H H' : Hp} {h p j : Addr} {us : List (List Nat)} {st : Addr} {L : Tr} {k : Int} {D : Nat} (x : HSt c H h p j us st L k D) (s : Same H H') : HSt c H' h p j us st L k D :=
  ⟨x.ho.imp fun _ e => s _ _ e, x.pe.same s, x.ju.keep (.of s), x.sa.keep (.of s), x.lo, x.us⟩
theorem HoAt.keep {c : Ct} {H H' : Hp} {h p j st : Addr} (x : HoAt c H h p j st) (s : SameX h H H') : Keep H H' := by
  obtain ⟨dx, e⟩ := x
  exact .x s e rfl
/-- the house with another state -/
theorem HSt.put {c : Ct} {H H' : Hp} {h p j : Addr} {us : List (List Nat)} {st st' : Addr} {L L' : Tr} {k k' : Int} {D D' : Nat} (x : HSt c H h p j us st L k D) (s : SameX h H H') (e : HoAt c H' h p j st') (sa : StAt c H' us st' L' k') (lo : LOk L' k' D') : HSt c H' h p j us st' L' k' D' :=
  ⟨e, x.pe.keep (x.ho.keep s), x.ju.keep (x.ho.keep s), sa, lo, x.us⟩
theorem ground_in {p : Pa} (hp : okP p) : inV (.str (pS p)) [.str "/", .str "/tmp"] = decide (p = [] ∨ p = [tmp]) := by
  show ((Str.ofString "/" == pS p) || ((Str.ofString "/tmp" == pS p) || false)) = _
  rw [← pS_nil, ← tmp_S, Bool.or_false, Bool.eq_iff_iff, Bool.or_eq_true, beq_iff_eq, beq_iff_eq, decide_eq_true_iff]
  constructor
  · rintro (e | e)
    · exact .inl (pS_inj okP.nil hp e).symm
    · exact .inr (pS_inj ⟨by decide, fun n hn => by rw [List.mem_singleton.mp hn]; exact tmp_ok⟩ hp e).symm
  · rintro (rfl | rfl)
    · exact .inl rfl
    · exact .inr rfl
/-! ### the facts -/
structure TxH (c : Ct) : Prop extends TxN c where
  groundT : ∃ t, c.mg "GROUND_house" = some (.ref t) ∧ ∀ H, SqT c.K H t [.str "/", .str "/tmp"]
  umask0 : ∃ t, c.mg "FIRST_UMASK" = some (.str "022" t)
  plainD : ∃ d es n, c.mg "PLAIN" = some (.ref d) ∧ KDict c.K c.w d es n ∧ ∀ f : Bool, ∃ t, PySem.W.nsIn c.K d (kT f) = some (some (.str (if f then Str.ofString "644" else Str.ofString "755") t))
  need_path_house : DefG c "need_path_house" "need_path" s_need_path_house
  joined : DefG c "joined" "joined" s_joined
  clH : Cla c "House" c.cH ["own_people", "own_judge", "state"]
  mkH : MkD c c.cH "House.__init__" s_H_init [] []
  Hpeople : ProD c c.cH "people" "House.people" s_H_people
  Hnodes : MetD c c.cH "nodes" "House.nodes" s_H_nodes
  Hcontains : ∃ g fd, PySem.W.findIn c.K (.ref c.cH) "__contains__" = some (some (.ref g)) ∧ PySem.W.isFn c.K (.ref g) = true ∧ FunD c.K "__contains__" "House.__contains__" (defArgs s_H_contains) (defBody s_H_contains) (defScope s_H_contains) [] [] g fd
  Hgetitem : ∃ g fd, PySem.W.findIn c.K (.ref c.cH) "__getitem__" = some (some (.ref g)) ∧ PySem.W.isFn c.K (.ref g) = true ∧ PySem.W.fnIn c.K g = true ∧ FunD c.K "__getitem__" "House.__getitem__" (defArgs s_H_getitem) (defBody s_H_getitem) (defScope s_H_getitem) [] [] g fd
  Hneed_changeable : MetD c c.cH "need_changeable" "House.need_changeable" s_H_need_changeable
  Hneed_folder : MetD c c.cH "need_folder" "House.need_folder" s_H_need_folder
  Hpaths : MetD c c.cH "paths" "House.paths" s_H_paths
  Hput : MetD c c.cH "put" "House.put" s_H_put
  Hneed_place : MetD c c.cH "need_place" "House.need_place" s_H_need_place
  Hneed_folk : MetD c c.cH "need_folk" "House.need_folk" s_H_need_folk
  Hadd : ∃ f fd, Meth c.K c.cH "add" f ∧ FunD c.K "add" "House.add" (defArgs s_H_add) (defBody s_H_add) (defScope s_H_add) [] [("owner", .str "root"), ("group", .str "root"), ("access", .non), ("content", .str "")] f fd
  Hcut : MetD c c.cH "cut" "House.cut" s_H_cut
  Hshift : MetD c c.cH "shift" "House.shift" s_H_shift
  Humask_of : MetD c c.cH "umask_of" "House.umask_of" s_H_umask_of
  Hrestore : MetD c c.cH "restore" "House.restore" s_H_restore
  Hcopied : MetD c c.cH "copied" "House.copied" s_H_copied
  Hgrants : MetD c c.cH "grants" "House.grants" s_H_grants
end K37
end
section
set_option Elab.async false
set_option linter.all false
set_option maxRecDepth 100000
set_option maxHeartbeats 4000000
/-! K3k: what is asked of a house. -/
namespace K37
open PySem PySem.Spec PyProof.Rows L2 StX ClX SX
open C8 (sl_txt rSlX pss_cut tCut)
theorem ok_need_path_house {c : Ct} (T : TxH c) : Has c "need_path_house" 3 spNeedPath := by
  obtain ⟨f, fd, m, F⟩ := T.need_path_house
  obtain ⟨fI, mI, kI, GI⟩ := ok_is_path T.toTxW
  refine Has.mk m F (ps := ["path"]) (okD F sc_need_path_house ?_ ?_) (fun _ _ _ _ _ _ us hl => match us, hl with | [_], _ => rfl)
  · rintro vs H Q E ⟨n, rfl, _⟩
    rfl
  · rintro cdv A outer s H vs Q E hr ⟨p, rfl, ok, k⟩
    refine ⟨_, pss_one (ps_if (pt_not (pt_val (pe_cR GI hr (by decide) kI rfl mI (pa_cons (pv 0) pa_nil)))) pss_never pss_nil), ?_⟩
    exact ⟨_, rfl, p, rfl, ok, fun H' sm => ⟨_, rfl, iteN rfl (k _ sm)⟩⟩
/-- a promise of a method of a house -/
def spH (c : Ct) (r : Addr → Addr → Addr → List (List Nat) → Addr → Tr → Int → Nat → List V → Hp → VK → Prop) : Sp := fun vs H Q _ => ∃ h p j us st L k D rest, vs = .ref h :: rest ∧ HSt c H h p j us st L k D ∧ r h p j us st L k D rest H Q
def spHIn (c : Ct) : Sp := spH c fun h p j us st L k D rest H Q => ∃ q, rest = [.str (pS q)] ∧ okP q ∧ ∀ H', Same H H' → Q (.bl (decide (q ∈ L.map (·.1)))) H'
theorem nodes_some {L : Tr} {k : Int} {D : Nat} (lo : LOk L k D) {q : Pa} (hq : okP q) : (valV (nodesK L) (Sum.inr (pS q))).isSome = decide (q ∈ L.map (·.1)) := by
  by_cases m : q ∈ L.map (·.1)
  · obtain ⟨⟨q', n, a⟩, hm, rfl⟩ := List.mem_map.mp m
    rw [nodes_val lo.nd (fun x hx => lo.okp hx) hm, decide_eq_true m]
    rfl
  · rw [nodes_none hq (fun x hx => lo.okp hx) m, decide_eq_false m]
    rfl
theorem ok_Hcontains {c : Ct} (T : TxH c) : HasIn c c.cH 1 (spHIn c) := by
  obtain ⟨g, fd, h1, h2, F⟩ := T.Hcontains
  have C := T.clH
  refine ⟨g, h1, h2, rawN (ps := ["self", "value"]) F (okD F sc_H_contains ?_ ?_) (fun _ _ _ _ _ _ us hl => match us, hl with | [_, _], _ => rfl)⟩
  · rintro vs H Q E ⟨_, _, _, _, _, _, _, _, _, rfl, _, _, rfl, _⟩
    rfl
  · rintro cdv A outer s H vs Q E hr ⟨h, p, j, us, st, L, k, D, _, rfl, X, q, rfl, hq, K⟩
    obtain ⟨dx, eh⟩ := X.ho
    obtain ⟨nd, um, est, end', eum, _⟩ := X.sa
    refine ⟨_, pss_one (ps_ret (pe_and (pe_callB call_isi rfl T.isin boot_isinstance (pa_cons (pv 1) (pa_cons (pe_bltn (v := .ty "str") rfl T.str boot_str rfl) pa_nil))) (pe_one (pe_cmp (pc_din (hu_of hr) (pv 1) (pe_ix ix_tup (pe_fld (pv 0) rfl) pe_int (fun _ _ => rfl))) rfl)))), ?_⟩
    refine ⟨_, rfl, _, _, _, _, true, rfl, .ty _, .base (.str _), kit_ty (by decide +kernel), true, rfl, iteY rfl ⟨_, rfl, _, rfl, h, c.cH, dx, _, _, rfl, eh, C.cl, C.nf _ (by decide), rfl, st, _, _, _, rfl, rfl, SqT.of est, rfl, nd, _, rfl, DGet.k (k := Sum.inr (pS q)) end', ?_⟩⟩
    rw [nodes_some X.lo hq]
    exact K _ fun _ _ e => e
/-- house[path], a path that is there -/
def spHGet (c : Ct) : Sp := spH c fun h p j us st L k D rest H Q => ∃ q n a, rest = [.str (pS q)] ∧ (q, n, a) ∈ L ∧ ∀ H', Same H H' → Q (.ref a) H'
theorem ok_Hgetitem {c : Ct} (T : TxH c) : ∃ g, PySem.W.findIn c.K (.ref c.cH) "__getitem__" = some (some (.ref g)) ∧ PySem.W.isFn c.K (.ref g) = true ∧ PySem.W.fnIn c.K g = true ∧ FnR c.P c.w c.K c.mg c.base CX0 4 g (spHGet c) := by
  obtain ⟨g, fd, h1, h2, h3, F⟩ := T.Hgetitem
  obtain ⟨fN, mN, kN, GN⟩ := ok_need_path_house T
  have C := T.clH
  refine ⟨g, h1, h2, h3, rawN (ps := ["self", "path"]) F (okD F sc_H_getitem ?_ ?_) (fun _ _ _ _ _ _ us hl => match us, hl with | [_, _], _ => rfl)⟩
  · rintro vs H Q E ⟨_, _, _, _, _, _, _, _, _, rfl, _, _, _, _, rfl, _⟩
    rfl
  · rintro cdv A outer s H vs Q E hr ⟨h, p, j, us, st, L, k, D, _, rfl, X, q, n, a, rfl, hm, K⟩
    refine ⟨_, pss_cons (ps_expr (pe_cR GN hr (by decide) kN rfl mN (pa_cons (pv 1) pa_nil))) (pss_cons (ps_if (pt_cmp (pc_dnotin (hu_of hr) (pv 1) (pe_ix ix_tup (pe_fld (pv 0) rfl) pe_int (fun _ _ => rfl)))) pss_never pss_nil) (pss_one (ps_ret (pe_dget (hu_of hr) (pe_ix ix_tup (pe_fld (pv 0) rfl) pe_int (fun _ _ => rfl)) (pv 1) (fun _ _ => rfl))))), ?_⟩
    have hv := nodes_val X.lo.nd (fun x hx => X.lo.okp hx) hm
    refine ⟨_, rfl, q, rfl, X.lo.okp hm, fun H1 s1 => ?_⟩
    have X1 := X.same s1
    obtain ⟨dx, eh⟩ := X1.ho
    obtain ⟨nd, um, est, end', eum, _⟩ := X1.sa
    refine ⟨_, rfl, _, rfl, h, c.cH, dx, _, _, rfl, eh, C.cl, C.nf _ (by decide), rfl, st, _, _, _, rfl, rfl, SqT.of est, rfl, nd, _, rfl, DGet.k (k := Sum.inr (pS q)) end', _, rfl, iteN (by rw [hv]; rfl) ?_⟩
    refine ⟨_, rfl, h, c.cH, dx, _, _, rfl, eh, C.cl, C.nf _ (by decide), rfl, st, _, _, _, rfl, rfl, SqT.of est, rfl, _, rfl, nd, _, rfl, by rw [← hv]; exact DGet.k (k := Sum.inr (pS q)) end', K _ s1⟩
/-- a path that is there and is not of the ground -/
def spHChg (c : Ct) : Sp := spH c fun h p j us st L k D rest H Q => ∃ q, rest = [.str (pS q)] ∧ q ∈ L.map (·.1) ∧ q ≠ [] ∧ q ≠ [tmp] ∧ ∀ H', Same H H' → Q .non H'
theorem ok_Hchg {c : Ct} (T : TxH c) : HasM c c.cH "need_changeable" 4 (spHChg c) := by
  obtain ⟨f, fd, M, F⟩ := T.Hneed_changeable
  obtain ⟨fN, mN, kN, GN⟩ := ok_need_path_house T
  obtain ⟨tG, eG, SG⟩ := T.groundT
  have C := T.clH
  refine ⟨f, M, rawN (ps := ["self", "path"]) F (okD F sc_H_need_changeable ?_ ?_) (fun _ _ _ _ _ _ us hl => match us, hl with | [_, _], _ => rfl)⟩
  · rintro vs H Q E ⟨_, _, _, _, _, _, _, _, _, rfl, _, _, rfl, _⟩
    rfl
  · rintro cdv A outer s H vs Q E hr ⟨h, p, j, us, st, L, k, D, _, rfl, X, q, rfl, hm, n0, n1, K⟩
    refine ⟨_, pss_cons (ps_expr (pe_cR GN hr (by decide) kN rfl mN (pa_cons (pv 1) pa_nil))) (pss_cons (ps_if (pt_cmp (pc_dnotin (hu_of hr) (pv 1) (pe_ix ix_tup (pe_fld (pv 0) rfl) pe_int (fun _ _ => rfl)))) pss_never pss_nil) (pss_one (ps_if (pt_cmpR op_in_seq (pv 1) (pe_glob (v := .ref tG) rfl eG rfl) rfl) pss_never pss_nil))), ?_⟩
    have hq := X.lo.okk hm
    refine ⟨_, rfl, q, rfl, hq, fun H1 s1 => ?_⟩
    have X1 := X.same s1
    obtain ⟨dx, eh⟩ := X1.ho
    obtain ⟨nd, um, est, end', eum, _⟩ := X1.sa
    refine ⟨_, rfl, _, rfl, h, c.cH, dx, _, _, rfl, eh, C.cl, C.nf _ (by decide), rfl, st, _, _, _, rfl, rfl, SqT.of est, rfl, nd, _, rfl, DGet.k (k := Sum.inr (pS q)) end', _, rfl, iteN (by rw [nodes_some X.lo hq, decide_eq_true hm]; rfl) ?_⟩
    refine ⟨_, rfl, tG, _, rfl, .inr (SG _), rfl, rfl, _, rfl, iteN ?_ (K _ s1)⟩
    show inV (.str (pS q)) [.str "/", .str "/tmp"] = false
    rw [ground_in hq]
    exact decide_eq_false fun z => z.elim n0 n1
/-- a path that is there and is a folder -/
def spHFol (c : Ct) : Sp := spH c fun h p j us st L k D rest H Q => ∃ q, rest = [.str (pS q)] ∧ q ∈ L.map (·.1) ∧ isF q = false ∧ ∀ H', Same H H' → Q .non H'
theorem ok_Hfol {c : Ct} (T : TxH c) : HasM c c.cH "need_folder" 3 (spHFol c) := by
  obtain ⟨f, fd, M, F⟩ := T.Hneed_folder
  obtain ⟨pk, gk, fdk, psk, Pk, Gk, bk⟩ := pr_Nkind T.toTxN
  have Ck := T.clN.cl
  have C := T.clH
  refine ⟨f, M, rawN (ps := ["self", "path"]) F (okD F sc_H_need_folder ?_ ?_) (fun _ _ _ _ _ _ us hl => match us, hl with | [_, _], _ => rfl)⟩
  · rintro vs H Q E ⟨_, _, _, _, _, _, _, _, _, rfl, _, _, rfl, _⟩
    rfl
  · rintro cdv A outer s H vs Q E hr ⟨h, p, j, us, st, L, k, D, _, rfl, X, q, rfl, hm, hf, K⟩
    refine ⟨_, pss_cons (ps_if (pt_cmp (pc_dnotin (hu_of hr) (pv 1) (pe_ix ix_tup (pe_fld (pv 0) rfl) pe_int (fun _ _ => rfl)))) pss_never pss_nil) (pss_one (ps_if (pt_cmpR op_ne (pe_prop (pe_dget (hu_of hr) (pe_ix ix_tup (pe_fld (pv 0) rfl) pe_int (fun _ _ => rfl)) (pv 1) (fun _ _ => rfl)) Ck Pk Gk (hr.mono (by decide)) bk .nil pass0 (by rfl)) pe_str (nomark _)) pss_never pss_nil)), ?_⟩
    have hq := X.lo.okk hm
    obtain ⟨dx, eh⟩ := X.ho
    obtain ⟨nd, um, est, end', eum, hN, _⟩ := X.sa
    obtain ⟨⟨q', n, a⟩, hm', rfl⟩ := List.mem_map.mp hm
    have hv := nodes_val X.lo.nd (fun x hx => X.lo.okp hx) hm'
    obtain ⟨o, g, acc, dn, d, b, en, ed⟩ := hN _ hm'
    refine ⟨_, rfl, _, rfl, h, c.cH, dx, _, _, rfl, eh, C.cl, C.nf _ (by decide), rfl, st, _, _, _, rfl, rfl, SqT.of est, rfl, nd, _, rfl, DGet.k (k := Sum.inr (pS q')) end', _, rfl, iteN (by rw [hv]; rfl) ?_⟩
    refine ⟨_, rfl, h, c.cH, dx, _, _, rfl, eh, C.cl, C.nf _ (by decide), rfl, st, _, _, _, rfl, rfl, SqT.of est, rfl, _, rfl, nd, _, rfl, by rw [← hv]; exact DGet.k (k := Sum.inr (pS q')) end', a, dn, _, rfl, en, a, dn, n, d, _, _, rfl, en, ed, kT_key _ _ _ _ _, rfl, _, rfl, iteN ?_ (K _ fun _ _ e => e)⟩
    show (!decide (V.str (kT (isF q')) = V.str "folder")) = false
    have hf : isF q' = false := hf
    rw [hf]
    rfl
/-- the state's nodes, anew -/
def spHNodes (c : Ct) : Sp := spH c fun h p j us st L k D rest H Q => rest = [] ∧ ∀ H' d, Same H H' → H d = none → H' d = some (.dK (nodesK L)) → Q (.ref d) H'
theorem ok_Hnodes {c : Ct} (T : TxH c) : HasM c c.cH "nodes" 1 (spHNodes c) := by
  obtain ⟨f, fd, M, F⟩ := T.Hnodes
  have C := T.clH
  refine ⟨f, M, rawN (ps := ["self"]) F (okD F sc_H_nodes ?_ ?_) (fun _ _ _ _ _ _ us hl => match us, hl with | [_], _ => rfl)⟩
  · rintro vs H Q E ⟨_, _, _, _, _, _, _, _, _, rfl, _, rfl, _⟩
    rfl
  · rintro cdv A outer s H vs Q E hr ⟨h, p, j, us, st, L, k, D, _, rfl, X, rfl, K⟩
    obtain ⟨dx, eh⟩ := X.ho
    obtain ⟨nd, um, est, end', eum, _⟩ := X.sa
    refine ⟨_, pss_one (ps_ret (pe_callTy (call_dictD) rfl T.dict (by decide +kernel) (pa_cons (pe_ix ix_tup (pe_fld (pv 0) rfl) pe_int (fun _ _ => rfl)) pa_nil))), ?_⟩
    exact ⟨_, rfl, h, c.cH, dx, _, _, rfl, eh, C.cl, C.nf _ (by decide), rfl, st, _, _, _, rfl, rfl, SqT.of est, rfl, nd, _, rfl, .inl end', fun d n => K _ d (same_upd n) n upd_same⟩
end K37
end
section
set_option Elab.async false
set_option linter.all false
set_option maxRecDepth 100000
set_option maxHeartbeats 4000000
/-! K3l: houses changed. -/
namespace K37
open PySem PySem.Spec PyProof.Rows L2 StX ClX SX
open C8 (sl_txt rSlX pss_cut tCut)
/-- o.f(e, ..), f an attribute of the instance o: an instance of C -/
def tCallF (K : PySem.W.Frag) (C : Addr) (f : Str) (sp : Sp) (to : TE) (t : TA) : TE := fun σ H Q => to σ H fun x H1 => ∃ a Co dx fs b, x = .ref a ∧ H1 a = some (.ins Co dx fs) ∧ Cls K Co ∧ NoAttr K Co f ∧ fs.lookup f = some (.ref b) ∧
  t σ H1 fun vs H2 => (∃ dy gs, H2 b = some (.ins C dy gs)) ∧ sp (.ref b :: vs) H2 Q E0
theorem pe_callF {X : Cx} {C g : Addr} {f : Str} {k j : Nat} {sp : Sp} {o e : Expr} {es : List Expr} {apos pos : Pos} {to : TE} {t : TA} {pl : Sem Bool} (c : CallO X.K C g) (F : FnR X.prog X.w X.K X.mg X.base CX0 k g sp) (hr : Room j X.A) (hj : k ≤ j) (ho : PE X o to) (ha : PA X (e :: es) t)
    (hst : starEach (e :: es) X.env = (false, eval e X.env) :: starEach es X.env := by rfl) (hpl : (backTo pos (starEach es X.env)).any (·.1) = false := by rfl)
    (ht : eval (.Call (.Attribute o f apos) (e :: es) [] pos) X.env = (do
      let ov ← eval o X.env
      standAt apos.atName
      let (fv, first) ← holding [ov] (getMethod ov f pl)
      callWith pos fv first (backTo pos (starEach (e :: es) X.env)) (backToKw pos (keywordEach [] X.env))) := by rfl) : PE X (.Call (.Attribute o f apos) (e :: es) [] pos) (tCallF X.K C f sp to t) := by
  refine ⟨fun pins s σ H Q I h => ?_⟩
  refine PySem.W.methodCall_KW (pl := pl) (thn (ho.run pins s σ H _ I h) fun u s1 q => ?_) ht
  obtain ⟨x, H1, I1, rx, a, Co, dx, fs, b, rfl, ea, cl, na, hl, q⟩ := q
  obtain rfl : u = Value.ref a := rx
  obtain ⟨mA, O, _⟩ := ins_get I1.hok ea
  obtain ⟨od, J, _⟩ := O.look
  refine PySem.W.method_usual I1.kIn J (PySem.W.plainGet_of (cl.get f)).1 (PySem.W.plainGet_of (cl.get f)).2 na rfl (getattr_ok I1 ea cl na hl fun v s2 I2 rv => ?_)
  obtain rfl : v = Value.ref b := rv
  refine callO_with (thn (ha.run pos pins s2 σ H1 _ I2 q) fun us s3 z => ?_) hst hpl
  obtain ⟨vs, H3, I3, rs, ⟨dy, gs, eb⟩, q3⟩ := z
  obtain ⟨ox, od', J', hd⟩ := insC_at I3 (.inr ⟨dy, gs, eb⟩)
  exact ⟨⟨C, ox, od', J', hd⟩, run_callO c F (hr.mono hj) pass0 I3 (.inr ⟨dy, gs, eb⟩) rs q3⟩
/-- a node is put at a new path -/
def spHPut (c : Ct) : Sp := spH c fun h p j us st L k D rest H Q => ∃ q a o g acc, rest = [.str (pS q), .ref a] ∧ okP q ∧ q ∉ L.map (·.1) ∧ NdAt c H a k (isF q) o g acc ∧
  ∀ H' st', SameX h H H' → HoAt c H' h p j st' → StAt c H' us st' (L ++ [(q, k, a)]) (k + 1) → Q .non H'
theorem nodesK_snoc (L : Tr) (q : Pa) (k : Int) (a : Addr) : nodesK (L ++ [(q, k, a)]) = nodesK L ++ [((Sum.inr (pS q) : Key), V.ref a)] := by
  unfold nodesK
  rw [List.map_append]
  rfl
theorem ok_Hput {c : Ct} (T : TxH c) : HasM c c.cH "put" 2 (spHPut c) := by
  obtain ⟨f, fd, M, F⟩ := T.Hput
  obtain ⟨fN, MN, GN⟩ := ok_Hnodes T
  have C := T.clH
  have CN := C.cl
  refine ⟨f, M, rawN (ps := ["self", "path", "node"]) F (okD F sc_H_put ?_ ?_) (fun _ _ _ _ _ _ us hl => match us, hl with | [_, _, _], _ => rfl)⟩
  · rintro vs H Q E ⟨_, _, _, _, _, _, _, _, _, rfl, _, _, _, _, _, _, rfl, _⟩
    rfl
  · rintro cdv A outer s H vs Q E hr ⟨h, p, j, us, st, L, k, D, _, rfl, X, q, a, o, g, acc, rfl, hq, hn, na, K⟩
    refine ⟨_, pss_cons (ps_set (i := 3) sc_H_put.nd rfl (Or.inl rfl) (pe_m0R CN MN GN hr (by decide) (pv 0))) (pss_cons (ps_dput (hu_of hr) (pv 3) (pv 1) (pv 2) rfl) (pss_one (ps_fld (pv 0) (pe_tup (pa_cons (pv 3) (pa_cons (pe_ix ix_tup (pe_fld (pv 0) rfl) pe_int (fun _ _ => rfl)) (pa_cons (pe_op op_add (pe_ix ix_tup (pe_fld (pv 0) rfl) pe_int (fun _ _ => rfl)) pe_int) pa_nil)))) rfl))), ?_⟩
    obtain ⟨dx, eh⟩ := X.ho
    refine ⟨_, rfl, h, dx, _, rfl, eh, rfl, h, p, j, us, st, L, k, D, [], rfl, X, rfl, fun H1 d s1 n1 e1 => ?_⟩
    have hv := nodes_none hq (fun x hx => X.lo.okp hx) hn
    have hl : (nodesK L).length < sizeLine := smT (by unfold nodesK; rw [List.length_map]; have := X.lo.len; omega)
    refine ⟨_, rfl, _, rfl, _, rfl, d, _, rfl, DPut.k (k := Sum.inr (pS q)) e1 hl, ?_⟩
    rw [putK_new _ hv]
    have s2 : Same H (upd H1 d (.dK (nodesK L ++ [((Sum.inr (pS q) : Key), V.ref a)]))) := same_new s1 n1
    have X2 := X.same s2
    obtain ⟨dx', eh2⟩ := X2.ho
    cases (s2 _ _ eh).symm.trans eh2
    obtain ⟨nd, um, est, end', eum, h1, h2, h3⟩ := X2.sa
    refine ⟨_, rfl, _, rfl, h, c.cH, dx, _, _, rfl, eh2, C.cl, C.nf _ (by decide), rfl, st, _, _, _, rfl, rfl, SqT.of est, rfl, _, rfl, h, c.cH, dx, _, _, rfl, eh2, C.cl, C.nf _ (by decide), rfl, st, _, _, _, rfl, rfl, SqT.of est, rfl, _, _, rfl, rfl, smL (by simp), fun t nt => ?_⟩
    have s3 : Same H (upd (upd H1 d (.dK (nodesK L ++ [((Sum.inr (pS q) : Key), V.ref a)]))) t (.tup [.ref d, .ref um, .int (k + 1)])) := same_new s2 (s2.none nt)
    refine ⟨_, rfl, h, c.cH, dx, _, rfl, s3 _ _ eh, C.cl, C.nf _ (by decide), by simp, ?_⟩
    have hd : (upd (upd H1 d (.dK (nodesK L ++ [((Sum.inr (pS q) : Key), V.ref a)]))) t (.tup [.ref d, .ref um, .int (k + 1)])) d = some (.dK (nodesK L ++ [((Sum.inr (pS q) : Key), V.ref a)])) := upd_old upd_same nt
    have sx := s3.toX.put (a := h) (o := .ins c.cH dx [("own_people", .ref p), ("own_judge", .ref j), ("state", .ref t)])
    have kp : Keep H _ := .x sx eh rfl
    refine K _ t sx ⟨dx, upd_same⟩ ⟨d, um, ?_, ?_, ?_, ?_, ?_, ?_⟩
    · rw [upd_ne (ne_of upd_same (s3 _ _ eh) fun z => nomatch z)]
      exact upd_same
    · rw [upd_ne (ne_of hd (s3 _ _ eh) fun z => nomatch z), nodesK_snoc]
      exact hd
    · obtain ⟨_, um', est', _, eum', _⟩ := X.sa
      cases (s2 _ _ est').symm.trans est
      exact kp _ _ id eum'
    · intro x hx
      rcases List.mem_append.mp hx with hx | hx
      · obtain ⟨_, _, _, _, _, g1, _⟩ := X.sa
        exact (g1 x hx).imp fun o ⟨g, acc, z⟩ => ⟨g, acc, z.keep kp⟩
      · cases List.mem_singleton.mp hx
        exact ⟨o, g, acc, na.keep kp⟩
    · intro a' hx
      rcases List.mem_append.mp hx with hx | hx
      · obtain ⟨_, _, _, _, _, _, g2, _⟩ := X.sa
        exact (g2 a' hx).imp fun acc z => ⟨z.1.keep kp, z.2.keep kp⟩
      · obtain ⟨a0, m0⟩ := X.lo.g0
        have e : ([] : Pa) = q := congrArg Prod.fst (List.mem_singleton.mp hx)
        exact absurd (List.mem_map.mpr ⟨_, m0, e⟩) hn
    · intro a' hx
      rcases List.mem_append.mp hx with hx | hx
      · obtain ⟨_, _, _, _, _, _, _, g3⟩ := X.sa
        exact (g3 a' hx).imp fun acc z => ⟨z.1.keep kp, z.2.keep kp⟩
      · obtain ⟨a0, m0⟩ := X.lo.g1
        have e : ([tmp] : Pa) = q := congrArg Prod.fst (List.mem_singleton.mp hx)
        exact absurd (List.mem_map.mpr ⟨_, m0, e⟩) hn
/-- a place for a new node -/
def spHPlace (c : Ct) : Sp := spH c fun h p j us st L k D rest H Q => ∃ q n, rest = [.str (pS (q ++ [n]))] ∧ okP (q ++ [n]) ∧ q ++ [n] ∉ L.map (·.1) ∧ q ∈ L.map (·.1) ∧ isF q = false ∧ ∀ H', Same H H' → Q .non H'
theorem ok_Hplace {c : Ct} (T : TxH c) : HasM c c.cH "need_place" 6 (spHPlace c) := by
  obtain ⟨f, fd, M, F⟩ := T.Hneed_place
  obtain ⟨fF, MF, GF⟩ := ok_Hfol T
  obtain ⟨fA, mA, kA, GA⟩ := ok_above T.toTxW
  have C := T.clH
  have CF := C.cl
  refine ⟨f, M, rawN (ps := ["self", "path"]) F (okD F sc_H_need_place ?_ ?_) (fun _ _ _ _ _ _ us hl => match us, hl with | [_, _], _ => rfl)⟩
  · rintro vs H Q E ⟨_, _, _, _, _, _, _, _, _, rfl, _, _, _, rfl, _⟩
    rfl
  · rintro cdv A outer s H vs Q E hr ⟨h, p, j, us, st, L, k, D, _, rfl, X, q, n, rfl, hq, hn, hm, hf, K⟩
    refine ⟨_, pss_cons (ps_if (pt_cmp (pc_din (hu_of hr) (pv 1) (pe_ix ix_tup (pe_fld (pv 0) rfl) pe_int (fun _ _ => rfl)))) pss_never pss_nil) (pss_one (ps_expr (pe_mR CF MF GF hr (by decide) (pv 0) (pa_cons (pe_cR GA hr (by decide) kA rfl mA (pa_cons (pv 1) pa_nil)) pa_nil)))), ?_⟩
    obtain ⟨dx, eh⟩ := X.ho
    obtain ⟨nd, um, est, end', eum, _⟩ := X.sa
    refine ⟨_, rfl, _, rfl, h, c.cH, dx, _, _, rfl, eh, C.cl, C.nf _ (by decide), rfl, st, _, _, _, rfl, rfl, SqT.of est, rfl, nd, _, rfl, DGet.k (k := Sum.inr (pS (q ++ [n]))) end', _, rfl, iteN (by rw [nodes_some X.lo hq, decide_eq_false hn]) ?_⟩
    refine ⟨_, rfl, h, dx, _, rfl, eh, rfl, _, rfl, q, n, rfl, hq, fun H1 s1 => ?_⟩
    exact ⟨h, p, j, us, st, L, k, D, _, rfl, X.same s1, q, rfl, hm, hf, fun H2 s2 => K _ (s1.trans s2)⟩
def spHFolk (c : Ct) : Sp := fun vs H Q _ => ∃ h, vs = [.ref h, .str "root", .str "root"] ∧ Q .non H
theorem ok_Hfolk {c : Ct} (T : TxH c) : HasM c c.cH "need_folk" 1 (spHFolk c) := by
  obtain ⟨f, fd, M, F⟩ := T.Hneed_folk
  refine ⟨f, M, rawN (ps := ["self", "owner", "group"]) F (okD F sc_H_need_folk ?_ ?_) (fun _ _ _ _ _ _ us hl => match us, hl with | [_, _, _], _ => rfl)⟩
  · rintro vs H Q E ⟨_, rfl, _⟩
    rfl
  · rintro cdv A outer s H vs Q E hr ⟨h, rfl, K⟩
    refine ⟨_, pss_cons (ps_if (PW.pt (pw_and (pt_cmpR op_ne (pv 1) pe_str (nomark _)) (pw_and1 pt_never))) pss_never pss_nil) (pss_one (ps_if (PW.pt (pw_or (pt_not (pt_val (pe_callB call_isi rfl T.isin boot_isinstance (pa_cons (pv 2) (pa_cons (pe_bltn (v := .ty "str") rfl T.str boot_str rfl) pa_nil))))) (pw_or1 (PW.pt (pw_and (pt_cmpR op_ne (pv 2) pe_str (nomark _)) (pw_and1 pt_never)))))) pss_never pss_nil)), ?_⟩
    refine ⟨_, rfl, rfl, _, rfl, iteN (by decide) (iteN rfl ?_)⟩
    exact ⟨_, rfl, _, _, _, _, true, rfl, .ty _, .base (.str _), kit_ty (by decide +kernel), true, rfl, iteN rfl ⟨_, rfl, rfl, _, rfl, iteN (by decide) (iteN rfl K)⟩⟩
def spHUmask (c : Ct) : Sp := spH c fun h p j us st L k D rest H Q => ∃ u, rest = [.str (S u)] ∧ u ∈ us ∧ ∀ H', Same H H' → Q (.str "022") H'
theorem um_val {us : List (List Nat)} {u : List Nat} (h : u ∈ us) : valV (us.map fun u => ((Sum.inr (S u) : Key), V.str "022")) (Sum.inr (S u)) = some (.str "022") := by
  obtain ⟨v, h1, h2⟩ := val_at (kvs := us.map fun u => ((Sum.inr (S u) : Key), V.str "022")) (k := Sum.inr (S u)) (List.mem_map.mpr ⟨_, List.mem_map.mpr ⟨u, h, rfl⟩, rfl⟩)
  obtain ⟨w, _, e⟩ := List.mem_map.mp h2
  rw [h1]
  exact congrArg some (congrArg Prod.snd e).symm
theorem ok_Humask {c : Ct} (T : TxH c) : HasM c c.cH "umask_of" 2 (spHUmask c) := by
  obtain ⟨f, fd, M, F⟩ := T.Humask_of
  obtain ⟨gC, c1, c2, GC⟩ := ok_Pcontains T.toTxP
  have C := T.clH
  refine ⟨f, M, rawN (ps := ["self", "user"]) F (okD F sc_H_umask_of ?_ ?_) (fun _ _ _ _ _ _ us hl => match us, hl with | [_, _], _ => rfl)⟩
  · rintro vs H Q E ⟨_, _, _, _, _, _, _, _, _, rfl, _, _, rfl, _⟩
    rfl
  · rintro cdv A outer s H vs Q E hr ⟨h, p, j, us, st, L, k, D, _, rfl, X, u, rfl, hu, K⟩
    refine ⟨_, pss_cons (ps_if (pt_cmpR (op_ownNotIn c1 c2 GC hr (by decide)) (pv 1) (pe_fld (pv 0) rfl) rfl) pss_never pss_nil) (pss_one (ps_ret (pe_dget (hu_of hr) (pe_ix ix_tup (pe_fld (pv 0) rfl) pe_int (fun _ _ => rfl)) (pv 1) (fun _ _ => rfl)))), ?_⟩
    obtain ⟨dx, eh⟩ := X.ho
    obtain ⟨dp, mm, gg, kvs, ep, _⟩ := X.pe
    refine ⟨_, rfl, _, rfl, h, c.cH, dx, _, _, rfl, eh, C.cl, C.nf _ (by decide), rfl, p, dp, _, rfl, ep, p, us, u, rfl, X.pe, hu, fun H1 s1 => ⟨_, rfl, _, rfl, iteN rfl ?_⟩⟩
    have X1 := X.same s1
    obtain ⟨dx1, eh1⟩ := X1.ho
    cases (s1 _ _ eh).symm.trans eh1
    obtain ⟨nd, um, est, end', eum, _⟩ := X1.sa
    refine ⟨_, rfl, h, c.cH, dx, _, _, rfl, eh1, C.cl, C.nf _ (by decide), rfl, st, _, _, _, rfl, rfl, SqT.of est, rfl, _, rfl, um, _, rfl, by rw [← um_val hu]; exact DGet.k (k := Sum.inr (S u)) eum, K _ s1⟩
def spHRestore (c : Ct) : Sp := spH c fun h p j us st L k D rest H Q => ∃ st', rest = [.ref st'] ∧ ∀ H', SameX h H H' → HoAt c H' h p j st' → Q .non H'
theorem ok_Hrestore {c : Ct} (T : TxH c) : HasM c c.cH "restore" 1 (spHRestore c) := by
  obtain ⟨f, fd, M, F⟩ := T.Hrestore
  have C := T.clH
  refine ⟨f, M, rawN (ps := ["self", "kept"]) F (okD F sc_H_restore ?_ ?_) (fun _ _ _ _ _ _ us hl => match us, hl with | [_, _], _ => rfl)⟩
  · rintro vs H Q E ⟨_, _, _, _, _, _, _, _, _, rfl, _, _, rfl, _⟩
    rfl
  · rintro cdv A outer s H vs Q E hr ⟨h, p, j, us, st, L, k, D, _, rfl, X, st', rfl, K⟩
    obtain ⟨dx, eh⟩ := X.ho
    refine ⟨_, pss_one (ps_fld (pv 0) (pv 1) rfl), ?_⟩
    exact ⟨_, rfl, _, rfl, h, c.cH, dx, _, rfl, eh, C.cl, C.nf _ (by decide), by simp, K _ sameX_upd ⟨dx, upd_same⟩⟩
/-- x is granted at the ground, wx at /tmp -/
def spHGr (c : Ct) : Sp := spH c fun h p j us st L k D rest H Q => ∃ u q d, rest = [.str (S u), .str (pS q), .str (wT d)] ∧ u ∈ us ∧ ((q = [] ∧ d = 1) ∨ (q = [tmp] ∧ d = 3)) ∧ ∀ H', Same H H' → Q (.bl true) H'
theorem ok_Hgr {c : Ct} (T : TxH c) : HasM c c.cH "grants" 6 (spHGr c) := by
  obtain ⟨f, fd, M, F⟩ := T.Hgrants
  obtain ⟨gJ, CO, GJ⟩ := ok_Jcall T.toTxP
  obtain ⟨po, go, fdo, pso, Po, Go, bo⟩ := pr_Nowner T.toTxN
  obtain ⟨pg, gg, fdg, psg, Pg, Gg, bg⟩ := pr_Ngroup T.toTxN
  obtain ⟨pa, ga, fda, psa, Pa', Ga, ba⟩ := pr_Naccess T.toTxN
  have C := T.clH
  have Co := T.clN.cl
  refine ⟨f, M, rawN (ps := ["self", "user", "path", "letters"]) F (okD F sc_H_grants ?_ ?_) (fun _ _ _ _ _ _ us hl => match us, hl with | [_, _, _, _], _ => rfl)⟩
  · rintro vs H Q E ⟨_, _, _, _, _, _, _, _, _, rfl, _, _, _, _, rfl, _⟩
    rfl
  · rintro cdv A outer s H vs Q E hr ⟨h, p, j, us, st, L, k, D, _, rfl, X, u, q, d, rfl, hu, hc, K⟩
    refine ⟨_, pss_cons (ps_set (i := 4) sc_H_grants.nd rfl (Or.inl rfl) (pe_dget (hu_of hr) (pe_ix ix_tup (pe_fld (pv 0) rfl) pe_int (fun _ _ => rfl)) (pv 2) (fun _ _ => rfl))) (pss_one (ps_ret (pe_callF CO GJ hr (by decide) (pv 0) (pa_cons (pv 1) (pa_cons (pe_prop (pv 4) Co Po Go (hr.mono (by decide)) bo .nil pass0 (by rfl)) (pa_cons (pe_prop (pv 4) Co Pg Gg (hr.mono (by decide)) bg .nil pass0 (by rfl)) (pa_cons (pe_prop (pv 4) Co Pa' Ga (hr.mono (by decide)) ba .nil pass0 (by rfl)) (pa_cons (pv 3) pa_nil)))))))), ?_⟩
    obtain ⟨dx, eh⟩ := X.ho
    obtain ⟨nd, um, est, end', eum, hN, hg0, hg1⟩ := X.sa
    obtain ⟨a, n, acc, hm, dn, d0, b, en, ed, t, al, hd, hb⟩ : ∃ a n acc, (q, n, a) ∈ L ∧ ∃ dn d0 b, H a = some (.ins c.cN dn [("own_number", .int n), ("own_fields", .ref d0)]) ∧ H d0 = some (.dK (ndF false "root" "root" acc b)) ∧ ∃ t, AlAt c H acc t t t ∧ d < 8 ∧ Builtin.bitAnd (d : Int) (t : Int) = (d : Int) := by
      rcases hc with ⟨rfl, rfl⟩ | ⟨rfl, rfl⟩
      · obtain ⟨a, m⟩ := X.lo.g0
        obtain ⟨acc, ⟨dn, d0, b, e1, e2⟩, al⟩ := hg0 a m
        exact ⟨a, 0, acc, m, dn, d0, b, e1, e2, 5, al, by decide, by decide +kernel⟩
      · obtain ⟨a, m⟩ := X.lo.g1
        obtain ⟨acc, ⟨dn, d0, b, e1, e2⟩, al⟩ := hg1 a m
        exact ⟨a, 1, acc, m, dn, d0, b, e1, e2, 7, al, by decide, by decide +kernel⟩
    have hv := nodes_val X.lo.nd (fun x hx => X.lo.okp hx) hm
    obtain ⟨dj, ej⟩ := X.ju
    refine ⟨_, rfl, h, c.cH, dx, _, _, rfl, eh, C.cl, C.nf _ (by decide), rfl, st, _, _, _, rfl, rfl, SqT.of est, rfl, _, rfl, nd, _, rfl, by rw [← hv]; exact DGet.k (k := Sum.inr (pS q)) end', ?_⟩
    refine ⟨_, rfl, h, c.cH, dx, _, j, rfl, eh, C.cl, C.nf _ (by decide), rfl, _, rfl, ?_⟩
    refine ⟨_, rfl, a, dn, _, rfl, en, a, dn, n, d0, _, _, rfl, en, ed, rfl, ?_⟩
    refine ⟨_, rfl, a, dn, _, rfl, en, a, dn, n, d0, _, _, rfl, en, ed, rfl, ?_⟩
    refine ⟨_, rfl, a, dn, _, rfl, en, a, dn, n, d0, _, _, rfl, en, ed, rfl, ?_⟩
    exact ⟨_, rfl, ⟨dj, _, ej⟩, j, p, us, u, acc, t, t, t, d, rfl, ⟨X.ju, X.pe, hu, (X.us.2.2 u hu).2, al⟩, hd, hb, K⟩
end K37
end
section
set_option Elab.async false
set_option linter.all false
set_option maxRecDepth 100000
set_option maxHeartbeats 4000000
/-! K3m: a new house, a copy. -/
namespace K37
open PySem PySem.Spec PyProof.Rows L2 StX ClX SX
open C8 (sl_txt rSlX pss_cut tCut)
theorem dc_walk {J : It} {n : Nat} {G : Hp → Prop} {Y : Nat → Hp → V → Hp → Prop} (w : Walk J n G Y) {g : TG} {tt : TT} {tk tv : TE} {vs : List Nat} {σ : L2.St} {H1 : Hp} {D : Addr} {Qd : Hp → Prop} (Pv : Nat → Hp → Prop) (h0 : Pv 0 (upd H1 D (.dK []))) (hG : ∀ i H, i ≤ n → Pv i H → G H)
    (hs : ∀ i x H H', i < n → Pv i H → Y i H x H' → g x (wipe σ vs) H' fun σ2 H2 => wipe σ2 vs = wipe σ vs ∧ tt σ2 H2 fun b H3 =>
      if b = true then tk σ2 H3 fun y H4 => tv σ2 H4 fun z H5 => ∃ kvs k, y = kV k ∧ H5 D = some (.dK kvs) ∧ kvs.length < sizeLine ∧ Pv (i + 1) (upd H5 D (.dK (putK kvs k z))) else Pv (i + 1) H3) (hd : ∀ H, Pv n H → Qd H) :
    ∃ W : Nat → Nat → Hp → Prop, (∃ m, W 0 m (upd H1 D (.dK []))) ∧ ∀ i m H, W i m H →
      (J.stop i H ∧ Qd H) ∨ (J.go i H ∧ ∃ Nx : Hp → Prop, (∀ H', Nx H' → ∃ m', m' < m ∧ W (i + 1) m' H') ∧ ∀ x H', J.yld i H x H' → g x (wipe σ vs) H' fun σ2 H2 => wipe σ2 vs = wipe σ vs ∧ tt σ2 H2 fun b H3 =>
        if b = true then tk σ2 H3 fun y H4 => tv σ2 H4 fun z H5 => ∃ kvs k, y = kV k ∧ H5 D = some (.dK kvs) ∧ kvs.length < sizeLine ∧ Nx (upd H5 D (.dK (putK kvs k z))) else Nx H3) := by
  refine ⟨fun i m H => i + m = n ∧ Pv i H, ⟨n, Nat.zero_add n, h0⟩, fun i m H ⟨e, p⟩ => ?_⟩
  have q := hG i H (by omega) p
  rcases Nat.lt_or_ge i n with hi | hi
  · exact .inr ⟨w.goes i H hi q, Pv (i + 1), fun H' p' => ⟨m - 1, by omega, by omega, p'⟩, fun x H' y => hs i x H H' hi p (w.yields i H x H' hi q y)⟩
  · have e' : i = n := by omega
    subst e'
    exact .inl ⟨w.stops H q, hd H p⟩
/-- name = {k: v for ..}, on one line, the name a local -/
theorem ps_setDc {X : Cx} {i : Nat} {nm : Str} {p1 : Pos} {kx vx tg iter : Expr} {ifs : List Expr} {sco : Scope} {own : List (Str × Nat)} {p2 p3 : Pos} {wi : TI} {g : TG} {tt : TT} {ka va : TE} (hc : X.calm = true) (hN : X.N.Nodup) (h1 : X.N[i]? = some nm) (h2 : X.env.scope.names.lookup nm = some .local)
    (sw : swapsWith (.DictComp kx vx [⟨tg, iter, ifs, 0⟩] sco p2) (some (.Name nm p1)) p3.line X.env = pure true) (hi : PI X tg iter wi) (ok : BlkOk X.N X.env.scope sco own)
    (hg : ∀ (s : Shared) (H : Hp) (b : Addr) (cl : List (Str × Addr)) (fp : List Addr), PG (X.blk s H sco (compEnvC sco cl b X.env) fp) tg g)
    (ht : ∀ (s : Shared) (H : Hp) (b : Addr) (cl : List (Str × Addr)) (fp : List Addr), PTs (X.blk s H sco (compEnvC sco cl b X.env) fp) ifs tt)
    (hk : ∀ (s : Shared) (H : Hp) (b : Addr) (cl : List (Str × Addr)) (fp : List Addr), PE (X.blk s H sco (compEnvC sco cl b X.env) fp) kx ka)
    (hv : ∀ (s : Shared) (H : Hp) (b : Addr) (cl : List (Str × Addr)) (fp : List Addr), PE (X.blk s H sco (compEnvC sco cl b X.env) fp) vx va) (fo : ∀ x, foldedSetIterable iter X.env x = pure x := by intro _; rfl) :
    PS X (.Assign [.Name nm p1] (.DictComp kx vx [⟨tg, iter, ifs, 0⟩] sco p2) p3) (tAsg (tDc wi g tt ka va (own.map (·.2))) (gName i)) := by
  constructor
  intro pins s σ H D I hD
  have hD : tDc wi g tt ka va (own.map (·.2)) σ H (fun z H1 => gName i z σ H1 D.nx) := hD
  rw [exec_Assign_Name_used _ _ _ _ sw]
  refine wpAny_bind (wpAny_standAt (wpAny_bind ?_))
  show wpAny _ X.A (do let _ ← comprehension (.DictComp kx vx [⟨tg, iter, ifs, 0⟩] sco p2) sco X.env (firstIterPos [⟨tg, iter, ifs, 0⟩] p2) newDict false (eval iter X.env) (some (assign (.Name nm p1) X.env))) _ _ s
  have core := dc_core (Qf := fun _ s9 => SP X pins D .next s9) (use := some (assign (.Name nm p1) X.env)) (pos := p2) (pos' := firstIterPos [⟨tg, iter, ifs, 0⟩] p2) hc hN I hi ok hg ht hk hv fo hD ?_
  · exact wpAny_bind (thn core fun _ s9 z => wpAny_pure (wpAny_pure z))
  · intro L b s9 m H9 I9 q hn fr
    show wpAny _ _ (assign (.Name nm p1) X.env (.ref L)) _ _ _
    obtain ⟨r0, r1, r2, r3, r4, r5⟩ := fr
    refine wpAny_assign_Name (store_ok2 (v := V.ref L) I9 hN h1 (.inl h2) rfl (fun s8 I8 ⟨a, sb, ha⟩ => ⟨m, hn.sameBut sb ?_, fun h7 sb7 => ?_⟩) (.inr h2))
    · rcases ha with z | z
      · rw [z]
        exact r1
      · exact fun e => r4 nm a z e.symm
    · exact ⟨_, H9, I8.turned (t' := s8.toks) (fun x o hx e => (sb7.2 x hx).trans e) r0 r1 r3 r4 r5, q⟩
theorem sw_dict {kx vx : Expr} {gs : List Comprehension} {sco : Scope} {p1 p2 : Pos} {nm : Str} {l : Nat} {env : Env} (k1 : env.scope.kind = .function) (k2 : env.scope.names.lookup nm = some .local) (k3 : (p1.line == p2.line) = true)
    (k4 : (sco.names.any fun (n, k) => n == nm && (k == .local || k == .cell)) = false) : swapsWith (.DictComp kx vx gs sco p2) (some (.Name nm p1)) l env = pure true := by
  have z1 : env.blockKind = .function := by
    unfold Env.blockKind
    rw [k1]
    rfl
  have z2 : env.kindOf nm = some .local := k2
  unfold swapsWith
  simp only [z1, z2, k4, Expr.pos, k3]
  rfl
theorem PeAt.xnew {c : Ct} {H H' : Hp} {p h C dx : Addr} {us : List (List Nat)} (x : PeAt c H p us) (s : SameX h H H') (e : H h = some (.ins C dx [])) : PeAt c H' p us := by
  obtain ⟨d1, m, g, kvs, e1, e2, e3, e4⟩ := x
  have n1 : p ≠ h := by
    rintro rfl
    rw [e] at e1
    cases e1
  refine ⟨d1, m, g, kvs, s _ _ n1 e1, s _ _ (ne_of e2 e fun z => nomatch z) e2, e3, fun q hq => (e4 q hq).imp fun t ⟨gs, a, b, d⟩ => ⟨gs, a, s _ _ (ne_of b e fun z => nomatch z) b, d⟩⟩
def L0 (a0 a1 : Addr) : Tr := [([], 0, a0), ([tmp], 1, a1)]
theorem lo0 (a0 a1 : Addr) : LOk (L0 a0 a1) 2 1 where
  dl := by decide
  nd := by
    show ([[], [tmp]] : List Pa).Nodup
    decide
  ok := by
    intro q hq
    rcases List.mem_cons.mp hq with rfl | hq
    · exact ⟨Nat.zero_le _, fun _ h => nomatch h⟩
    · cases List.mem_singleton.mp hq
      exact ⟨Nat.le_refl _, fun n hn => by rw [List.mem_singleton.mp hn]; exact tmp_ok⟩
  num := by
    intro q hq
    rcases List.mem_cons.mp hq with rfl | hq
    · exact ⟨show (0 : Int) ≤ 0 by decide, show (0 : Int) < 2 by decide⟩
    · cases List.mem_singleton.mp hq
      exact ⟨show (0 : Int) ≤ 1 by decide, show (1 : Int) < 2 by decide⟩
  nn := by
    show ([0, 1] : List Int).Nodup
    decide
  clo := by
    intro p n h
    have h : p ++ [n] ∈ ([[], [tmp]] : List Pa) := h
    rcases List.mem_cons.mp h with h | h
    · exact absurd h (by simp)
    · have e : p ++ [n] = [] ++ [tmp] := List.mem_singleton.mp h
      have e2 := (List.append_inj' e rfl).1
      subst e2
      exact ⟨List.mem_cons_self, rfl⟩
  g0 := ⟨a0, List.mem_cons_self⟩
  g1 := ⟨a1, List.mem_cons_of_mem _ List.mem_cons_self⟩
  len := by simp [L0]
abbrev N_H_init : List Str := ["self", "people", "ground", "common", "umasks", "user"]
def spHInit (c : Ct) : Sp := fun vs H Q _ => ∃ h p us dx, vs = [.ref h, .ref p] ∧ H h = some (.ins c.cH dx []) ∧ PeAt c H p us ∧ UsOk us ∧ ∀ H' j st a0 a1, SameX h H H' → HSt c H' h p j us st (L0 a0 a1) 2 1 → Q .non H'
def usK (us : List (List Nat)) : List (Key × V) := us.map fun u => ((Sum.inr (S u) : Key), V.str "022")
theorem usK_none {us : List (List Nat)} {u : List Nat} (h : u ∉ us) : valV (usK us) (Sum.inr (S u)) = none := by
  induction us with
  | nil => rfl
  | cons x us ih =>
    have ne : ¬ (Sum.inr (S x) : Key) = Sum.inr (S u) := fun z => h (S_inj (Sum.inr.inj z) ▸ List.mem_cons_self)
    show valV ((Sum.inr (S x), V.str "022") :: usK us) _ = _
    rw [valV_neg ne]
    exact ih fun z => h (List.mem_cons_of_mem _ z)
theorem mk_H {c : Ct} (T : TxH c) : HasMk c c.cH 10 (spHInit c) := by
  obtain ⟨f, fd, M, F⟩ := T.mkH
  obtain ⟨fJ, MJ, GJ⟩ := mk_J T.toTxP
  obtain ⟨fW, mW, kW, GW⟩ := ok_new T.toTxN
  obtain ⟨mcP, pP, fP, CRP, CMP, GP⟩ := ok_plain T.toTxL
  obtain ⟨mcE, pE, fE, CRE, SME, GE⟩ := ok_every T.toTxL
  obtain ⟨fF, MF, GF⟩ := ok_with T.toTxN
  obtain ⟨fU, MU, GU⟩ := ok_Pusers T.toTxP
  obtain ⟨tU, eU⟩ := T.umask0
  have C := T.clH
  have CF := T.clN.cl
  have CU := T.clP.cl
  refine ⟨f, M, rawN (ps := ["self", "people"]) F (okD F sc_H_init ?_ ?_) (fun _ _ _ _ _ _ us hl => match us, hl with | [_, _], _ => rfl)⟩
  · rintro vs H Q E ⟨_, _, _, _, rfl, _⟩
    rfl
  · rintro cdv A outer s H vs Q E hr ⟨h, p, us, dx, rfl, eh, hp, hus, K⟩
    refine ⟨_, pss_cons (ps_if (pt_not (pt_val (pe_callB call_isi rfl T.isin boot_isinstance (pa_cons (pv 1) (pa_cons ((pe_glob (v := .ref c.cP) rfl T.clP.mg rfl)) pa_nil))))) pss_never pss_nil) (pss_cut (ps_fld (pv 0) (pv 1) rfl) (pss_cut (ps_fld (pv 0) (pe_makeR MJ GJ (hr.mono (by decide)) rfl T.clJ.mg pass0 (pa_cons (pv 1) pa_nil)) rfl) (
      pss_cut (ps_set (i := 2) sc_H_init.nd rfl (Or.inl rfl) (pe_cR GW hr (by decide) kW rfl mW (pa_cons (pe_int) (pa_cons (pe_str) (pa_cons (pe_str) (pa_cons (pe_str) (pa_cons (pe_cmR CRP CMP GP hr (by decide) (pe_glob (v := .ref c.cA) rfl T.clA.mg rfl) (pa_cons (pe_str) pa_nil)) pa_nil))))))) (
      pss_cut (ps_set (i := 3) sc_H_init.nd rfl (Or.inl rfl) (pe_mR CF MF GF hr (by decide) (pe_cR GW hr (by decide) kW rfl mW (pa_cons (pe_int) (pa_cons (pe_str) (pa_cons (pe_str) (pa_cons (pe_str) (pa_cons (pe_sm0 CRE SME GE hr (by decide) (pe_glob (v := .ref c.cA) rfl T.clA.mg rfl)) pa_nil)))))) (pa_cons (pe_str) (pa_cons (pe_bl) pa_nil)))) (
      pss_cut (ps_setDc (i := 4) (own := [("user", 5)]) (g := gName 5) (tt := tYes) rfl sc_H_init.nd rfl rfl (sw_dict rfl rfl rfl (by decide +kernel)) (pi_list (pe_m0R CU MU GU hr (by decide) (pv 1))) (blkOk_by (N := N_H_init) (sc := defScope s_H_init) (by decide +kernel)) (fun _ _ _ _ _ => pg_name (i := 5) sc_H_init.nd rfl (Or.inl rfl)) (fun _ _ _ _ _ => pts_nil) (fun _ _ _ _ _ => pv 5) (fun _ _ _ _ _ => (pe_glob (v := .str "022") rfl eU ⟨_, rfl⟩))) (
      pss_one (ps_fld (pv 0) (pe_tup (pa_cons (pe_disp (pps_cons (pe_str) (pv 2) (pps_cons (pe_str) (pv 3) pps_nil)) (by rfl) (by rfl) (fun z => by cases z) (by decide)) (pa_cons (pv 4) (pa_cons (pe_int) pa_nil)))) rfl))))))), ?_⟩
    have hp' := hp
    obtain ⟨dp, mp, gp, kvs, ep, _⟩ := hp'
    refine ⟨_, rfl, _, _, _, _, true, rfl, .own _, tyOf T.clP ep, kit_same, true, rfl, iteN rfl ?_⟩
    -- own_people
    refine ⟨fun σ H' => σ = [some (.ref h), some (.ref p), none, none, none, none] ∧ SameX h H H' ∧ H' h = some (.ins c.cH dx [("own_people", .ref p)]), ?_, ?_⟩
    · exact ⟨_, rfl, _, rfl, h, c.cH, dx, [], rfl, eh, C.cl, C.nf _ (by decide), by simp, rfl, sameX_upd, upd_same⟩
    rintro _ H1 ⟨rfl, s1, e1⟩
    -- own_judge
    refine ⟨fun σ H' => σ = [some (.ref h), some (.ref p), none, none, none, none] ∧ SameX h H H' ∧ ∃ j, H' h = some (.ins c.cH dx [("own_people", .ref p), ("own_judge", .ref j)]) ∧ JuAt c H' j p, ?_, ?_⟩
    · refine ⟨_, rfl, fun x dj nx nd ne => ?_⟩
      have sN : Same H1 (upd (upd H1 dj (.own x)) x (.ins c.cJ dj [])) := same_new (same_upd nd) nx
      refine ⟨x, p, us, dj, rfl, upd_same, (hp.xnew s1 eh).same sN, fun H2 s2 ju => ⟨rfl, ?_⟩⟩
      have s12 : Same H1 H2 := s2.made nx nd
      have nxh : x ≠ h := (ne_of_none e1 nx).symm
      refine ⟨_, rfl, h, c.cH, dx, _, rfl, s12 _ _ e1, C.cl, C.nf _ (by decide), by simp, rfl, (s1.step s12).put, x, upd_same, ?_⟩
      exact ju.imp fun _ e => by rw [upd_ne nxh]; exact e
    rintro _ H2 ⟨rfl, s2, j, e2, ju⟩
    have hp2 := hp.xnew s2 eh
    -- ground
    refine ⟨fun σ H' => ∃ a0 acc, σ = [some (.ref h), some (.ref p), some (.ref a0), none, none, none] ∧ Same H2 H' ∧ NdAt c H' a0 0 false "root" "root" acc ∧ AlAt c H' acc 5 5 5, ?_, ?_⟩
    · refine ⟨rfl, 5, 5, 5, rfl, by decide, by decide, by decide, fun H3 acc s3 n3 al => ?_⟩
      exact ⟨0, false, _, _, acc, rfl, fun H4 a0 s4 n4 nd => ⟨a0, acc, rfl, s3.trans s4, nd, al.same s4⟩⟩
    rintro _ H3 ⟨a0, acc0, rfl, s3, nd0, al0⟩
    -- common
    refine ⟨fun σ H' => ∃ a1 acc, σ = [some (.ref h), some (.ref p), some (.ref a0), some (.ref a1), none, none] ∧ Same H3 H' ∧ NdAt c H' a1 1 false "root" "root" acc ∧ AlAt c H' acc 7 7 7, ?_, ?_⟩
    · refine ⟨rfl, rfl, fun H4 acc s4 n4 al => ?_⟩
      refine ⟨1, false, _, _, acc, rfl, fun H5 x s5 n5 ⟨dn, d, b, en, ed⟩ => ?_⟩
      refine ⟨x, dn, _, rfl, en, rfl, x, "sticky", .bl true, dn, 1, d, _, rfl, en, ed, by exact (by decide : (8 : Nat) ≤ 15), fun H6 y dy d' s6 n6 f1 f2 => ?_⟩
      rw [merge_sticky] at f2
      exact ⟨y, acc, rfl, s4.trans (s5.trans s6), ⟨dy, d', true, f1, f2⟩, (al.same s5).same s6⟩
    rintro _ H4 ⟨a1, acc1, rfl, s4, nd1, al1⟩
    -- umasks
    refine ⟨fun σ H' => ∃ um, σ = [some (.ref h), some (.ref p), some (.ref a0), some (.ref a1), some (.ref um), none] ∧ Same H4 H' ∧ H' um = some (.dK (usK us)), ?_, ?_⟩
    · have hp4 := hp2.same (s3.trans s4)
      have hp4' := hp4
      obtain ⟨d4, m4, g4, kv4, ep4, _⟩ := hp4
      refine ⟨_, rfl, p, d4, _, rfl, ep4, rfl, p, us, rfl, hp4', fun H5 l s5 n5 e5 => ⟨l, rfl, ⟨_, SqL.of e5⟩, fun D nD => ?_⟩⟩
      refine dc_walk (walk_list (xs := usV us)) (fun i H6 => Same H5 H6 ∧ H6 D = some (.dK (usK (us.take i)))) ⟨same_upd nD, upd_same⟩ (fun i H6 _ q => SqL.of (q.1 _ _ e5)) ?_ ?_
      · rintro i x H6 H7 hi ⟨sm, eD⟩ ⟨rfl, ex⟩
        obtain ⟨u, eu, rfl⟩ := psV_get (p := us) ex
        have hlen : i < us.length := (List.getElem?_eq_some_iff.mp eu).1
        have hnot : u ∉ us.take i := fun z => by
          obtain ⟨k, hk, e⟩ := List.mem_iff_getElem.mp z
          rw [List.length_take] at hk
          rw [List.getElem_take] at e
          have e2 := (List.getElem?_eq_some_iff.mp eu).2
          have := (List.getElem_inj hus.2.1).mp (e.trans e2.symm)
          omega
        refine ⟨rfl, _, rfl, _, Sum.inr (S u), rfl, eD, ?_, same_new sm nD, ?_⟩
        · unfold usK
          rw [List.length_map, List.length_take]
          have := hus.1
          exact smT (by omega)
        · rw [upd_same, putK_new _ (usK_none hnot), List.take_add_one, eu]
          simp [usK]
      · rintro H6 ⟨sm, eD⟩
        have hl : (usV us).length = us.length := by simp [usV]
        rw [hl, List.take_length] at eD
        exact ⟨D, rfl, s5.trans sm, eD⟩
    rintro _ H5 ⟨um, rfl, s5, eu⟩
    -- state
    intro d nd
    refine ⟨_, rfl, _, rfl, upd_same, [(Sum.inr (pS []), .ref a0), (Sum.inr (pS [tmp]), .ref a1)], rfl, by simp, ?_⟩
    rw [show mergeK [] [((Sum.inr (pS []) : Key), V.ref a0), (Sum.inr (pS [tmp]), V.ref a1)] = nodesK (L0 a0 a1) from by kernel_rfl]
    refine ⟨_, rfl, smL (by simp), fun t nt => ?_⟩
    have sG : Same H5 (upd (upd (upd H5 d (.dK [])) d (.dK (nodesK (L0 a0 a1)))) t (.tup [.ref d, .ref um, .int 2])) := same_new (same_new (same_upd nd) nd) (nn (nn nt))
    have s25 : Same H2 H5 := s3.trans (s4.trans s5)
    have eG := sG _ _ (s25 _ _ e2)
    refine ⟨_, rfl, h, c.cH, dx, _, rfl, eG, C.cl, C.nf _ (by decide), by simp, ?_⟩
    have kp : Keep H5 (upd (upd (upd (upd H5 d (.dK [])) d (.dK (nodesK (L0 a0 a1)))) t (.tup [.ref d, .ref um, .int 2])) h (.ins c.cH dx [("own_people", .ref p), ("own_judge", .ref j), ("state", .ref t)])) := (Keep.of sG).trans (.x sameX_upd eG rfl)
    have htd : d ≠ t := ne_of_none upd_same nt
    have hd : (upd (upd (upd H5 d (.dK [])) d (.dK (nodesK (L0 a0 a1)))) t (.tup [.ref d, .ref um, .int 2])) d = some (.dK (nodesK (L0 a0 a1))) := by
      rw [upd_ne htd]
      exact upd_same
    have n0 := (nd0.same (s4.trans s5)).keep kp
    have n1 := (nd1.same s5).keep kp
    have l0 := (al0.same (s4.trans s5)).keep kp
    have l1 := (al1.same s5).keep kp
    refine K _ j t a0 a1 ((s2.step s25).step sG).put ⟨⟨dx, upd_same⟩, (hp2.same s25).keep kp, (ju.keep (.of s25)).keep kp, ⟨d, um, ?_, ?_, kp _ _ id eu, ?_, ?_, ?_⟩, lo0 a0 a1, hus⟩
    · rw [upd_ne (ne_of upd_same eG fun z => nomatch z)]
      exact upd_same
    · rw [upd_ne (ne_of hd eG fun z => nomatch z)]
      exact hd
    · intro q hq
      rcases List.mem_cons.mp hq with rfl | hq
      · exact ⟨_, _, acc0, n0⟩
      · cases List.mem_singleton.mp hq
        exact ⟨_, _, acc1, n1⟩
    · intro a hq
      rcases List.mem_cons.mp hq with e | hq
      · cases e
        exact ⟨acc0, n0, l0⟩
      · cases List.mem_singleton.mp hq
    · intro a hq
      rcases List.mem_cons.mp hq with e | hq
      · cases e
      · cases List.mem_singleton.mp hq
        exact ⟨acc1, n1, l1⟩
/-- a copy: its state is the one of the house -/
def spHCopy (c : Ct) : Sp := spH c fun h p j us st L k D rest H Q => rest = [] ∧ ∀ H' x j', Same H H' → H x = none → HSt c H' x p j' us st L k D → Q (.ref x) H'
theorem ok_Hcopy {c : Ct} (T : TxH c) : HasM c c.cH "copied" 12 (spHCopy c) := by
  obtain ⟨f, fd, M, F⟩ := T.Hcopied
  obtain ⟨fI, MI, GI⟩ := mk_H T
  have C := T.clH
  refine ⟨f, M, rawN (ps := ["self"]) F (okD F sc_H_copied ?_ ?_) (fun _ _ _ _ _ _ us hl => match us, hl with | [_], _ => rfl)⟩
  · rintro vs H Q E ⟨_, _, _, _, _, _, _, _, _, rfl, _, rfl, _⟩
    rfl
  · rintro cdv A outer s H vs Q E hr ⟨h, p, j, us, st, L, k, D, _, rfl, X, rfl, K⟩
    refine ⟨_, pss_cons (ps_set (i := 1) sc_H_copied.nd rfl (Or.inl rfl) (pe_makeR MI GI hr rfl C.mg pass0 (pa_cons (pe_fld (pv 0) rfl) pa_nil))) (pss_cons (ps_fld (pv 1) (pe_fld (pv 0) rfl) rfl) (pss_one (ps_ret (pv 1)))), ?_⟩
    obtain ⟨dx, eh⟩ := X.ho
    refine ⟨_, rfl, h, c.cH, dx, _, _, rfl, eh, C.cl, C.nf _ (by decide), rfl, fun x dn nx nd ne => ?_⟩
    have sN : Same H (upd (upd H dn (.own x)) x (.ins c.cH dn [])) := same_new (same_upd nd) nx
    refine ⟨x, p, us, dn, rfl, upd_same, X.pe.same sN, X.us, fun H1 j' st' a0 a1 s1 Y => ⟨rfl, ?_⟩⟩
    have s01 : Same H H1 := s1.made nx nd
    obtain ⟨dy, ey⟩ := Y.ho
    refine ⟨_, rfl, h, c.cH, dx, _, _, rfl, s01 _ _ eh, C.cl, C.nf _ (by decide), rfl, _, rfl, x, c.cH, dy, _, rfl, ey, C.cl, C.nf _ (by decide), by simp, ?_⟩
    have kp : Keep H1 (upd H1 x (.ins c.cH dy [("own_people", .ref p), ("own_judge", .ref j'), ("state", .ref st)])) := .x sameX_upd ey rfl
    exact ⟨_, rfl, K _ x j' (same_new s01 nx) nx ⟨⟨dy, upd_same⟩, Y.pe.keep kp, Y.ju.keep kp, (X.sa.keep (.of s01)).keep kp, X.lo, X.us⟩⟩
end K37
end
section
set_option Elab.async false
set_option linter.all false
set_option maxRecDepth 100000
set_option maxHeartbeats 4000000
/-! K4: trees: added to, cut, moved. -/
namespace K37
open PySem PySem.Spec PyProof.Rows L2 StX ClX SX
theorem below_self (p : Pa) : below p p = false := by
  unfold below
  rw [decide_eq_false (by omega)]
  rfl
theorem below_app {p r : Pa} (h : r ≠ []) : below (p ++ r) p = true := below_iff.mpr ⟨r, h, rfl⟩
theorem LOk.up {L : Tr} {k : Int} {D : Nat} (lo : LOk L k D) {p : Pa} : ∀ (m : Nat) {r : Pa}, r.length = m → p ++ r ∈ L.map (·.1) → p ∈ L.map (·.1)
  | 0, r, e, h => by
    rw [List.length_eq_zero_iff.mp e, List.append_nil] at h
    exact h
  | m + 1, r, e, h => by
    have hne : r ≠ [] := fun z => by rw [z] at e; cases e
    rw [← List.dropLast_concat_getLast hne, ← List.append_assoc] at h
    exact lo.up m (by rw [List.length_dropLast, e]; rfl) (lo.clo _ _ h).1
theorem nodup_snoc {α : Type} {l : List α} {x : α} (h : l.Nodup) (n : x ∉ l) : (l ++ [x]).Nodup := by
  rw [List.nodup_append]
  refine ⟨h, by simp, fun a ha b hb => ?_⟩
  rw [List.mem_singleton.mp hb]
  exact fun e => n (e ▸ ha)
/-- one more -/
theorem LOk.add {L : Tr} {k : Int} {D : Nat} (lo : LOk L k D) {q : Pa} {n : List Nat} (a : Addr) (hD : D + 1 ≤ 98) (hn : okN n) (hq : q ∈ L.map (·.1)) (hf : isF q = false) (hnew : q ++ [n] ∉ L.map (·.1)) (hl : L.length ≤ 13) : LOk (L ++ [(q ++ [n], k, a)]) (k + 1) (D + 1) where
  dl := hD
  nd := by
    rw [List.map_append]
    exact nodup_snoc lo.nd hnew
  ok := by
    intro x hx
    rcases List.mem_append.mp hx with hx | hx
    · exact ⟨Nat.le_succ_of_le (lo.ok x hx).1, (lo.ok x hx).2⟩
    · cases List.mem_singleton.mp hx
      obtain ⟨y, hy, rfl⟩ := List.mem_map.mp hq
      refine ⟨by rw [List.length_append]; exact Nat.succ_le_succ (lo.ok y hy).1, fun z hz => ?_⟩
      rcases List.mem_append.mp hz with hz | hz
      · exact (lo.ok y hy).2 z hz
      · rw [List.mem_singleton.mp hz]
        exact hn
  num := by
    intro x hx
    rcases List.mem_append.mp hx with hx | hx
    · exact ⟨(lo.num x hx).1, by have := (lo.num x hx).2; omega⟩
    · cases List.mem_singleton.mp hx
      obtain ⟨a0, m0⟩ := lo.g0
      have h := (lo.num _ m0).2
      have h : (0 : Int) < k := h
      exact ⟨show 0 ≤ k by omega, show k < k + 1 by omega⟩
  nn := by
    rw [List.map_append]
    refine nodup_snoc lo.nn fun h => ?_
    obtain ⟨x, hx, e⟩ := List.mem_map.mp h
    have := (lo.num x hx).2
    have e : x.2.1 = k := e
    omega
  clo := by
    intro p m h
    rw [List.map_append] at h ⊢
    rcases List.mem_append.mp h with h | h
    · exact ⟨List.mem_append_left _ (lo.clo p m h).1, (lo.clo p m h).2⟩
    · have e : p ++ [m] = q ++ [n] := List.mem_singleton.mp h
      have e2 := (List.append_inj' e rfl).1
      subst e2
      exact ⟨List.mem_append_left _ hq, hf⟩
  g0 := lo.g0.imp fun _ h => List.mem_append_left _ h
  g1 := lo.g1.imp fun _ h => List.mem_append_left _ h
  len := by
    rw [List.length_append, List.length_singleton]
    omega
/-- stays when q is cut -/
def stays (q x : Pa) : Bool := !decide (x = q) && !below x q
theorem LOk.cut {L : Tr} {k : Int} {D : Nat} (lo : LOk L k D) {q : Pa} (h0 : q ≠ []) (h1 : q ≠ [tmp]) : LOk (L.filter fun x => stays q x.1) k D where
  dl := lo.dl
  nd := lo.nd.sublist (List.filter_sublist.map _)
  ok := fun x hx => lo.ok x ((List.mem_filter.mp hx).1)
  num := fun x hx => lo.num x ((List.mem_filter.mp hx).1)
  nn := lo.nn.sublist (List.filter_sublist.map _)
  clo := by
    intro p n h
    obtain ⟨x, hx, e⟩ := List.mem_map.mp h
    obtain ⟨hx1, hx2⟩ := List.mem_filter.mp hx
    obtain ⟨c1, c2⟩ := lo.clo p n (List.mem_map.mpr ⟨x, hx1, e⟩)
    refine ⟨?_, c2⟩
    obtain ⟨y, hy, ey⟩ := List.mem_map.mp c1
    refine List.mem_map.mpr ⟨y, List.mem_filter.mpr ⟨hy, ?_⟩, ey⟩
    have hx3 : stays q (p ++ [n]) = true := by
      have e : x.1 = p ++ [n] := e
      rw [← e]
      exact hx2
    have ey : y.1 = p := ey
    show stays q y.1 = true
    rw [ey]
    unfold stays at hx3 ⊢
    rw [Bool.and_eq_true, Bool.not_eq_true', Bool.not_eq_true'] at hx3 ⊢
    obtain ⟨b1, b2⟩ := hx3
    constructor
    · refine decide_eq_false fun z => ?_
      subst z
      rw [below_app (by simp)] at b2
      cases b2
    · cases hb : below p q with
      | false => rfl
      | true =>
        obtain ⟨r, hr, rfl⟩ := below_iff.mp hb
        rw [List.append_assoc, below_app (by simp)] at b2
        cases b2
  g0 := by
    obtain ⟨a, m⟩ := lo.g0
    refine ⟨a, List.mem_filter.mpr ⟨m, ?_⟩⟩
    unfold stays
    rw [Bool.and_eq_true, Bool.not_eq_true', Bool.not_eq_true']
    refine ⟨decide_eq_false fun z => h0 z.symm, ?_⟩
    cases hb : below [] q with
    | false => rfl
    | true =>
      obtain ⟨r, hr, e⟩ := below_iff.mp hb
      exact absurd (List.append_eq_nil_iff.mp e.symm).1 h0
  g1 := by
    obtain ⟨a, m⟩ := lo.g1
    refine ⟨a, List.mem_filter.mpr ⟨m, ?_⟩⟩
    unfold stays
    rw [Bool.and_eq_true, Bool.not_eq_true', Bool.not_eq_true']
    refine ⟨decide_eq_false fun z => h1 z.symm, ?_⟩
    cases hb : below [tmp] q with
    | false => rfl
    | true =>
      obtain ⟨r, hr, e⟩ := below_iff.mp hb
      obtain ⟨y, q', rfl⟩ := List.exists_cons_of_ne_nil h0
      have e2 : q' ++ r = [] := by
        injection e with _ e
        exact e.symm
      exact absurd (List.append_eq_nil_iff.mp e2).2 hr
  len := Nat.le_trans (List.length_filter_le _ _) lo.len
/-! ### moved -/
def goes (q x : Pa) : Bool := decide (x = q) || below x q
def mvP (q t x : Pa) : Pa := if goes q x = true then t ++ x.drop q.length else x
theorem goes_iff {q x : Pa} : goes q x = true ↔ ∃ r, x = q ++ r := by
  unfold goes
  rw [Bool.or_eq_true, decide_eq_true_iff, below_iff]
  constructor
  · rintro (rfl | ⟨r, _, rfl⟩)
    · exact ⟨[], by simp⟩
    · exact ⟨r, rfl⟩
  · rintro ⟨r, rfl⟩
    cases r with
    | nil => exact .inl (by simp)
    | cons y r => exact .inr ⟨y :: r, by simp, rfl⟩
theorem mvP_app (q t r : Pa) : mvP q t (q ++ r) = t ++ r := by
  unfold mvP
  rw [if_pos (goes_iff.mpr ⟨r, rfl⟩), List.drop_left]
theorem mvP_not {q t x : Pa} (h : goes q x = false) : mvP q t x = x := by
  unfold mvP
  rw [if_neg (by rw [h]; decide)]
theorem isF_app {t r : Pa} (h : r ≠ []) (ok : ∀ n ∈ r, okN n) : isF (t ++ r) = isF r := by
  unfold isF
  rw [← List.dropLast_concat_getLast h, ← List.append_assoc, ptl_last (ok _ (List.getLast_mem h)).ne, ptl_last (ok _ (List.getLast_mem h)).ne]
theorem isF_mv {q t x : Pa} (h : isF t = isF q) (ok : ∀ n ∈ x, okN n) : isF (mvP q t x) = isF x := by
  cases g : goes q x with
  | false => rw [mvP_not g]
  | true =>
    obtain ⟨r, rfl⟩ := goes_iff.mp g
    rw [mvP_app]
    by_cases hr : r = []
    · subst hr
      rw [List.append_nil, List.append_nil, h]
    · have ok' : ∀ n ∈ r, okN n := fun n hn => ok n (List.mem_append_right _ hn)
      rw [isF_app hr ok', isF_app hr ok']
/-- what a move asks -/
structure MvOk (L : Tr) (D : Nat) (q t o : Pa) (n : List Nat) : Prop where
  e : t = o ++ [n]
  hn : okN n
  tl : t.length ≤ 2
  qm : q ∈ L.map (·.1)
  q0 : q ≠ []
  q1 : q ≠ [tmp]
  tn : t ∉ L.map (·.1)
  om : o ∈ L.map (·.1)
  of : isF o = false
  nb : below t q = false
  ff : isF t = isF q
  dl : D + 1 ≤ 98
theorem mv_inj {L : Tr} {k : Int} {D : Nat} (lo : LOk L k D) {q t o : Pa} {n : List Nat} (M : MvOk L D q t o n) {x y : Pa} (hx : x ∈ L.map (·.1)) (hy : y ∈ L.map (·.1)) (e : mvP q t x = mvP q t y) : x = y := by
  cases gx : goes q x with
  | true =>
    obtain ⟨r, rfl⟩ := goes_iff.mp gx
    rw [mvP_app] at e
    cases gy : goes q y with
    | true =>
      obtain ⟨r', rfl⟩ := goes_iff.mp gy
      rw [mvP_app] at e
      rw [List.append_cancel_left e]
    | false =>
      rw [mvP_not gy] at e
      exact absurd (lo.up r.length rfl (e ▸ hy)) M.tn
  | false =>
    rw [mvP_not gx] at e
    cases gy : goes q y with
    | true =>
      obtain ⟨r', rfl⟩ := goes_iff.mp gy
      rw [mvP_app] at e
      exact absurd (lo.up r'.length rfl (e.symm ▸ hx)) M.tn
    | false =>
      rw [mvP_not gy] at e
      exact e
def mvL (q t : Pa) (L : Tr) : Tr := L.map fun x => (mvP q t x.1, x.2)
theorem mvL_keys (q t : Pa) (L : Tr) : (mvL q t L).map (·.1) = (L.map (·.1)).map (mvP q t) := by
  unfold mvL
  rw [List.map_map, List.map_map]
  rfl
theorem nodup_map_on {α β : Type} {f : α → β} : ∀ {l : List α}, l.Nodup → (∀ x ∈ l, ∀ y ∈ l, f x = f y → x = y) → (l.map f).Nodup
  | [], _, _ => List.nodup_nil
  | x :: l, h, inj => by
    obtain ⟨h1, h2⟩ := List.nodup_cons.mp h
    rw [List.map_cons, List.nodup_cons]
    refine ⟨fun m => ?_, nodup_map_on h2 fun a ha b hb => inj a (List.mem_cons_of_mem _ ha) b (List.mem_cons_of_mem _ hb)⟩
    obtain ⟨y, hy, e⟩ := List.mem_map.mp m
    have := inj y (List.mem_cons_of_mem _ hy) x List.mem_cons_self e
    exact h1 (this ▸ hy)
theorem goes_nil {q : Pa} (h : q ≠ []) : goes q [] = false := by
  cases g : goes q [] with
  | false => rfl
  | true =>
    obtain ⟨r, e⟩ := goes_iff.mp g
    exact absurd (List.append_eq_nil_iff.mp e.symm).1 h
theorem goes_one {q : Pa} {y : List Nat} (h : q ≠ []) (h1 : q ≠ [y]) : goes q [y] = false := by
  cases g : goes q [y] with
  | false => rfl
  | true =>
    obtain ⟨r, e⟩ := goes_iff.mp g
    obtain ⟨z, q', rfl⟩ := List.exists_cons_of_ne_nil h
    injection e with e1 e2
    obtain ⟨e3, e4⟩ := List.append_eq_nil_iff.mp e2.symm
    rw [e3, ← e1] at h1
    exact absurd rfl h1
theorem LOk.mv {L : Tr} {k : Int} {D : Nat} (lo : LOk L k D) {q t o : Pa} {n : List Nat} (M : MvOk L D q t o n) : LOk (mvL q t L) k (D + 1) where
  dl := M.dl
  nd := by
    rw [mvL_keys]
    exact nodup_map_on lo.nd fun x hx y hy e => mv_inj lo M hx hy e
  ok := by
    intro x hx
    obtain ⟨y, hy, rfl⟩ := List.mem_map.mp hx
    obtain ⟨h1, h2⟩ := lo.ok y hy
    show (mvP q t y.1).length ≤ D + 1 ∧ ∀ m ∈ mvP q t y.1, okN m
    cases g : goes q y.1 with
    | false =>
      rw [mvP_not g]
      exact ⟨by omega, h2⟩
    | true =>
      obtain ⟨r, e⟩ := goes_iff.mp g
      rw [e] at h1 h2 ⊢
      rw [mvP_app]
      have hq : 1 ≤ q.length := List.length_pos_iff.mpr M.q0
      have ht := M.tl
      rw [List.length_append] at h1
      refine ⟨by rw [List.length_append]; omega, fun m hm => ?_⟩
      rcases List.mem_append.mp hm with hm | hm
      · rw [M.e] at hm
        rcases List.mem_append.mp hm with hm | hm
        · obtain ⟨z, hz, e2⟩ := List.mem_map.mp M.om
          exact (lo.ok z hz).2 m (by have e2 : z.1 = o := e2; rw [e2]; exact hm)
        · rw [List.mem_singleton.mp hm]
          exact M.hn
      · exact h2 m (List.mem_append_right _ hm)
  num := by
    intro x hx
    obtain ⟨y, hy, rfl⟩ := List.mem_map.mp hx
    exact lo.num y hy
  nn := by
    have e : (mvL q t L).map (·.2.1) = L.map (·.2.1) := by
      unfold mvL
      rw [List.map_map]
      rfl
    rw [e]
    exact lo.nn
  clo := by
    intro p m h
    rw [mvL_keys] at h ⊢
    obtain ⟨x, hx, e⟩ := List.mem_map.mp h
    cases g : goes q x with
    | false =>
      rw [mvP_not g] at e
      subst e
      obtain ⟨c1, c2⟩ := lo.clo p m hx
      refine ⟨List.mem_map.mpr ⟨p, c1, mvP_not ?_⟩, c2⟩
      cases gp : goes q p with
      | false => rfl
      | true =>
        obtain ⟨r, rfl⟩ := goes_iff.mp gp
        rw [goes_iff.mpr ⟨r ++ [m], by rw [List.append_assoc]⟩] at g
        cases g
    | true =>
      obtain ⟨r, rfl⟩ := goes_iff.mp g
      rw [mvP_app] at e
      by_cases hr : r = []
      · subst hr
        rw [List.append_nil, M.e] at e
        have e2 := (List.append_inj' e rfl).1
        subst e2
        refine ⟨List.mem_map.mpr ⟨o, M.om, mvP_not ?_⟩, M.of⟩
        cases go : goes q o with
        | false => rfl
        | true =>
          obtain ⟨r, rfl⟩ := goes_iff.mp go
          have := M.nb
          rw [M.e, List.append_assoc, below_app (by simp)] at this
          cases this
      · rw [← List.dropLast_concat_getLast hr, ← List.append_assoc] at e hx
        have e2 := (List.append_inj' e rfl).1
        obtain ⟨c1, c2⟩ := lo.clo _ _ hx
        have e3 : mvP q t (q ++ r.dropLast) = p := by rw [mvP_app, e2]
        refine ⟨List.mem_map.mpr ⟨_, c1, e3⟩, ?_⟩
        obtain ⟨z, hz, ez⟩ := List.mem_map.mp c1
        have ez : z.1 = q ++ r.dropLast := ez
        rw [← e3, isF_mv M.ff (by rw [← ez]; exact (lo.ok z hz).2), c2]
  g0 := by
    obtain ⟨a, m⟩ := lo.g0
    refine ⟨a, List.mem_map.mpr ⟨_, m, ?_⟩⟩
    show (mvP q t [], 0, a) = _
    rw [mvP_not (goes_nil M.q0)]
  g1 := by
    obtain ⟨a, m⟩ := lo.g1
    refine ⟨a, List.mem_map.mpr ⟨_, m, ?_⟩⟩
    show (mvP q t [tmp], 1, a) = _
    rw [mvP_not (goes_one M.q0 M.q1)]
  len := by
    unfold mvL
    rw [List.length_map]
    exact lo.len
end K37
end
section
set_option Elab.async false
set_option linter.all false
set_option maxRecDepth 100000
set_option maxHeartbeats 4000000
/-! K3n: add, cut, shift, paths. -/
namespace K37
open PySem PySem.Spec PyProof.Rows L2 StX ClX SX
open C8 (sl_txt rSlX pss_cut tCut)
/-- house.add(path, kind) -/
def spHAddB (c : Ct) : Sp := fun vs H Q _ => ∃ h p j us st L k D q n, vs = [.ref h, .str (pS (q ++ [n])), .str (kT (isF (q ++ [n]))), .str "root", .str "root", .non, .str ""] ∧ HSt c H h p j us st L k D ∧
  okP (q ++ [n]) ∧ q ++ [n] ∉ L.map (·.1) ∧ q ∈ L.map (·.1) ∧ isF q = false ∧ ∀ H' st' a, SameX h H H' → HoAt c H' h p j st' → StAt c H' us st' (L ++ [(q ++ [n], k, a)]) (k + 1) → Q .non H'
def spHAdd (c : Ct) : Sp := spH c fun h p j us st L k D rest H Q => ∃ q n, rest = [.str (pS (q ++ [n])), .str (kT (isF (q ++ [n])))] ∧
  okP (q ++ [n]) ∧ q ++ [n] ∉ L.map (·.1) ∧ q ∈ L.map (·.1) ∧ isF q = false ∧ ∀ H' st' a, SameX h H H' → HoAt c H' h p j st' → StAt c H' us st' (L ++ [(q ++ [n], k, a)]) (k + 1) → Q .non H'
theorem plain_txt (f : Bool) : (if f then Str.ofString "644" else Str.ofString "755") = if f then oT 6 4 4 else oT 7 5 5 := by cases f <;> rfl
theorem ok_Hadd {c : Ct} (T : TxH c) : HasM c c.cH "add" 9 (spHAdd c) := by
  obtain ⟨f, fd, M, F⟩ := T.Hadd
  obtain ⟨fN, mN, kN, GN⟩ := ok_need_path_house T
  obtain ⟨fP, MP, GP⟩ := ok_Hplace T
  obtain ⟨fF, MF, GF⟩ := ok_Hfolk T
  obtain ⟨fU, MU, GU⟩ := ok_Hput T
  obtain ⟨mcA, pA, fA, CRA, CMA, GA⟩ := ok_plain T.toTxL
  obtain ⟨fW, fdW, gW, mW, kW, GW, bW⟩ := kb_new T.toTxN
  obtain ⟨dB, es, nB, eB, DB, fB⟩ := T.plainD
  have C := T.clH
  have CP := C.cl
  have CF := C.cl
  have CU := C.cl
  have G : FnOk c.P c.w c.K c.mg c.base CX0 9 f fd ["self", "path", "kind", "owner", "group", "access", "content"] (spHAddB c) := okD F sc_H_add ?_ ?_
  · obtain ⟨ds, hv, hb⟩ := F.binds0 (ps := ["self", "path", "kind", "owner", "group", "access", "content"]) 3 (by simp) rfl (fun D doc pm an cdv ct us ks h1 h2 => match us, ks, h1, h2 with | [_, _, _], [_, _, _, _], _, _ => ⟨_, _, _, _, _, _, rfl, rfl, _, _, _, _, _, _, rfl, rfl, _, _, _, _, _, _, rfl, rfl, _, _, _, _, _, _, rfl, rfl, rfl⟩)
    refine ⟨f, M, (G.raw hb hv).imp ?_⟩
    rintro vs H Q E ⟨h, p, j, us, st, L, k, D, _, rfl, X, q, n, rfl, z⟩
    exact ⟨h, p, j, us, st, L, k, D, q, n, rfl, X, z⟩
  · rintro vs H Q E ⟨_, _, _, _, _, _, _, _, _, _, rfl, _⟩
    rfl
  · rintro cdv A outer s H vs Q E hr ⟨h, p, j, us, st, L, k, D, q, n, rfl, X, hq, hn, hm, hf, K⟩
    refine ⟨_, pss_cons (ps_expr (pe_cR GN hr (by decide) kN rfl mN (pa_cons (pv 1) pa_nil))) (pss_cons (ps_expr (pe_mR CP MP GP hr (by decide) (pv 0) (pa_cons (pv 1) pa_nil))) (pss_cons (ps_if (PW.pt (pw_or (pt_not (pt_val (pe_callB call_isi rfl T.isin boot_isinstance (pa_cons (pv 2) (pa_cons (pe_bltn (v := .ty "str") rfl T.str boot_str rfl) pa_nil))))) (pw_or1 (pt_cmpR (op_notIn_kd DB) (pv 2) (pe_glob (v := .ref dB) rfl eB rfl) rfl)))) pss_never pss_nil) (pss_cons (ps_expr (pe_mR CF MF GF hr (by decide) (pv 0) (pa_cons (pv 3) (pa_cons (pv 4) pa_nil)))) (pss_cons (ps_if (PW.pt (pw_and (pt_cmpR op_notN (pv 5) pe_non (nomark _)) (pw_and1 pt_never))) pss_never pss_nil) (pss_cut (ps_if (PW.pt (pw_or (pt_not (pt_val (pe_callB call_isi rfl T.isin boot_isinstance (pa_cons (pv 6) (pa_cons (pe_bltn (v := .ty "str") rfl T.str boot_str rfl) pa_nil))))) (pw_or1 (PW.pt (pw_and (pt_cmpR op_eq (pv 2) pe_str (nomark _)) (pw_and1 (pt_cmpR op_ne (pv 6) pe_str (nomark _)))))))) pss_never pss_nil) (pss_cons (ps_set (i := 7) sc_H_add.nd rfl (Or.inl rfl) (pe_ifExp (pt_cmpR op_isN (pv 5) pe_non (nomark _)) (pe_cmR CRA CMA GA hr (by decide) (pe_glob (v := .ref c.cA) rfl T.clA.mg rfl) (pa_cons (pe_ix ix_kdict (pe_glob (v := .ref dB) rfl eB rfl) (pv 2) (fun _ _ => rfl)) pa_nil)) (pv 5))) (pss_one (ps_expr (pe_mR CU MU GU hr (by decide) (pv 0) (pa_cons (pv 1) (pa_cons (pe_callN GW (hr.mono (by decide)) rfl mW kW bW pass0 (pa_cons (pe_ix ix_tup (pe_fld (pv 0) rfl) pe_int (fun _ _ => rfl)) (pa_cons (pv 2) (pa_cons (pv 3) (pa_cons (pv 4) (pa_cons (pv 7) pa_nil))))) (pk_cons (pv 6) pk_nil)) pa_nil))))))))))), ?_⟩
    refine ⟨_, rfl, q ++ [n], rfl, hq, fun H1 s1 => ?_⟩
    have X1 := X.same s1
    obtain ⟨dx, eh1⟩ := X1.ho
    refine ⟨_, rfl, h, dx, _, rfl, eh1, rfl, _, rfl, h, p, j, us, st, L, k, D, _, rfl, X1, q, n, rfl, hq, hn, hm, hf, fun H2 s2 => ?_⟩
    obtain ⟨tB, et⟩ := fB (isF (q ++ [n]))
    have X2 := X1.same s2
    have eh2 := s2 _ _ eh1
    refine ⟨_, rfl, _, _, _, _, true, rfl, .ty _, .base (.str _), kit_ty (by decide +kernel), true, rfl, iteN rfl ⟨_, rfl, _, _, rfl, rfl, et, _, rfl, iteN rfl ?_⟩⟩
    refine ⟨_, rfl, h, dx, _, rfl, eh2, rfl, _, rfl, _, rfl, h, rfl, ?_⟩
    refine ⟨_, rfl, rfl, _, rfl, iteN (by decide) (iteN rfl ?_)⟩
    refine ⟨fun σ' H' => σ' = [some (.ref h), some (.str (pS (q ++ [n]))), some (.str (kT (isF (q ++ [n])))), some (.str "root"), some (.str "root"), some .non, some (.str ""), none] ∧ H2 = H', ?_, ?_⟩
    · refine ⟨_, rfl, _, _, _, _, true, rfl, .ty _, .base (.str _), kit_ty (by decide +kernel), true, rfl, iteN rfl ⟨_, rfl, rfl, _, rfl, ?_⟩⟩
      exact ite2 (fun _ => ⟨_, rfl, rfl, _, rfl, iteN (by decide) ⟨rfl, rfl⟩⟩) (fun _ => iteN rfl ⟨rfl, rfl⟩)
    rintro _ _ ⟨rfl, rfl⟩
    obtain ⟨o, g, t, e, ho, hg, ht⟩ : ∃ o g t, (if isF (q ++ [n]) = true then Str.ofString "644" else Str.ofString "755") = oT o g t ∧ o < 8 ∧ g < 8 ∧ t < 8 := by
      cases isF (q ++ [n])
      · exact ⟨7, 5, 5, rfl, by decide, by decide, by decide⟩
      · exact ⟨6, 4, 4, rfl, by decide, by decide, by decide⟩
    rw [e] at et
    refine ⟨_, rfl, rfl, _, rfl, iteY rfl ⟨rfl, _, rfl, _, _, _, rfl, rfl, ⟨es, nB, _, DB.at_, DB.lit, et, (show RelV (.str (oT o g t)) _ from ⟨_, rfl⟩)⟩, o, g, t, rfl, ho, hg, ht, fun H3 acc s3 n3 al => ?_⟩⟩
    have X3 := X2.same s3
    have eh3 := s3 _ _ eh2
    have X3' := X3
    obtain ⟨nd, um, est, end', eum, _⟩ := X3.sa
    refine ⟨_, rfl, h, dx, _, rfl, eh3, rfl, _, rfl, _, rfl, h, c.cH, dx, _, _, rfl, eh3, C.cl, C.nf _ (by decide), rfl, st, _, _, _, rfl, rfl, SqT.of est, rfl, _, rfl, _, rfl, _, rfl, _, rfl, _, rfl, rfl, rfl, k, isF (q ++ [n]), _, _, acc, rfl, fun H4 a s4 n4 nda => ?_⟩
    refine ⟨h, p, j, us, st, L, k, D, _, rfl, X3'.same s4, q ++ [n], a, _, _, acc, rfl, hq, hn, nda, fun H5 st' sx ho' sa' => ?_⟩
    exact K H5 st' a (((s1.trans s2).trans (s3.trans s4)).toX.trans sx) ho' sa'
end K37
end
section
set_option Elab.async false
set_option linter.all false
set_option maxRecDepth 100000
set_option maxHeartbeats 4000000
/-! K3o: cut. -/
namespace K37
open PySem PySem.Spec PyProof.Rows L2 StX ClX SX
open C8 (sl_txt rSlX pss_cut tCut)
theorem nodesK_at {L : Tr} {i : Nat} {x : Pa × Int × Addr} (h : L[i]? = some x) : (nodesK L)[i]? = some ((Sum.inr (pS x.1) : Key), V.ref x.2.2) := by
  unfold nodesK
  rw [List.getElem?_map, h]
  rfl
theorem nodesK_len (L : Tr) : (nodesK L).length = L.length := by simp [nodesK]
theorem filt_succ {α : Type} {f : α → Bool} {L : List α} {i : Nat} {x : α} (h : L[i]? = some x) : (L.take (i + 1)).filter f = (L.take i).filter f ++ (if f x = true then [x] else []) := by
  rw [List.take_add_one, h, List.filter_append]
  cases e : f x <;> simp [e]
theorem take_not {α : Type} {L : List α} (h : L.Nodup) {i : Nat} {x : α} (e : L[i]? = some x) : x ∉ L.take i := fun z => by
  obtain ⟨k, hk, e2⟩ := List.mem_iff_getElem.mp z
  rw [List.length_take] at hk
  rw [List.getElem_take] at e2
  have e3 := (List.getElem?_eq_some_iff.mp e).2
  have := (List.getElem_inj h).mp (e2.trans e3.symm)
  omega
theorem pS_ne {p q : Pa} (hp : okP p) (hq : okP q) : decide (V.str (pS p) = V.str (pS q)) = decide (p = q) := by
  rw [← pS_dec hp hq]
  by_cases e : pS p = pS q
  · rw [e]; simp
  · rw [decide_eq_false e, decide_eq_false fun z => e (V.str.inj z)]
/-- house.cut(path) -/
def spHCut (c : Ct) : Sp := spH c fun h p j us st L k D rest H Q => ∃ q, rest = [.str (pS q)] ∧ q ∈ L.map (·.1) ∧ q ≠ [] ∧ q ≠ [tmp] ∧
  ∀ H' st', SameX h H H' → HSt c H' h p j us st' (L.filter fun x => stays q x.1) k D → Q .non H'
abbrev N_H_cut : List Str := ["self", "path", "nodes", "one", "node"]
theorem ok_Hcut {c : Ct} (T : TxH c) : HasM c c.cH "cut" 6 (spHCut c) := by
  obtain ⟨f, fd, M, F⟩ := T.Hcut
  obtain ⟨fG, MG, GG⟩ := ok_Hchg T
  obtain ⟨fB, mB, kB, GB⟩ := ok_is_below T.toTxW
  have C := T.clH
  have CG := C.cl
  refine ⟨f, M, rawN (ps := ["self", "path"]) F (okD F sc_H_cut ?_ ?_) (fun _ _ _ _ _ _ us hl => match us, hl with | [_, _], _ => rfl)⟩
  · rintro vs H Q E ⟨_, _, _, _, _, _, _, _, _, rfl, _, _, rfl, _⟩
    rfl
  · rintro cdv A outer s H vs Q E hr ⟨h, p, j, us, st, L, k, D, _, rfl, X, q, rfl, hm, h0, h1, K⟩
    refine ⟨_, pss_cons (ps_expr (pe_mR CG MG GG hr (by decide) (pv 0) (pa_cons (pv 1) pa_nil))) (pss_cut (ps_lock (ps_setDc (i := 2) (own := [("one", 3), ("node", 4)]) (g := gTup c.K 2 (gCons (gName 3) (gCons (gName 4) gNil))) rfl sc_H_cut.nd rfl rfl (sw_dict rfl rfl rfl (by decide +kernel)) (pi_items (pe_ix ix_tup (pe_fld (pv 0) rfl) pe_int (fun _ _ => rfl))) (blkOk_by (N := N_H_cut) (sc := defScope s_H_cut) (by decide +kernel)) (fun _ _ _ _ _ => pg_tup rfl (pgs_cons (pg_name (i := 3) sc_H_cut.nd rfl (Or.inl rfl)) (pgs_cons (pg_name (i := 4) sc_H_cut.nd rfl (Or.inl rfl)) pgs_nil))) (fun _ _ _ _ _ => pts_one (PW.pt (pw_and (pt_cmpR op_ne (pv 3) (pv 1) (nomark _)) (pw_and1 (pt_not (pt_val (pe_cR GB hr (by decide) kB rfl mB (pa_cons (pv 3) (pa_cons (pv 1) pa_nil))))))))) (fun _ _ _ _ _ => pv 3) (fun _ _ _ _ _ => pv 4))) (pss_one (ps_fld (pv 0) (pe_tup (pa_cons (pv 2) (pa_cons (pe_ix ix_tup (pe_fld (pv 0) rfl) pe_int (fun _ _ => rfl)) (pa_cons (pe_ix ix_tup (pe_fld (pv 0) rfl) pe_int (fun _ _ => rfl)) pa_nil)))) rfl))), ?_⟩
    have hq := X.lo.okk hm
    obtain ⟨dx, eh0⟩ := X.ho
    refine ⟨_, rfl, h, dx, _, rfl, eh0, rfl, _, rfl, h, p, j, us, st, L, k, D, _, rfl, X, q, rfl, hm, h0, h1, fun H1 s1 => ?_⟩
    have X1 := X.same s1
    have eh := s1 _ _ eh0
    obtain ⟨nd, um, est, end', eum, hN, hg0, hg1⟩ := X1.sa
    refine ⟨fun σ' H' => ∃ d, σ' = [some (.ref h), some (.str (pS q)), some (.ref d), none, none] ∧ Same H1 H' ∧ H' d = some (.dK (nodesK (L.filter fun x => stays q x.1))), ?_, ?_⟩
    · refine ⟨nd, _, end', trivial, fun od => ?_⟩
      have hhd : h ≠ nd := ne_of eh end' fun z => nomatch z
      have hsd : st ≠ nd := ne_of est end' fun z => nomatch z
      have ehL : (upd H1 nd (.frz od (.dK (nodesK L)))) h = some (.ins c.cH dx [("own_people", .ref p), ("own_judge", .ref j), ("state", .ref st)]) := by rw [upd_ne hhd]; exact eh
      have estL : (upd H1 nd (.frz od (.dK (nodesK L)))) st = some (.tup [.ref nd, .ref um, .int k]) := by rw [upd_ne hsd]; exact est
      refine ⟨_, rfl, h, c.cH, dx, _, _, rfl, ehL, C.cl, C.nf _ (by decide), rfl, st, _, _, _, rfl, rfl, SqT.of estL, rfl, nd, od, nodesK L, rfl, upd_same, fun D0 nD => ?_⟩
      refine dc_walk (walk_items (kvs := nodesK L)) (fun i H5 => Same (upd H1 nd (.frz od (.dK (nodesK L)))) H5 ∧ H5 D0 = some (.dK (nodesK ((L.take i).filter fun x => stays q x.1)))) ⟨same_upd nD, upd_same⟩ (fun i H5 _ z => z.1 _ _ upd_same) ?_ ?_
      · rintro i v H5 H6 hi ⟨sm, eD⟩ ⟨t, x, y, rfl, nt, rfl, ex, ey⟩
        have hi' : i < L.length := by rw [← nodesK_len]; exact hi
        obtain ⟨⟨q', n', a'⟩, eL⟩ : ∃ z, L[i]? = some z := ⟨_, List.getElem?_eq_getElem hi'⟩
        have ex : (nodesK L)[i]?.map (fun kv => kV kv.1) = some x := ex
        have ey : (nodesK L)[i]?.map Prod.snd = some y := ey
        rw [nodesK_at eL] at ex ey
        obtain rfl : x = V.str (pS q') := (Option.some.inj ex).symm
        obtain rfl : y = V.ref a' := (Option.some.inj ey).symm
        have mem : (q', n', a') ∈ L := List.mem_of_getElem? eL
        have hq' := X.lo.okp mem
        have eD' := upd_old (o := .tup [.str (pS q'), .ref a']) eD nt
        have sT : Same (upd H1 nd (.frz od (.dK (nodesK L)))) (upd H5 t (.tup [.str (pS q'), .ref a'])) := sm.trans (same_upd nt)
        refine ⟨t, _, rfl, SqT.of upd_same, rfl, _, _, rfl, _, _, rfl, rfl, rfl, ?_⟩
        refine ⟨_, rfl, _, rfl, rfl, _, rfl, ?_⟩
        have hdec := pS_ne hq' hq
        by_cases e : q' = q
        · refine iteN (show (!decide (V.str (pS q') = V.str (pS q))) = false by rw [hdec, decide_eq_true e]; rfl) (iteN rfl ⟨sT, ?_⟩)
          rw [eD', filt_succ eL]
          simp [stays, e]
        · refine iteY (show (!decide (V.str (pS q') = V.str (pS q))) = true by rw [hdec, decide_eq_false e]; rfl) ⟨_, rfl, _, rfl, q', q, rfl, hq', hq, fun H7 s7 => ⟨_, rfl, ?_⟩⟩
          have sT7 := sT.trans s7
          have eD7 := s7 _ _ eD'
          cases hb : below q' q with
          | true =>
            refine iteN rfl ⟨sT7, ?_⟩
            rw [eD7, filt_succ eL]
            simp [stays, e, hb]
          | false =>
            refine iteY rfl ⟨_, rfl, _, rfl, _, Sum.inr (pS q'), rfl, eD7, ?_, same_new sT7 nD, ?_⟩
            · rw [nodesK_len]
              have := List.length_filter_le (fun x : Pa × Int × Addr => stays q x.1) (L.take i)
              rw [List.length_take] at this
              have := X.lo.len
              exact smT (by omega)
            · have hst : stays q q' = true := by
                unfold stays
                rw [decide_eq_false e, hb]
                rfl
              have hnone : valV (nodesK ((L.take i).filter fun x => stays q x.1)) (Sum.inr (pS q')) = none := by
                refine nodes_none hq' (fun x hx => X.lo.okp (List.mem_of_mem_take (List.mem_filter.mp hx).1)) fun z => ?_
                obtain ⟨w, hw, ew⟩ := List.mem_map.mp z
                have hw1 := (List.mem_filter.mp hw).1
                have e2 : (L.map (·.1))[i]? = some q' := by rw [List.getElem?_map, eL]; rfl
                refine take_not X.lo.nd e2 ?_
                rw [← List.map_take]
                exact List.mem_map.mpr ⟨w, hw1, ew⟩
              rw [upd_same, putK_new _ hnone, filt_succ eL, if_pos hst, nodesK_snoc]
      · rintro H5 ⟨sm, eD⟩
        rw [nodesK_len, List.take_length] at eD
        have hDn : D0 ≠ nd := fun z => by subst z; rw [upd_same] at nD; cases nD
        refine ⟨sm _ _ upd_same, D0, rfl, lock_same end' sm, ?_⟩
        rw [upd_ne hDn]
        exact eD
    rintro _ H2 ⟨d, rfl, s2, ed⟩
    have X2 := X1.same s2
    have eh2 := s2 _ _ eh
    have est2 := s2 _ _ est
    refine ⟨_, rfl, _, rfl, h, c.cH, dx, _, _, rfl, eh2, C.cl, C.nf _ (by decide), rfl, st, _, _, _, rfl, rfl, SqT.of est2, rfl, _, rfl, h, c.cH, dx, _, _, rfl, eh2, C.cl, C.nf _ (by decide), rfl, st, _, _, _, rfl, rfl, SqT.of est2, rfl, smL (by simp), fun t nt => ?_⟩
    have eG := upd_old (o := .tup [.ref d, .ref um, .int k]) eh2 nt
    refine ⟨_, rfl, h, c.cH, dx, _, rfl, eG, C.cl, C.nf _ (by decide), by simp, ?_⟩
    have sx : SameX h H (upd (upd H2 t (.tup [.ref d, .ref um, .int k])) h (.ins c.cH dx [("own_people", .ref p), ("own_judge", .ref j), ("state", .ref t)])) := ((s1.trans s2).toX.new nt).put
    have kp : Keep H1 (upd (upd H2 t (.tup [.ref d, .ref um, .int k])) h (.ins c.cH dx [("own_people", .ref p), ("own_judge", .ref j), ("state", .ref t)])) := (Keep.of (s2.trans (same_upd nt))).trans (.x sameX_upd eG rfl)
    have hd := upd_old (o := .tup [.ref d, .ref um, .int k]) ed nt
    refine K _ t sx (X.put sx ⟨dx, upd_same⟩ ⟨d, um, ?_, ?_, kp _ _ id eum, ?_, ?_, ?_⟩ (X.lo.cut h0 h1))
    · rw [upd_ne (ne_of upd_same eG fun z => nomatch z)]
      exact upd_same
    · rw [upd_ne (ne_of hd eG fun z => nomatch z)]
      exact hd
    · intro x hx
      exact (hN x (List.mem_filter.mp hx).1).imp fun o ⟨g, acc, z⟩ => ⟨g, acc, z.keep kp⟩
    · intro a hx
      exact (hg0 a (List.mem_filter.mp hx).1).imp fun acc z => ⟨z.1.keep kp, z.2.keep kp⟩
    · intro a hx
      exact (hg1 a (List.mem_filter.mp hx).1).imp fun acc z => ⟨z.1.keep kp, z.2.keep kp⟩
end K37
end
section
set_option Elab.async false
set_option linter.all false
set_option maxRecDepth 100000
set_option maxHeartbeats 4000000
/-! K3p: shift, paths. -/
namespace K37
open PySem PySem.Spec PyProof.Rows L2 StX ClX SX
open C8 (sl_txt rSlX pss_cut tCut)
theorem cut_psV2 (p : Pa) (k : Nat) : cutV (psV p) (some (k : Int)) none = psV (p.drop k) := by
  unfold cutV
  rw [HT.sIx_none, HT.sIx_nat, psV_len]
  unfold psV
  rw [← List.map_drop, ← List.map_drop]
  by_cases h : k ≤ p.length
  · rw [Nat.min_eq_left h, List.take_of_length_le (by simp)]
  · rw [Nat.min_eq_right (by omega), List.drop_of_length_le (Nat.le_refl _), List.drop_of_length_le (by omega : p.length ≤ k)]
    simp
theorem MvOk.okt {L : Tr} {k : Int} {D : Nat} {q t o : Pa} {n : List Nat} (lo : LOk L k D) (M : MvOk L D q t o n) : okP t := by
  refine ⟨by have := M.tl; omega, fun m hm => ?_⟩
  rw [M.e] at hm
  rcases List.mem_append.mp hm with hm | hm
  · exact (lo.okk M.om).2 m hm
  · rw [List.mem_singleton.mp hm]
    exact M.hn
/-- house.shift(path, to) -/
def spHShift (c : Ct) : Sp := spH c fun h p j us st L k D rest H Q => ∃ q t o n, rest = [.str (pS q), .str (pS t)] ∧ MvOk L D q t o n ∧
  ∀ H' st', SameX h H H' → HSt c H' h p j us st' (mvL q t L) k (D + 1) → Q .non H'
theorem mvL_take (q t : Pa) (L : Tr) (i : Nat) : (mvL q t L).take i = mvL q t (L.take i) := by
  unfold mvL
  rw [List.map_take]
theorem ok_Hshift {c : Ct} (T : TxH c) : HasM c c.cH "shift" 7 (spHShift c) := by
  obtain ⟨f, fd, M, F⟩ := T.Hshift
  obtain ⟨fN, mN, kN, GN⟩ := ok_need_path_house T
  obtain ⟨fG, MG, GG⟩ := ok_Hchg T
  obtain ⟨fP, MP, GP⟩ := ok_Hplace T
  obtain ⟨fB, mB, kB, GB⟩ := ok_is_below T.toTxW
  obtain ⟨fT, mT, kT', GT⟩ := ok_parts_of T.toTxW
  obtain ⟨fJ, mJ, kJ, GJ⟩ := ok_joined T.toTxW T.joined
  have kT := kT'
  have C := T.clH
  have CG := C.cl
  have CP := C.cl
  refine ⟨f, M, rawN (ps := ["self", "path", "to"]) F (okD F sc_H_shift ?_ ?_) (fun _ _ _ _ _ _ us hl => match us, hl with | [_, _, _], _ => rfl)⟩
  · rintro vs H Q E ⟨_, _, _, _, _, _, _, _, _, rfl, _, _, _, _, _, rfl, _⟩
    rfl
  · rintro cdv A outer s H vs Q E hr ⟨h, p, j, us, st, L, k, D, _, rfl, X, q, t, o, n, rfl, MV, K⟩
    refine ⟨_, pss_cons (ps_expr (pe_cR GN hr (by decide) kN rfl mN (pa_cons (pv 1) pa_nil))) (pss_cons (ps_expr (pe_cR GN hr (by decide) kN rfl mN (pa_cons (pv 2) pa_nil))) (pss_cons (ps_expr (pe_mR CG MG GG hr (by decide) (pv 0) (pa_cons (pv 1) pa_nil))) (pss_cons (ps_if (pt_val (pe_cR GB hr (by decide) kB rfl mB (pa_cons (pv 2) (pa_cons (pv 1) pa_nil)))) pss_never pss_nil) (pss_cons (ps_expr (pe_mR CP MP GP hr (by decide) (pv 0) (pa_cons (pv 2) pa_nil))) (pss_cons (ps_set (i := 3) sc_H_shift.nd rfl (Or.inl rfl) (pe_dnewK)) (pss_cut (ps_lock (ps_for PassesOwn.never rfl (pi_items (pe_ix ix_tup (pe_fld (pv 0) rfl) pe_int (fun _ _ => rfl))) (pg_tup rfl (pgs_cons (pg_name (i := 4) sc_H_shift.nd rfl (Or.inl rfl)) (pgs_cons (pg_name (i := 5) sc_H_shift.nd rfl (Or.inl rfl)) pgs_nil))) (pss_cut (ps_if (PW.pt (pw_or (pt_cmpR op_eq (pv 4) (pv 1) (nomark _)) (pw_or1 (pt_val (pe_cR GB hr (by decide) kB rfl mB (pa_cons (pv 4) (pa_cons (pv 1) pa_nil))))))) (pss_cons (ps_set (i := 6) sc_H_shift.nd rfl (Or.inl rfl) (pe_slice sl_list (pe_cR GT hr (by decide) kT rfl mT (pa_cons (pv 4) pa_nil)) (po_some (pe_callB call_len_seq rfl T.len PySem.boot_len (pa_cons (pe_cR GT hr (by decide) kT rfl mT (pa_cons (pv 1) pa_nil)) pa_nil))) po_none)) (pss_one (ps_set (i := 4) sc_H_shift.nd rfl (Or.inl rfl) (pe_cRs GJ hr (by decide) kJ rfl mJ (pa_cons (pv 2) (pa_star (pv 6) pa_nil)))))) pss_nil) (pss_one (ps_dput (hu_of hr) (pv 3) (pv 4) (pv 5) rfl))))) (pss_one (ps_fld (pv 0) (pe_tup (pa_cons (pv 3) (pa_cons (pe_ix ix_tup (pe_fld (pv 0) rfl) pe_int (fun _ _ => rfl)) (pa_cons (pe_ix ix_tup (pe_fld (pv 0) rfl) pe_int (fun _ _ => rfl)) pa_nil)))) rfl)))))))), ?_⟩
    have hm := MV.qm
    have hq := X.lo.okk hm
    have ht := MV.okt X.lo
    have hto := ht
    rw [MV.e] at hto
    obtain ⟨dx, eh0⟩ := X.ho
    refine ⟨_, rfl, q, rfl, hq, fun Ha sa => ⟨_, rfl, t, rfl, ht, fun Hb sb => ?_⟩⟩
    have sab := sa.trans sb
    refine ⟨_, rfl, h, dx, _, rfl, sab _ _ eh0, rfl, _, rfl, h, p, j, us, st, L, k, D, _, rfl, X.same sab, q, rfl, hm, MV.q0, MV.q1, fun Hc sc => ?_⟩
    have sac := sab.trans sc
    refine ⟨_, rfl, _, rfl, t, q, rfl, ht, hq, fun Hd sd => ⟨_, rfl, iteN MV.nb ?_⟩⟩
    have sad := sac.trans sd
    refine ⟨_, rfl, h, dx, _, rfl, sad _ _ eh0, rfl, _, rfl, h, p, j, us, st, L, k, D, _, rfl, X.same sad, o, n, by rw [← MV.e], hto, by rw [← MV.e]; exact MV.tn, MV.om, MV.of, fun H1 se => ?_⟩
    have s1 := sad.trans se
    have X1 := X.same s1
    have eh := s1 _ _ eh0
    obtain ⟨nd, um, est, end', eum, hN, hg0, hg1⟩ := X1.sa
    intro d n3
    have hdn : nd ≠ d := ne_of_none end' n3
    have sd0 : Same H1 (upd H1 d (.dK [])) := same_upd n3
    refine ⟨fun σ' H' => ∃ y4 y5 y6, σ' = [some (.ref h), some (.str (pS q)), some (.str (pS t)), some (.ref d), y4, y5, y6] ∧ Same H1 H' ∧ H' d = some (.dK (nodesK (mvL q t L))), ?_, ?_⟩
    · refine ⟨nd, _, sd0 _ _ end', trivial, fun od => ?_⟩
      have hhd : h ≠ nd := ne_of eh end' fun z => nomatch z
      have hsd : st ≠ nd := ne_of est end' fun z => nomatch z
      have ehL : (upd (upd H1 d (.dK [])) nd (.frz od (.dK (nodesK L)))) h = some (.ins c.cH dx [("own_people", .ref p), ("own_judge", .ref j), ("state", .ref st)]) := by rw [upd_ne hhd]; exact sd0 _ _ eh
      have estL : (upd (upd H1 d (.dK [])) nd (.frz od (.dK (nodesK L)))) st = some (.tup [.ref nd, .ref um, .int k]) := by rw [upd_ne hsd]; exact sd0 _ _ est
      refine ⟨_, rfl, h, c.cH, dx, _, _, rfl, ehL, C.cl, C.nf _ (by decide), rfl, st, _, _, _, rfl, rfl, SqT.of estL, rfl, nd, od, nodesK L, rfl, upd_same, ?_⟩
      refine for_it (walk_items (kvs := nodesK L)) (fun i σ' H5 => ∃ y4 y5 y6, σ' = [some (.ref h), some (.str (pS q)), some (.str (pS t)), some (.ref d), y4, y5, y6] ∧ (∀ b x, b ≠ nd → H1 b = some x → H5 b = some x) ∧ H5 nd = some (.frz od (.dK (nodesK L))) ∧ H5 d = some (.dK (nodesK (mvL q t (L.take i))))) ⟨none, none, none, rfl, fun b x hb e => ?_, upd_same, ?_⟩ ?_ ?_ ?_
      · rw [upd_ne hb]
        exact sd0 _ _ e
      · rw [upd_ne hdn.symm, upd_same]
        rfl
      · rintro i σ' H5 _ ⟨_, _, _, _, _, e, _⟩
        exact e
      · rintro i v σ' H5 H6 hi ⟨y4, y5, y6, rfl, fr, en, ed⟩ ⟨tt, x, y, rfl, nt, rfl, ex, ey⟩
        have hi' : i < L.length := by rw [← nodesK_len]; exact hi
        obtain ⟨⟨q', n', a'⟩, eL⟩ : ∃ z, L[i]? = some z := ⟨_, List.getElem?_eq_getElem hi'⟩
        have ex : (nodesK L)[i]?.map (fun kv => kV kv.1) = some x := ex
        have ey : (nodesK L)[i]?.map Prod.snd = some y := ey
        rw [nodesK_at eL] at ex ey
        obtain rfl : x = V.str (pS q') := (Option.some.inj ex).symm
        obtain rfl : y = V.ref a' := (Option.some.inj ey).symm
        have mem : (q', n', a') ∈ L := List.mem_of_getElem? eL
        have memk : q' ∈ L.map (·.1) := List.mem_map.mpr ⟨_, mem, rfl⟩
        have hq' := X.lo.okp mem
        have hdec := pS_ne hq' hq
        have sT : Same H5 (upd H5 tt (.tup [.str (pS q'), .ref a'])) := same_upd nt
        refine ⟨tt, _, rfl, SqT.of upd_same, rfl, _, _, rfl, _, _, rfl, rfl, ?_⟩
        -- the path's new name
        refine ⟨fun σ2 H' => ∃ y6, σ2 = [some (.ref h), some (.str (pS q)), some (.str (pS t)), some (.ref d), some (.str (pS (mvP q t q'))), some (.ref a'), y6] ∧ Same H5 H', ?_, ?_⟩
        · have hmv : okP (mvP q t q') := (X.lo.mv MV).okp (q := (mvP q t q', n', a')) (List.mem_map.mpr ⟨_, mem, rfl⟩)
          have go : ∀ (H7 : Hp), Same H5 H7 → goes q q' = true → ∃ r, q' = q ++ r ∧ okP (t ++ r) ∧ mvP q t q' = t ++ r := by
            intro H7 _ g
            obtain ⟨r, e⟩ := goes_iff.mp g
            have e2 : mvP q t q' = t ++ r := by rw [e, mvP_app]
            exact ⟨r, e, e2 ▸ hmv, e2⟩
          refine ⟨_, rfl, _, rfl, rfl, _, rfl, ?_⟩
          by_cases e : q' = q
          · refine iteY (show decide (V.str (pS q') = V.str (pS q)) = true by rw [hdec, decide_eq_true e]) ?_
            obtain ⟨r, er, okr, emv⟩ := go _ sT (by unfold goes; rw [decide_eq_true e]; rfl)
            refine ⟨_, rfl, q', rfl, hq', fun H7 r7 s7 n7 e7 => ⟨_, rfl, q, rfl, hq, fun H8 r8 s8 n8 e8 => ⟨r8, _, rfl, .inl (SqL.of e8), _, rfl, r7, _, rfl, SqL.of (s8 _ _ e7), fun r9 n9 => ?_⟩⟩⟩
            have ec : cutV (psV q') (some ((psV q).length : Int)) none = psV r := by
              rw [psV_len, cut_psV2, er, List.drop_left]
            rw [ec]
            refine ⟨_, rfl, _, rfl, r9, _, rfl, .inr (SqL.of upd_same), t, r, by rw [List.append_nil], okr, fun Hx sx => ?_⟩
            refine ⟨_, by rw [emv]; rfl, sT.trans (s7.trans (s8.trans ((same_upd n9).trans sx)))⟩
          · refine iteN (show decide (V.str (pS q') = V.str (pS q)) = false by rw [hdec, decide_eq_false e]) ?_
            refine ⟨_, rfl, _, rfl, q', q, rfl, hq', hq, fun H6 s6 => ⟨_, rfl, ?_⟩⟩
            cases hb : below q' q with
            | false =>
              have g : goes q q' = false := by unfold goes; rw [decide_eq_false e, hb]; rfl
              refine iteN rfl ⟨_, by rw [mvP_not g]; rfl, sT.trans s6⟩
            | true =>
              refine iteY rfl ?_
              obtain ⟨r, er, okr, emv⟩ := go _ (sT.trans s6) (by unfold goes; rw [hb, Bool.or_true])
              refine ⟨_, rfl, q', rfl, hq', fun H7 r7 s7 n7 e7 => ⟨_, rfl, q, rfl, hq, fun H8 r8 s8 n8 e8 => ⟨r8, _, rfl, .inl (SqL.of e8), _, rfl, r7, _, rfl, SqL.of (s8 _ _ e7), fun r9 n9 => ?_⟩⟩⟩
              have ec : cutV (psV q') (some ((psV q).length : Int)) none = psV r := by
                rw [psV_len, cut_psV2, er, List.drop_left]
              rw [ec]
              refine ⟨_, rfl, _, rfl, r9, _, rfl, .inr (SqL.of upd_same), t, r, by rw [List.append_nil], okr, fun Hx sx => ?_⟩
              refine ⟨_, by rw [emv]; rfl, (sT.trans s6).trans (s7.trans (s8.trans ((same_upd n9).trans sx)))⟩
        rintro _ H9 ⟨y6', rfl, s9⟩
        have ed9 := s9 _ _ ed
        have hl : (nodesK (mvL q t (L.take i))).length < sizeLine := by
          rw [nodesK_len, mvL, List.length_map, List.length_take]
          have := X.lo.len
          exact smT (by omega)
        refine ⟨_, rfl, _, rfl, _, rfl, d, _, rfl, DPut.k (k := Sum.inr (pS (mvP q t q'))) ed9 hl, ?_⟩
        have hmv : okP (mvP q t q') := (X.lo.mv MV).okp (q := (mvP q t q', n', a')) (List.mem_map.mpr ⟨_, mem, rfl⟩)
        have hnone : valV (nodesK (mvL q t (L.take i))) (Sum.inr (pS (mvP q t q'))) = none := by
          refine nodes_none hmv (fun x hx => ?_) fun z => ?_
          · obtain ⟨w, hw, rfl⟩ := List.mem_map.mp hx
            exact (X.lo.mv MV).okp (q := (mvP q t w.1, w.2)) (List.mem_map.mpr ⟨w, List.mem_of_mem_take hw, rfl⟩)
          · rw [mvL_keys] at z
            obtain ⟨w, hw, ew⟩ := List.mem_map.mp z
            rw [List.map_take] at hw
            have e1 := mv_inj X.lo MV (List.mem_of_mem_take hw) memk ew
            have e2 : (L.map (·.1))[i]? = some q' := by rw [List.getElem?_map, eL]; rfl
            exact take_not X.lo.nd e2 (e1 ▸ hw)
        rw [putK_new _ hnone]
        have esn : nodesK (mvL q t (L.take i)) ++ [((Sum.inr (pS (mvP q t q')) : Key), V.ref a')] = nodesK (mvL q t (L.take (i + 1))) := by
          rw [List.take_add_one, eL]
          simp [mvL, nodesK]
        rw [esn]
        refine ⟨_, _, _, rfl, fun b x hb e => ?_, ?_, upd_same⟩
        · rw [upd_ne (ne_of_none e n3)]
          exact s9 _ _ (fr b x hb e)
        · rw [upd_ne hdn]
          exact s9 _ _ en
      · rintro σ' H5 ⟨y4, y5, y6, rfl, fr, en, ed⟩
        rw [nodesK_len, List.take_length] at ed
        refine ⟨en, y4, y5, y6, rfl, fun b x e => ?_, ?_⟩
        · by_cases hb : b = nd
          · subst hb
            rw [end'] at e
            rw [upd_same]
            exact e
          · rw [upd_ne hb]
            exact fr b x hb e
        · rw [upd_ne hdn.symm]
          exact ed
    rintro _ H2 ⟨y4, y5, y6, rfl, s2, ed⟩
    have eh2 := s2 _ _ eh
    have est2 := s2 _ _ est
    refine ⟨_, rfl, _, rfl, h, c.cH, dx, _, _, rfl, eh2, C.cl, C.nf _ (by decide), rfl, st, _, _, _, rfl, rfl, SqT.of est2, rfl, _, rfl, h, c.cH, dx, _, _, rfl, eh2, C.cl, C.nf _ (by decide), rfl, st, _, _, _, rfl, rfl, SqT.of est2, rfl, smL (by simp), fun tt nt => ?_⟩
    have eG := upd_old (o := .tup [.ref d, .ref um, .int k]) eh2 nt
    refine ⟨_, rfl, h, c.cH, dx, _, rfl, eG, C.cl, C.nf _ (by decide), by simp, ?_⟩
    have sx : SameX h H (upd (upd H2 tt (.tup [.ref d, .ref um, .int k])) h (.ins c.cH dx [("own_people", .ref p), ("own_judge", .ref j), ("state", .ref tt)])) := ((s1.trans s2).toX.new nt).put
    have kp : Keep H1 (upd (upd H2 tt (.tup [.ref d, .ref um, .int k])) h (.ins c.cH dx [("own_people", .ref p), ("own_judge", .ref j), ("state", .ref tt)])) := (Keep.of (s2.trans (same_upd nt))).trans (.x sameX_upd eG rfl)
    have hd := upd_old (o := .tup [.ref d, .ref um, .int k]) ed nt
    refine K _ tt sx (X.put sx ⟨dx, upd_same⟩ ⟨d, um, ?_, ?_, kp _ _ id eum, ?_, ?_, ?_⟩ (X.lo.mv MV))
    · rw [upd_ne (ne_of upd_same eG fun z => nomatch z)]
      exact upd_same
    · rw [upd_ne (ne_of hd eG fun z => nomatch z)]
      exact hd
    · intro x hx
      obtain ⟨w, hw, rfl⟩ := List.mem_map.mp hx
      obtain ⟨o1, g1, acc, z⟩ := hN w hw
      refine ⟨o1, g1, acc, ?_⟩
      show NdAt c _ w.2.2 w.2.1 (isF (mvP q t w.1)) o1 g1 acc
      rw [isF_mv MV.ff (X.lo.okp hw).2]
      exact z.keep kp
    · intro a hx
      obtain ⟨w, hw, e⟩ := List.mem_map.mp hx
      have e1 : mvP q t w.1 = mvP q t [] := by rw [mvP_not (goes_nil MV.q0)]; exact congrArg Prod.fst e
      obtain ⟨a0, m0⟩ := X.lo.g0
      have e2 := mv_inj X.lo MV (List.mem_map.mpr ⟨w, hw, rfl⟩) (List.mem_map.mpr ⟨_, m0, rfl⟩) e1
      injection e with _ e4
      have e3 : w = ([], 0, a) := Prod.ext e2 e4
      exact (hg0 a (e3 ▸ hw)).imp fun acc z => ⟨z.1.keep kp, z.2.keep kp⟩
    · intro a hx
      obtain ⟨w, hw, e⟩ := List.mem_map.mp hx
      have e1 : mvP q t w.1 = mvP q t [tmp] := by rw [mvP_not (goes_one MV.q0 MV.q1)]; exact congrArg Prod.fst e
      obtain ⟨a0, m0⟩ := X.lo.g1
      have e2 := mv_inj X.lo MV (List.mem_map.mpr ⟨w, hw, rfl⟩) (List.mem_map.mpr ⟨_, m0, rfl⟩) e1
      injection e with _ e4
      have e3 : w = ([tmp], 1, a) := Prod.ext e2 e4
      exact (hg1 a (e3 ▸ hw)).imp fun acc z => ⟨z.1.keep kp, z.2.keep kp⟩
/-! ### paths -/
theorem perm_pull {α β : Type} {f : α → β} {ys zs : List β} (h : ys.Perm zs) : ∀ {xs : List α}, zs = xs.map f → ∃ ws : List α, ws.Perm xs ∧ ys = ws.map f := by
  induction h with
  | nil =>
    intro xs e
    cases xs with
    | nil => exact ⟨[], .nil, rfl⟩
    | cons _ _ => cases e
  | cons y _ ih =>
    intro xs e
    cases xs with
    | nil => cases e
    | cons x xs =>
      injection e with e1 e2
      obtain ⟨ws, p, q⟩ := ih e2
      exact ⟨x :: ws, .cons x p, by rw [List.map_cons, ← e1, ← q]⟩
  | swap y1 y2 l =>
    intro xs e
    match xs, e with
    | x1 :: x2 :: xs, e =>
      injection e with e1 e
      injection e with e2 e3
      exact ⟨x2 :: x1 :: xs, .swap x1 x2 xs, by rw [List.map_cons, List.map_cons, ← e1, ← e2, ← e3]⟩
    | [], e => cases e
    | [_], e =>
      injection e with _ e
      cases e
  | trans _ _ ih1 ih2 =>
    intro xs e
    obtain ⟨ws, p, q⟩ := ih2 e
    obtain ⟨vs, p2, q2⟩ := ih1 q
    exact ⟨vs, p2.trans p, q2⟩
def groundB (q : Pa) : Bool := decide (q = [] ∨ q = [tmp])
def pathsV (qs : List Pa) : List V := qs.map fun q => V.str (pS q)
def spHPaths (c : Ct) : Sp := spH c fun h p j us st L k D rest H Q => rest = [] ∧
  ∀ H' l qs, Same H H' → H l = none → H' l = some (.lst (pathsV qs)) → qs.Perm ((L.map (·.1)).filter fun q => !groundB q) → Q (.ref l) H'
abbrev N_H_paths : List Str := ["self", "path"]
theorem ok_Hpaths {c : Ct} (T : TxH c) : HasM c c.cH "paths" 1 (spHPaths c) := by
  obtain ⟨f, fd, M, F⟩ := T.Hpaths
  obtain ⟨tG, eG, SG⟩ := T.groundT
  have C := T.clH
  refine ⟨f, M, rawN (ps := ["self"]) F (okD F sc_H_paths ?_ ?_) (fun _ _ _ _ _ _ us hl => match us, hl with | [_], _ => rfl)⟩
  · rintro vs H Q E ⟨_, _, _, _, _, _, _, _, _, rfl, _, rfl, _⟩
    rfl
  · rintro cdv A outer s H vs Q E hr ⟨h, p, j, us, st, L, k, D, _, rfl, X, rfl, K⟩
    refine ⟨_, pss_one (ps_ret (pe_callB cr_sortedS rfl T.sorted (by decide +kernel) (pa_cons (pe_lock (pe_lc (own := [("path", 1)]) (g := gName 1) rfl sc_H_paths.nd (pi_keys (pe_ix ix_tup (pe_fld (pv 0) rfl) pe_int (fun _ _ => rfl))) (blkOk_by (N := N_H_paths) (sc := defScope s_H_paths) (by decide +kernel)) (fun _ _ _ _ _ => pg_name (i := 1) sc_H_paths.nd rfl (Or.inl rfl)) (fun _ _ _ _ _ => pts_one (pt_cmpR (op_notInK c.K) (pv 1) (pe_glob (v := .ref tG) rfl eG rfl) rfl)) (fun _ _ _ _ _ => pv 1))) pa_nil))), ?_⟩
    obtain ⟨dx, eh⟩ := X.ho
    obtain ⟨nd, um, est, end', eum, _⟩ := X.sa
    refine ⟨nd, _, end', trivial, fun od => ?_⟩
    have hhd : h ≠ nd := ne_of eh end' fun z => nomatch z
    have hsd : st ≠ nd := ne_of est end' fun z => nomatch z
    have ehL : (upd H nd (.frz od (.dK (nodesK L)))) h = some (.ins c.cH dx [("own_people", .ref p), ("own_judge", .ref j), ("state", .ref st)]) := by rw [upd_ne hhd]; exact eh
    have estL : (upd H nd (.frz od (.dK (nodesK L)))) st = some (.tup [.ref nd, .ref um, .int k]) := by rw [upd_ne hsd]; exact est
    refine ⟨_, rfl, h, c.cH, dx, _, _, rfl, ehL, C.cl, C.nf _ (by decide), rfl, st, _, _, _, rfl, rfl, SqT.of estL, rfl, nd, od, rfl, .inl ⟨nodesK L, upd_same, fun D0 nD => ?_⟩⟩
    refine lc_it (walk_keys (kvs := nodesK L)) (fun i H5 => Same (upd H nd (.frz od (.dK (nodesK L)))) H5 ∧ H5 D0 = some (.lst (pathsV (((L.take i).map (·.1)).filter fun q => !groundB q)))) ⟨same_upd nD, upd_same⟩ (fun i H5 _ z => z.1 _ _ upd_same) ?_ ?_
    · rintro i v H5 H6 hi ⟨sm, eD⟩ ⟨rfl, x, y, exy, rfl⟩
      have hi' : i < L.length := by rw [← nodesK_len]; exact hi
      obtain ⟨⟨q', n', a'⟩, eL⟩ : ∃ z, L[i]? = some z := ⟨_, List.getElem?_eq_getElem hi'⟩
      rw [nodesK_at eL] at exy
      injection exy with exy
      injection exy with e1 e2
      subst e1
      have hq' := X.lo.okp (List.mem_of_getElem? eL)
      have hgi : inV (.str (pS q')) [.str "/", .str "/tmp"] = groundB q' := ground_in hq'
      have esn : ∀ b : Bool, groundB q' = b → ((L.take (i + 1)).map (·.1)).filter (fun q => !groundB q) = ((L.take i).map (·.1)).filter (fun q => !groundB q) ++ (if b = true then [] else [q']) := by
        intro b hb
        rw [List.take_add_one, eL, List.map_append, List.filter_append]
        cases b <;> simp [hb]
      refine ⟨rfl, _, rfl, tG, _, rfl, .inr (SG _), rfl, rfl, _, rfl, ?_⟩
      cases hg : groundB q' with
      | true =>
        refine iteN (show (!inV (.str (pS q')) [.str "/", .str "/tmp"]) = false by rw [hgi, hg]; rfl) ⟨sm, ?_⟩
        rw [eD, esn _ hg]
        simp
      | false =>
        refine iteY (show (!inV (.str (pS q')) [.str "/", .str "/tmp"]) = true by rw [hgi, hg]; rfl) ⟨_, rfl, _, eD, ?_, same_new sm nD, ?_⟩
        · unfold pathsV
          rw [List.length_map]
          have := List.length_filter_le (fun q => !groundB q) ((L.take i).map (·.1))
          rw [List.length_map, List.length_take] at this
          have := X.lo.len
          exact smT (by omega)
        · rw [upd_same, esn _ hg]
          simp [pathsV, kV]
    · rintro H5 ⟨sm, eD⟩
      rw [nodesK_len, List.take_length] at eD
      have hDn : D0 ≠ nd := fun z => by subst z; rw [upd_same] at nD; cases nD
      have s2 : Same H (upd H5 nd (.dK (nodesK L))) := lock_same end' sm
      have hlen : (((L.map (·.1)).filter fun q => !groundB q).map pS).length < 64 := by
        rw [List.length_map]
        have := List.length_filter_le (fun q => !groundB q) (L.map (·.1))
        rw [List.length_map] at this
        have := X.lo.len
        omega
      refine ⟨sm _ _ upd_same, D0, ((L.map (·.1)).filter fun q => !groundB q).map pS, rfl, SqL.of ?_, hlen, fun ys l pm _ nl => ?_⟩
      · rw [upd_ne hDn, eD, List.map_map]
        rfl
      · obtain ⟨qs, pq, e⟩ := perm_pull pm rfl
        refine K _ l qs (s2.trans (same_upd nl)) (s2.none nl) ?_ pq
        rw [upd_same, e, List.map_map]
        rfl
end K37
end
section
set_option Elab.async false
set_option linter.all false
set_option maxRecDepth 100000
set_option maxHeartbeats 4000000
/-! K3q: deeds. -/
namespace K37
open PySem PySem.Spec PyProof.Rows L2 StX ClX SX
open C8 (sl_txt rSlX pss_cut tCut)
theorem op_ownInX {X : Cx} {C g : Addr} {k j : Nat} {sp : Sp} (hs : PySem.W.findIn X.K (.ref C) "__contains__" = some (some (.ref g))) (hf : PySem.W.isFn X.K (.ref g) = true) (F : FnR X.prog X.w X.K X.mg X.base CX0 k g sp) (hr : Room j X.A) (hj : k ≤ j) : OpR X (compareOp .In) (rOwnIn C sp false) := op_ownIn hs hf F hr hj
structure TxD (c : Ct) : Prop extends TxH c where
  need_asked : DefG c "need_asked" "need_asked" s_need_asked
  lacking : DefG c "lacking" "lacking" s_lacking
  is_deed : DefG c "is_deed" "is_deed" s_is_deed
  need_way : DefG c "need_way" "need_way" s_need_way
  need_granted : DefG c "need_granted" "need_granted" s_need_granted
  need_place : DefG c "need_place" "need_place" s_d_need_place
  make : DefG c "make" "make" s_make
  do_file : DefG c "do_file" "do_file" s_do_file
  do_folder : DefG c "do_folder" "do_folder" s_do_folder
  need_house : DefG c "need_house" "need_house" s_need_house
  do_ : DefG c "do" "do" s_do
  forms : ∃ d es n, c.mg "FORMS" = some (.ref d) ∧ KDict c.K c.w d es n ∧ ∀ f : Bool, ∃ t fp fg, PySem.W.nsIn c.K d (kT f) = some (some (.ref t)) ∧ (∀ H, SqT c.K H t [.ref fp, .ref fg]) ∧ c.mg "is_path" = some (.ref fp) ∧ c.mg "is_digits" = some (.ref fg)
  deeds : ∃ d es n, c.mg "DEEDS" = some (.ref d) ∧ KDict c.K c.w d es n ∧ ∀ f : Bool, ∃ g, PySem.W.nsIn c.K d (kT f) = some (some (.ref g)) ∧ c.mg (if f then Str.ofString "do_file" else Str.ofString "do_folder") = some (.ref g)
/-- a promise of a def whose first argument is a house, the second a user -/
def spU (c : Ct) (r : Addr → Addr → Addr → List (List Nat) → Addr → Tr → Int → Nat → List Nat → List V → Hp → VK → Prop) : Sp := fun vs H Q _ => ∃ h p j us st L k D u rest, vs = .ref h :: .str (S u) :: rest ∧ HSt c H h p j us st L k D ∧ u ∈ us ∧ r h p j us st L k D u rest H Q
def spAsked (c : Ct) : Sp := spU c fun h p j us st L k D u rest H Q => ∃ q, rest = [.str (pS q)] ∧ okP q ∧ ∀ H', Same H H' → Q .non H'
theorem pr_Hpeople {c : Ct} (T : TxH c) : HasPr c c.cH "people" 1 (spFld c.cH "own_people") := pr_fld T.clH T.Hpeople sc_H_people (.inl rfl) rfl (by decide) (fun _ _ _ _ _ _ us hl => match us, hl with | [_], _ => rfl)
theorem ok_asked {c : Ct} (T : TxD c) : Has c "need_asked" 4 (spAsked c) := by
  obtain ⟨f, fd, m, F⟩ := T.need_asked
  obtain ⟨fN, mN, kN, GN⟩ := ok_need_path_house T.toTxH
  obtain ⟨gC, c1, c2, GC⟩ := ok_Pcontains T.toTxP
  obtain ⟨pp, gp, fdp, psp, Pp, Gp, bp⟩ := pr_Hpeople T.toTxH
  have Cp := T.clH.cl
  refine Has.mk m F (ps := ["house", "user", "path"]) (okD F sc_need_asked ?_ ?_) (fun _ _ _ _ _ _ us hl => match us, hl with | [_, _, _], _ => rfl)
  · rintro vs H Q E ⟨_, _, _, _, _, _, _, _, _, _, rfl, _, _, _, rfl, _⟩
    rfl
  · rintro cdv A outer s H vs Q E hr ⟨h, p, j, us, st, L, k, D, u, _, rfl, X, hu, q, rfl, hq, K⟩
    refine ⟨_, pss_cons (ps_if (pt_not (pt_val (pe_callB call_isi rfl T.isin boot_isinstance (pa_cons (pv 0) (pa_cons ((pe_glob (v := .ref c.cH) rfl T.clH.mg rfl)) pa_nil))))) pss_never pss_nil) (pss_cons (ps_if (pt_cmpR (op_ownNotIn c1 c2 GC hr (by decide)) (pv 1) (pe_prop (pv 0) Cp Pp Gp (hr.mono (by decide)) bp .nil pass0 (by rfl)) rfl) pss_never pss_nil) (pss_one (ps_expr (pe_cR GN hr (by decide) kN rfl mN (pa_cons (pv 2) pa_nil))))), ?_⟩
    obtain ⟨dx, eh⟩ := X.ho
    obtain ⟨dp, mm, gg, kvs, ep, _⟩ := X.pe
    refine ⟨_, rfl, _, _, _, _, true, rfl, .own _, tyOf T.clH eh, kit_same, true, rfl, iteN rfl ?_⟩
    refine ⟨_, rfl, _, rfl, h, dx, _, rfl, eh, h, dx, _, _, rfl, eh, rfl, p, dp, _, rfl, ep, p, us, u, rfl, X.pe, hu, fun H1 s1 => ⟨_, rfl, _, rfl, iteN rfl ?_⟩⟩
    exact ⟨_, rfl, q, rfl, hq, fun H2 s2 => K _ (s1.trans s2)⟩
/-- nothing lacks on the way to /tmp -/
def spLack (c : Ct) : Sp := spU c fun h p j us st L k D u rest H Q => rest = [.str (pS [tmp])] ∧ ∀ H', Same H H' → Q .non H'
theorem tmp_okP : okP [tmp] := ⟨by decide, fun n hn => by rw [List.mem_singleton.mp hn]; exact tmp_ok⟩
theorem ok_lacking {c : Ct} (T : TxD c) : Has c "lacking" 7 (spLack c) := by
  obtain ⟨f, fd, m, F⟩ := T.lacking
  obtain ⟨fN, mN, kN, GN⟩ := ok_asked T
  obtain ⟨fT, mT, kT, GT⟩ := ok_parts_of T.toTxW
  obtain ⟨fG, MG, GG⟩ := ok_Hgr T.toTxH
  obtain ⟨pk, gk, fdk, psk, Pk, Gk, bk⟩ := pr_Nkind T.toTxN
  have Ck := T.clN.cl
  have CG := T.clH.cl
  have C := T.clH
  refine Has.mk m F (ps := ["house", "user", "path"]) (okD F sc_lacking ?_ ?_) (fun _ _ _ _ _ _ us hl => match us, hl with | [_, _, _], _ => rfl)
  · rintro vs H Q E ⟨_, _, _, _, _, _, _, _, _, _, rfl, _, _, rfl, _⟩
    rfl
  · rintro cdv A outer s H vs Q E hr ⟨h, p, j, us, st, L, k, D, u, _, rfl, X, hu, rfl, K⟩
    refine ⟨_, pss_cons (ps_expr (pe_cR GN hr (by decide) kN rfl mN (pa_cons (pv 0) (pa_cons (pv 1) (pa_cons (pv 2) pa_nil))))) (pss_cons (ps_par (i := 3) (j := 4) (by rfl) sc_lacking.nd rfl rfl (by decide) rfl rfl (pa_cons (pe_ix ix_tup (pe_fld (pv 0) rfl) pe_int (fun _ _ => rfl)) (pa_cons (pe_str) pa_nil)) (by rfl)) (pss_cons (ps_for PassesOwn.never rfl (pi_list (pe_cR GT hr (by decide) kT rfl mT (pa_cons (pv 2) pa_nil))) (pg_name (i := 5) sc_lacking.nd rfl (Or.inl rfl)) (pss_cons (ps_if (pt_cmpR op_eq (pe_prop (pe_dget (hu_of hr) (pv 3) (pv 4) (fun _ _ => rfl)) Ck Pk Gk (hr.mono (by decide)) bk .nil pass0 (by rfl)) pe_str (nomark _)) pss_never pss_nil) (pss_cons (ps_if (pt_not (pt_val (pe_mR CG MG GG hr (by decide) (pv 0) (pa_cons (pv 1) (pa_cons (pv 4) (pa_cons (pe_str) pa_nil)))))) pss_never pss_nil) (pss_cons (ps_set (i := 4) sc_lacking.nd rfl (Or.inl rfl) (pe_ifExp (pt_cmpR op_eq (pv 4) pe_str (nomark _)) (pe_joined (.cons pe_str (.cons (pe_fmt (pv 5)) .nil))) pe_never)) (pss_one (ps_if (pt_cmp (pc_dnotin (hu_of hr) (pv 4) (pv 3))) pss_never pss_nil)))))) (pss_one (ps_ret pe_non)))), ?_⟩
    obtain ⟨a0, m0⟩ := X.lo.g0
    obtain ⟨a1, m1⟩ := X.lo.g1
    refine ⟨_, rfl, _, rfl, _, rfl, h, p, j, us, st, L, k, D, u, _, rfl, X, hu, [tmp], rfl, tmp_okP, fun H1 s1 => ?_⟩
    have X1 := X.same s1
    obtain ⟨dx, eh⟩ := X1.ho
    have X1' := X1
    obtain ⟨nd, um, est, end', eum, hN, hg0, hg1⟩ := X1.sa
    refine ⟨_, rfl, h, c.cH, dx, _, _, rfl, eh, C.cl, C.nf _ (by decide), rfl, st, _, _, _, rfl, rfl, SqT.of est, rfl, _, _, rfl, ?_⟩
    refine ⟨_, rfl, [tmp], rfl, tmp_okP, fun H2 l s2 n2 e2 => ⟨l, rfl, ⟨_, SqL.of e2⟩, ?_⟩⟩
    refine for_it (walk_list (xs := psV [tmp])) (fun i σ' H3 => Same H2 H3 ∧ ∃ y4 y5, σ' = [some (.ref h), some (.str (S u)), some (.str (pS [tmp])), some (.ref nd), y4, y5] ∧ (i = 0 → y4 = some (.str (pS [])))) ⟨fun _ _ e => e, _, _, rfl, fun _ => rfl⟩ (fun i σ' H3 _ z => SqL.of (z.1 _ _ e2)) ?_ ?_
    · rintro i x σ' H3 H4 hi ⟨sm, y4, y5, rfl, h4⟩ ⟨rfl, ex⟩
      have hi1 : i < 1 := hi
      obtain rfl : i = 0 := by omega
      obtain rfl := h4 rfl
      cases ex
      have s3 : Same H1 H4 := s2.trans sm
      have X4 := X1'.same s3
      obtain ⟨acc, ⟨dn, d0, b, en, ed⟩, al⟩ := hg0 a0 m0
      have hv := nodes_val X.lo.nd (fun x hx => X.lo.okp hx) m0
      have hv1 := nodes_val X.lo.nd (fun x hx => X.lo.okp hx) m1
      refine ⟨_, rfl, _, rfl, nd, _, rfl, by rw [← hv]; exact DGet.k (k := Sum.inr (pS [])) (s3 _ _ end'), a0, dn, _, rfl, s3 _ _ en, a0, dn, 0, d0, _, _, rfl, s3 _ _ en, s3 _ _ ed, kT_key _ _ _ _ _, rfl, _, rfl, iteN (by decide) ?_⟩
      refine ⟨_, rfl, h, dx, _, rfl, s3 _ _ eh, rfl, _, rfl, _, rfl, h, p, j, us, st, L, k, D, _, rfl, X4, u, [], 1, rfl, hu, .inl ⟨rfl, rfl⟩, fun H5 s5 => ⟨_, rfl, iteN rfl ?_⟩⟩
      refine ⟨_, rfl, rfl, _, rfl, iteY (by decide) ?_⟩
      refine ⟨_, rfl, smL (by decide), _, rfl, .inl ⟨_, rfl, smL (by decide), _, rfl, smL (by decide), ?_⟩⟩
      refine ⟨_, rfl, _, rfl, nd, _, rfl, DGet.k (k := Sum.inr (pS [tmp])) (s5 _ _ (s3 _ _ end')), _, rfl, iteN (by rw [hv1]; rfl) ?_⟩
      exact ⟨sm.trans s5, _, _, rfl, fun z => absurd z (by decide)⟩
    · rintro σ' H3 ⟨sm, _⟩
      exact K _ (s1.trans (s2.trans sm))
def spWay (c : Ct) : Sp := spLack c
theorem ok_way {c : Ct} (T : TxD c) : Has c "need_way" 8 (spLack c) := by
  obtain ⟨f, fd, m, F⟩ := T.need_way
  obtain ⟨fN, mN, kN, GN⟩ := ok_lacking T
  refine Has.mk m F (ps := ["house", "user", "path"]) (okD F sc_need_way ?_ ?_) (fun _ _ _ _ _ _ us hl => match us, hl with | [_, _, _], _ => rfl)
  · rintro vs H Q E ⟨_, _, _, _, _, _, _, _, _, _, rfl, _, _, rfl, _⟩
    rfl
  · rintro cdv A outer s H vs Q E hr ⟨h, p, j, us, st, L, k, D, u, _, rfl, X, hu, rfl, K⟩
    refine ⟨_, pss_cons (ps_set (i := 3) sc_need_way.nd rfl (Or.inl rfl) (pe_cR GN hr (by decide) kN rfl mN (pa_cons (pv 0) (pa_cons (pv 1) (pa_cons (pv 2) pa_nil))))) (pss_cons (ps_if (pt_cmpR op_isN (pv 3) pe_non (nomark _)) (pss_one ps_retN) pss_nil) pss_never), ?_⟩
    refine ⟨_, rfl, _, rfl, _, rfl, h, p, j, us, st, L, k, D, u, _, rfl, X, hu, rfl, fun H1 s1 => ?_⟩
    exact ⟨_, rfl, rfl, _, rfl, iteY rfl (K _ s1)⟩
def spGranted (c : Ct) : Sp := spU c fun h p j us st L k D u rest H Q => rest = [.str (pS [tmp]), .str (wT 3)] ∧ ∀ H', Same H H' → Q .non H'
theorem ok_granted {c : Ct} (T : TxD c) : Has c "need_granted" 7 (spGranted c) := by
  obtain ⟨f, fd, m, F⟩ := T.need_granted
  obtain ⟨fG, MG, GG⟩ := ok_Hgr T.toTxH
  have CG := T.clH.cl
  refine Has.mk m F (ps := ["house", "user", "path", "letters"]) (okD F sc_need_granted ?_ ?_) (fun _ _ _ _ _ _ us hl => match us, hl with | [_, _, _, _], _ => rfl)
  · rintro vs H Q E ⟨_, _, _, _, _, _, _, _, _, _, rfl, _, _, rfl, _⟩
    rfl
  · rintro cdv A outer s H vs Q E hr ⟨h, p, j, us, st, L, k, D, u, _, rfl, X, hu, rfl, K⟩
    refine ⟨_, pss_one (ps_if (pt_not (pt_val (pe_mR CG MG GG hr (by decide) (pv 0) (pa_cons (pv 1) (pa_cons (pv 2) (pa_cons (pv 3) pa_nil)))))) pss_never pss_nil), ?_⟩
    obtain ⟨dx, eh⟩ := X.ho
    exact ⟨_, rfl, h, dx, _, rfl, eh, rfl, _, rfl, _, rfl, _, rfl, h, p, j, us, st, L, k, D, _, rfl, X, u, [tmp], 3, rfl, hu, .inr ⟨rfl, rfl⟩, fun H1 s1 => ⟨_, rfl, iteN rfl (K _ s1)⟩⟩
def spDPlace (c : Ct) : Sp := spU c fun h p j us st L k D u rest H Q => ∃ n, rest = [.str (pS ([tmp] ++ [n]))] ∧ okN n ∧ [tmp] ++ [n] ∉ L.map (·.1) ∧ ∀ H', Same H H' → Q .non H'
theorem tmpn_ok {n : List Nat} (h : okN n) : okP ([tmp] ++ [n]) := ⟨show 2 ≤ 100 by decide, fun m hm => by
  rcases List.mem_append.mp hm with hm | hm
  · rw [List.mem_singleton.mp hm]; exact tmp_ok
  · rw [List.mem_singleton.mp hm]; exact h⟩
theorem ok_dplace {c : Ct} (T : TxD c) : Has c "need_place" 9 (spDPlace c) := by
  obtain ⟨f, fd, m, F⟩ := T.need_place
  obtain ⟨fA, mA, kA, GA⟩ := ok_above T.toTxW
  obtain ⟨fW, mW, kW, GW⟩ := ok_way T
  obtain ⟨fG, mG, kG, GG⟩ := ok_granted T
  obtain ⟨fF, MF, GF⟩ := ok_Hfol T.toTxH
  obtain ⟨gC, c1, c2, GC⟩ := ok_Hcontains T.toTxH
  have CF := T.clH.cl
  refine Has.mk m F (ps := ["house", "user", "path"]) (okD F sc_d_need_place ?_ ?_) (fun _ _ _ _ _ _ us hl => match us, hl with | [_, _, _], _ => rfl)
  · rintro vs H Q E ⟨_, _, _, _, _, _, _, _, _, _, rfl, _, _, _, rfl, _⟩
    rfl
  · rintro cdv A outer s H vs Q E hr ⟨h, p, j, us, st, L, k, D, u, _, rfl, X, hu, n, rfl, hn, hnew, K⟩
    refine ⟨_, pss_cons (ps_set (i := 3) sc_d_need_place.nd rfl (Or.inl rfl) (pe_cR GA hr (by decide) kA rfl mA (pa_cons (pv 2) pa_nil))) (pss_cons (ps_if (pt_cmpR op_isN (pv 3) pe_non (nomark _)) pss_never pss_nil) (pss_cons (ps_expr (pe_cR GW hr (by decide) kW rfl mW (pa_cons (pv 0) (pa_cons (pv 1) (pa_cons (pv 3) pa_nil))))) (pss_cons (ps_expr (pe_mR CF MF GF hr (by decide) (pv 0) (pa_cons (pv 3) pa_nil))) (pss_cons (ps_expr (pe_cR GG hr (by decide) kG rfl mG (pa_cons (pv 0) (pa_cons (pv 1) (pa_cons (pv 3) (pa_cons (pe_str) pa_nil)))))) (pss_one (ps_if (pt_cmpR (op_ownInX c1 c2 GC hr (by decide)) (pv 2) (pv 0) rfl) pss_never pss_nil)))))), ?_⟩
    obtain ⟨a1, m1⟩ := X.lo.g1
    refine ⟨_, rfl, [tmp], n, rfl, tmpn_ok hn, fun H1 s1 => ?_⟩
    refine ⟨_, rfl, rfl, _, rfl, iteN rfl ?_⟩
    refine ⟨_, rfl, _, rfl, _, rfl, h, p, j, us, st, L, k, D, u, _, rfl, X.same s1, hu, rfl, fun H2 s2 => ?_⟩
    have X2 := (X.same s1).same s2
    obtain ⟨dx, eh⟩ := X2.ho
    refine ⟨_, rfl, h, dx, _, rfl, eh, rfl, _, rfl, h, p, j, us, st, L, k, D, _, rfl, X2, [tmp], rfl, List.mem_map.mpr ⟨_, m1, rfl⟩, rfl, fun H3 s3 => ?_⟩
    have X3 := X2.same s3
    refine ⟨_, rfl, _, rfl, _, rfl, h, p, j, us, st, L, k, D, u, _, rfl, X3, hu, rfl, fun H4 s4 => ?_⟩
    have X4 := X3.same s4
    refine ⟨_, rfl, _, rfl, h, dx, _, rfl, s4 _ _ (s3 _ _ eh), h, p, j, us, st, L, k, D, _, rfl, X4, [tmp] ++ [n], rfl, tmpn_ok hn, fun H5 s5 => ⟨_, rfl, _, rfl, iteN (decide_eq_false hnew) (K _ ?_)⟩⟩
    exact s1.trans (s2.trans (s3.trans (s4.trans s5)))
end K37
end
section
set_option Elab.async false
set_option linter.all false
set_option maxRecDepth 100000
set_option maxHeartbeats 4000000
/-! K3r: the deeds themselves. -/
namespace K37
open PySem PySem.Spec PyProof.Rows L2 StX ClX SX
open C8 (sl_txt rSlX pss_cut tCut)
/-- a node made by a deed in /tmp -/
def spMk (c : Ct) (kd : Bool → List V) : Sp := spU c fun h p j us st L k D u rest H Q => ∃ n o g t, rest = .str (pS ([tmp] ++ [n])) :: (kd (isF ([tmp] ++ [n])) ++ [.str (oT o g t)]) ∧ okN n ∧ [tmp] ++ [n] ∉ L.map (·.1) ∧ o < 8 ∧ g < 8 ∧ t < 8 ∧
  ∀ H' st' a, SameX h H H' → HoAt c H' h p j st' → StAt c H' us st' (L ++ [([tmp] ++ [n], k, a)]) (k + 1) → Q .non H'
theorem ok_make {c : Ct} (T : TxD c) : Has c "make" 10 (spMk c fun b => [.str (kT b)]) := by
  obtain ⟨f, fd, m, F⟩ := T.make
  obtain ⟨fP, mP, kP, GP⟩ := ok_dplace T
  obtain ⟨fA, mA, kA, GA⟩ := ok_above T.toTxW
  obtain ⟨gI, i1, i2, i3, GI⟩ := ok_Hgetitem T.toTxH
  obtain ⟨fW, mW, kW, GW⟩ := ok_without T.toTxL
  obtain ⟨mcL, pL, fL, CRL, CML, GL⟩ := ok_plain T.toTxL
  obtain ⟨fU, MU, GU⟩ := ok_Humask T.toTxH
  obtain ⟨fN, mN, kN, GN⟩ := ok_new T.toTxN
  obtain ⟨fF, MF, GF⟩ := ok_Pfirst T.toTxP
  obtain ⟨fV, MV, GV⟩ := ok_with T.toTxN
  obtain ⟨fT, MT, GT⟩ := ok_Hput T.toTxH
  obtain ⟨ps, gs, fds, pss, Ps, Gs, bs⟩ := pr_Npasses T.toTxN
  obtain ⟨pd, gd, fdd, psd, Pd, Gd, bd⟩ := pr_Ndefault T.toTxN
  obtain ⟨pp, gp, fdp, psp, Pp, Gp, bp⟩ := pr_Hpeople T.toTxH
  have Cs := T.clN.cl
  have Cd := T.clN.cl
  have Cp := T.clH.cl
  have CU := T.clH.cl
  have CF := T.clP.cl
  have CV := T.clN.cl
  have CT := T.clH.cl
  have C := T.clH
  refine Has.mk m F (ps := ["house", "user", "path", "kind", "digits"]) (okD F sc_make ?_ ?_) (fun _ _ _ _ _ _ us hl => match us, hl with | [_, _, _, _, _], _ => rfl)
  · rintro vs H Q E ⟨_, _, _, _, _, _, _, _, _, _, rfl, _, _, _, _, _, _, rfl, _⟩
    rfl
  · rintro cdv A outer s H vs Q E hr ⟨h, p, j, us, st, L, k, D, u, _, rfl, X, hu, n, d1, d2, d3, rfl, hn, hnew, hd1, hd2, hd3, K⟩
    refine ⟨_, pss_cons (ps_expr (pe_cR GP hr (by decide) kP rfl mP (pa_cons (pv 0) (pa_cons (pv 1) (pa_cons (pv 2) pa_nil))))) (pss_cons (ps_set (i := 5) sc_make.nd rfl (Or.inl rfl) (pe_ownItem i1 i2 i3 GI hr (by decide) (pv 0) (pe_cR GA hr (by decide) kA rfl mA (pa_cons (pv 2) pa_nil)))) (pss_cons (ps_set (i := 6) sc_make.nd rfl (Or.inl rfl) (pe_ifExp (pt_val (pe_prop (pv 5) Cs Ps Gs (hr.mono (by decide)) bs .nil pass0 (by rfl))) pe_never (pe_mR CF MF GF hr (by decide) (pe_prop (pv 0) Cp Pp Gp (hr.mono (by decide)) bp .nil pass0 (by rfl)) (pa_cons (pv 1) pa_nil)))) (pss_cons (ps_set (i := 7) sc_make.nd rfl (Or.inl rfl) (pe_cmR CRL CML GL hr (by decide) (pe_glob (v := .ref c.cA) rfl T.clA.mg rfl) (pa_cons (pe_cR GW hr (by decide) kW rfl mW (pa_cons (pv 4) (pa_cons (pe_mR CU MU GU hr (by decide) (pv 0) (pa_cons (pv 1) pa_nil)) pa_nil))) pa_nil))) (pss_cons (ps_if (pt_cmpR op_notN (pe_prop (pv 5) Cd Pd Gd (hr.mono (by decide)) bd .nil pass0 (by rfl)) pe_non (nomark _)) pss_never pss_nil) (pss_cons (ps_set (i := 8) sc_make.nd rfl (Or.inl rfl) (pe_cR GN hr (by decide) kN rfl mN (pa_cons (pe_ix ix_tup (pe_fld (pv 0) rfl) pe_int (fun _ _ => rfl)) (pa_cons (pv 3) (pa_cons (pv 1) (pa_cons (pv 6) (pa_cons (pv 7) pa_nil))))))) (pss_cut (ps_if (pt_cmpR op_eq (pv 3) pe_str (nomark _)) (pss_one (ps_set (i := 8) sc_make.nd rfl (Or.inl rfl) (pe_mR CV MV GV hr (by decide) (pe_mR CV MV GV hr (by decide) (pv 8) (pa_cons (pe_str) (pa_cons (pe_prop (pv 5) Cs Ps Gs (hr.mono (by decide)) bs .nil pass0 (by rfl)) pa_nil))) (pa_cons (pe_str) (pa_cons (pe_prop (pv 5) Cd Pd Gd (hr.mono (by decide)) bd .nil pass0 (by rfl)) pa_nil))))) pss_nil) (pss_one (ps_expr (pe_mR CT MT GT hr (by decide) (pv 0) (pa_cons (pv 2) (pa_cons (pv 8) pa_nil))))))))))), ?_⟩
    obtain ⟨a1, m1⟩ := X.lo.g1
    refine ⟨_, rfl, _, rfl, _, rfl, h, p, j, us, st, L, k, D, u, _, rfl, X, hu, n, rfl, hn, hnew, fun H1 s1 => ?_⟩
    refine ⟨_, rfl, _, rfl, [tmp], n, rfl, tmpn_ok hn, fun H2 s2 => ?_⟩
    have s12 := s1.trans s2
    have X2 := X.same s12
    obtain ⟨dx, eh⟩ := X2.ho
    refine ⟨h, dx, _, rfl, eh, h, p, j, us, st, L, k, D, _, rfl, X2, [tmp], 1, a1, rfl, m1, fun H3 s3 => ?_⟩
    have X3 := X2.same s3
    have eh3 := s3 _ _ eh
    obtain ⟨nd, um, est, end', eum, hN, hg0, hg1⟩ := X3.sa
    obtain ⟨acc1, ⟨dn, d0, b1, en, ed⟩, al1⟩ := hg1 a1 m1
    obtain ⟨dp, mm, gg, kvs, ep, _⟩ := X3.pe
    refine ⟨_, rfl, a1, dn, _, rfl, en, a1, dn, 1, d0, _, _, rfl, en, ed, rfl, _, rfl, iteN rfl ?_⟩
    refine ⟨_, rfl, h, dx, _, rfl, eh3, h, dx, _, _, rfl, eh3, rfl, p, dp, _, rfl, ep, rfl, _, rfl, p, us, u, rfl, X3.pe, hu, fun H4 g4 s4 => ?_⟩
    have X4 := X3.same s4
    refine ⟨rfl, _, rfl, _, rfl, h, dx, _, rfl, s4 _ _ eh3, rfl, _, rfl, h, p, j, us, st, L, k, D, _, rfl, X4, u, rfl, hu, fun H5 s5 => ?_⟩
    refine ⟨d1, d2, d3, 0, 2, 2, rfl, hd1, hd2, hd3, by decide, by decide, by decide, fun H6 s6 => ?_⟩
    refine ⟨_, _, _, rfl, (sub_fact d1 hd1 0 (by decide)).2, (sub_fact d2 hd2 2 (by decide)).2, (sub_fact d3 hd3 2 (by decide)).2, fun H7 acc s7 n7 al => ?_⟩
    have s37 : Same H3 H7 := s4.trans (s5.trans (s6.trans s7))
    refine ⟨_, rfl, a1, dn, _, rfl, s37 _ _ en, a1, dn, 1, d0, _, _, rfl, s37 _ _ en, s37 _ _ ed, rfl, rfl, _, rfl, iteN rfl ?_⟩
    have eh7 := s37 _ _ eh3
    have est7 := s37 _ _ est
    refine ⟨_, rfl, h, c.cH, dx, _, _, rfl, eh7, C.cl, C.nf _ (by decide), rfl, st, _, _, _, rfl, rfl, SqT.of est7, rfl, _, rfl, _, rfl, _, rfl, _, rfl, k, isF ([tmp] ++ [n]), _, _, acc, rfl, fun H8 a s8 n8 nda => ?_⟩
    have s38 := s37.trans s8
    refine ⟨fun σ' H' => ∃ a', σ' = [some (.ref h), some (.str (S u)), some (.str (pS ([tmp] ++ [n]))), some (.str (kT (isF ([tmp] ++ [n])))), some (.str (oT d1 d2 d3)), some (.ref a1), some (.str g4), some (.ref acc), some (.ref a')] ∧ Same H8 H' ∧ NdAt c H' a' k (isF ([tmp] ++ [n])) (S u) g4 acc, ?_, ?_⟩
    · obtain ⟨dd, d', b, f1, f2⟩ := nda
      refine ⟨_, rfl, rfl, _, rfl, ?_⟩
      cases hF : isF ([tmp] ++ [n]) with
      | true =>
        rw [hF] at f2
        exact iteN (by decide) ⟨a, rfl, fun _ _ e => e, dd, d', b, f1, f2⟩
      | false =>
        rw [hF] at f2
        refine iteY (by decide) ?_
        refine ⟨_, rfl, a, dd, _, rfl, f1, rfl, _, rfl, a1, dn, _, rfl, s38 _ _ en, a1, dn, 1, d0, _, _, rfl, s38 _ _ en, s38 _ _ ed, rfl, a, "passes", _, dd, k, d', _, rfl, f1, f2, by exact (by decide : (8 : Nat) ≤ 15), fun H9 x dx9 d9 s9 n9 e1 e2 => ?_⟩
        rw [merge_passes] at e2
        have s39 := s38.trans s9
        refine ⟨x, dx9, _, rfl, e1, rfl, _, rfl, a1, dn, _, rfl, s39 _ _ en, a1, dn, 1, d0, _, _, rfl, s39 _ _ en, s39 _ _ ed, rfl, x, "default", _, dx9, k, d9, _, rfl, e1, e2, by exact (by decide : (8 : Nat) ≤ 15), fun H10 y dx10 d10 s10 n10 e3 e4 => ?_⟩
        rw [merge_default] at e4
        exact ⟨y, rfl, s9.trans s10, dx10, d10, b, e3, e4⟩
    rintro _ H9 ⟨a', rfl, s9, nd9⟩
    have s09 : Same H H9 := s12.trans (s3.trans (s38.trans s9))
    refine ⟨_, rfl, h, dx, _, rfl, s9 _ _ (s8 _ _ eh7), rfl, _, rfl, _, rfl, h, p, j, us, st, L, k, D, _, rfl, X.same s09, [tmp] ++ [n], a', _, _, acc, rfl, tmpn_ok hn, hnew, nd9, fun H' st' sx ho sa => ?_⟩
    exact K H' st' a' (s09.toX.trans sx) ho sa
def spDo (c : Ct) (f : Bool) : Sp := spU c fun h p j us st L k D u rest H Q => ∃ n o g t, rest = [.str (pS ([tmp] ++ [n])), .str (oT o g t)] ∧ isF ([tmp] ++ [n]) = f ∧ okN n ∧ [tmp] ++ [n] ∉ L.map (·.1) ∧ o < 8 ∧ g < 8 ∧ t < 8 ∧
  ∀ H' st' a, SameX h H H' → HoAt c H' h p j st' → StAt c H' us st' (L ++ [([tmp] ++ [n], k, a)]) (k + 1) → Q .non H'
theorem ok_do_file {c : Ct} (T : TxD c) : Has c "do_file" 11 (spDo c true) := by
  obtain ⟨f, fd, m, F⟩ := T.do_file
  obtain ⟨fM, mM, kM, GM⟩ := ok_make T
  refine Has.mk m F (ps := ["house", "user", "path", "digits"]) (okD F sc_do_file ?_ ?_) (fun _ _ _ _ _ _ us hl => match us, hl with | [_, _, _, _], _ => rfl)
  · rintro vs H Q E ⟨_, _, _, _, _, _, _, _, _, _, rfl, _, _, _, _, _, _, rfl, _⟩
    rfl
  · rintro cdv A outer s H vs Q E hr ⟨h, p, j, us, st, L, k, D, u, _, rfl, X, hu, n, d1, d2, d3, rfl, hF, z⟩
    exact ⟨_, pss_one (ps_expr (pe_cR GM hr (by decide) kM rfl mM (pa_cons (pv 0) (pa_cons (pv 1) (pa_cons (pv 2) (pa_cons (pe_str) (pa_cons (pv 3) pa_nil))))))), _, rfl, _, rfl, _, rfl, _, rfl, h, p, j, us, st, L, k, D, u, _, rfl, X, hu, n, d1, d2, d3, by rw [hF]; rfl, z⟩
theorem ok_do_folder {c : Ct} (T : TxD c) : Has c "do_folder" 11 (spDo c false) := by
  obtain ⟨f, fd, m, F⟩ := T.do_folder
  obtain ⟨fM, mM, kM, GM⟩ := ok_make T
  refine Has.mk m F (ps := ["house", "user", "path", "digits"]) (okD F sc_do_folder ?_ ?_) (fun _ _ _ _ _ _ us hl => match us, hl with | [_, _, _, _], _ => rfl)
  · rintro vs H Q E ⟨_, _, _, _, _, _, _, _, _, _, rfl, _, _, _, _, _, _, rfl, _⟩
    rfl
  · rintro cdv A outer s H vs Q E hr ⟨h, p, j, us, st, L, k, D, u, _, rfl, X, hu, n, d1, d2, d3, rfl, hF, z⟩
    exact ⟨_, pss_one (ps_expr (pe_cR GM hr (by decide) kM rfl mM (pa_cons (pv 0) (pa_cons (pv 1) (pa_cons (pv 2) (pa_cons (pe_str) (pa_cons (pv 3) pa_nil))))))), _, rfl, _, rfl, _, rfl, _, rfl, h, p, j, us, st, L, k, D, u, _, rfl, X, hu, n, d1, d2, d3, by rw [hF]; rfl, z⟩
end K37
end
section
set_option Elab.async false
set_option linter.all false
set_option maxRecDepth 100000
set_option maxHeartbeats 4000000
/-! K3s: do. -/
namespace K37
open PySem PySem.Spec PyProof.Rows L2 StX ClX SX
open C8 (sl_txt rSlX pss_cut tCut)
open RZ (ItzT pi_zipA)
def spFolk : Sp := fun vs H Q _ => ∃ u, vs = [.str (S u)] ∧ okN u ∧ u ≠ root ∧ ∀ H', Same H H' → Q (.bl true) H'
theorem ok_folk {c : Ct} (T : TxP c) : Has c "is_folk" 2 spFolk := by
  obtain ⟨f, fd, m, F⟩ := T.is_folk
  obtain ⟨fN, mN, kN, GN⟩ := ok_is_name T.toTxW
  obtain ⟨tR, eR⟩ := T.nob
  refine Has.mk m F (ps := ["value"]) (okD F sc_is_folk ?_ ?_) (fun _ _ _ _ _ _ us hl => match us, hl with | [_], _ => rfl)
  · rintro vs H Q E ⟨_, rfl, _⟩
    rfl
  · rintro cdv A outer s H vs Q E hr ⟨u, rfl, hu, hr', K⟩
    refine ⟨_, pss_one (ps_ret (pe_and (pe_cR GN hr (by decide) kN rfl mN (pa_cons (pv 0) pa_nil)) (pe_one (pe_cmpR op_ne (pv 0) (pe_glob (v := .str "root") rfl eR ⟨_, rfl⟩) (nomark _))))), ?_⟩
    refine ⟨_, rfl, u, rfl, hu, fun H1 s1 => ⟨_, rfl, iteY rfl ⟨_, rfl, rfl, ?_⟩⟩⟩
    rw [root_ne hr']
    exact K _ s1
def spNeedHouse (c : Ct) : Sp := spH c fun h p j us st L k D rest H Q => rest = [] ∧ Q .non H
theorem ok_need_house {c : Ct} (T : TxD c) : Has c "need_house" 1 (spNeedHouse c) := by
  obtain ⟨f, fd, m, F⟩ := T.need_house
  refine Has.mk m F (ps := ["house"]) (okD F sc_need_house ?_ ?_) (fun _ _ _ _ _ _ us hl => match us, hl with | [_], _ => rfl)
  · rintro vs H Q E ⟨_, _, _, _, _, _, _, _, _, rfl, _, rfl, _⟩
    rfl
  · rintro cdv A outer s H vs Q E hr ⟨h, p, j, us, st, L, k, D, _, rfl, X, rfl, K⟩
    refine ⟨_, pss_one (ps_if (pt_not (pt_val (pe_callB call_isi rfl T.isin boot_isinstance (pa_cons (pv 0) (pa_cons ((pe_glob (v := .ref c.cH) rfl T.clH.mg rfl)) pa_nil))))) pss_never pss_nil), ?_⟩
    obtain ⟨dx, eh⟩ := X.ho
    exact ⟨_, rfl, _, _, _, _, true, rfl, .own _, tyOf T.clH eh, kit_same, true, rfl, iteN rfl K⟩
theorem walk_zipT {K : PySem.W.Frag} {a b : Addr} {xs ys : List V} (hl : xs.length = ys.length) : Walk (ItzT K a b) xs.length (fun H => SqT K H a xs ∧ SqT K H b ys) (YPair (fun i => xs[i]?) (fun i => ys[i]?)) := by
  refine ⟨fun i _ hi q => ?_, fun _ q => ⟨xs, ys, q.1, q.2, .inl (Nat.le_refl _)⟩, fun i H v H' _ q y => ?_⟩
  · exact ⟨xs, ys, xs[i], ys[i]'(hl ▸ hi), q.1, q.2, List.getElem?_eq_getElem hi, List.getElem?_eq_getElem (hl ▸ hi)⟩
  · obtain ⟨t, x, z, e1, e2, e3, e4, e5⟩ := y
    exact ⟨t, x, z, e1, e2, e3, e4 xs q.1, e5 ys q.2⟩
def dvV (u : List Nat) (b : Bool) (q : Pa) (o g t : Nat) : List V := [.str (S u), .str (kT b), .str (pS q), .str (oT o g t)]
def spDeed : Sp := fun vs H Q _ => ∃ t u b q d1 d2 d3, vs = [.ref t] ∧ H t = some (.tup (dvV u b q d1 d2 d3)) ∧ okN u ∧ u ≠ root ∧ okP q ∧ d1 < 8 ∧ d2 < 8 ∧ d3 < 8 ∧ ∀ H', Same H H' → Q (.bl true) H'
/-- one of two tests -/
def spTest (fp fg f : Addr) : Sp := fun vs H Q E => (f = fp ∧ spIsPath vs H Q E) ∨ (f = fg ∧ spIsDigits vs H Q E)
theorem tests {c : Ct} {fp fg : Addr} (Fp : FnR c.P c.w c.K c.mg c.base CX0 2 fp spIsPath) (Fg : FnR c.P c.w c.K c.mg c.base CX0 2 fg spIsDigits) (kp : PySem.W.keepIn c.K (.ref fp) = true) (kg : PySem.W.keepIn c.K (.ref fg) = true) :
    ∀ f sp, (if f = fp ∨ f = fg then some (spTest fp fg f) else none) = some sp → FnR c.P c.w c.K c.mg c.base CX0 2 f sp ∧ PySem.W.keepIn c.K (.ref f) = true := by
  intro f sp h
  by_cases hf : f = fp ∨ f = fg
  · rw [if_pos hf] at h
    cases h
    refine ⟨fun A outer s H us vs Q E hr e0 r hs => ?_, ?_⟩
    · rcases hs with ⟨rfl, hs⟩ | ⟨rfl, hs⟩
      · exact Fp A outer s H us vs Q E hr e0 r hs
      · exact Fg A outer s H us vs Q E hr e0 r hs
    · rcases hf with rfl | rfl
      · exact kp
      · exact kg
  · rw [if_neg hf] at h
    cases h
theorem ok_is_deed {c : Ct} (T : TxD c) : Has c "is_deed" 3 spDeed := by
  obtain ⟨f, fd, m, F⟩ := T.is_deed
  obtain ⟨fK, mK, kK, GK⟩ := ok_folk T.toTxP
  obtain ⟨dF, es, nF, eF, DF, fF⟩ := T.forms
  obtain ⟨fp', mp, kp, Gp⟩ := ok_is_path T.toTxW
  obtain ⟨fg', mg, kg, Gg⟩ := ok_is_digits T.toTxL
  refine Has.mk m F (ps := ["value"]) (okD F sc_is_deed ?_ ?_) (fun _ _ _ _ _ _ us hl => match us, hl with | [_], _ => rfl)
  · rintro vs H Q E ⟨_, _, _, _, _, _, _, rfl, _⟩
    rfl
  · rintro cdv A outer s H vs Q E hr ⟨t, u, b, q, d1, d2, d3, rfl, et, hu, hu', hq, h1, h2, h3, K⟩
    obtain ⟨tF, fp, fg, e1, SF, e2, e3⟩ := fF b
    obtain rfl : fp' = fp := by rw [mp] at e2; exact Value.ref.inj (Option.some.inj e2)
    obtain rfl : fg' = fg := by rw [mg] at e3; exact Value.ref.inj (Option.some.inj e3)
    have AA := tests Gp (Gg.mono (by decide)) kp kg
    refine ⟨_, pss_cons (ps_if (PW.pt (pw_or (pt_not (pt_val (pe_callB call_isi rfl T.isin boot_isinstance (pa_cons (pv 0) (pa_cons (pe_bltn (v := .ty "tuple") rfl T.tuple boot_tuple rfl) pa_nil))))) (pw_or (pt_cmpR op_lt (pe_callB call_len_seq rfl T.len PySem.boot_len (pa_cons (pv 0) pa_nil)) pe_int (nomark _)) (pw_or1 (pt_not (pt_val (pe_cR GK hr (by decide) kK rfl mK (pa_cons (pe_ix ix_tup (pv 0) pe_int (fun _ _ => rfl)) pa_nil)))))))) pss_never pss_nil) (pss_cons (ps_if (PW.pt (pw_or (pt_not (pt_val (pe_callB call_isi rfl T.isin boot_isinstance (pa_cons (pe_ix ix_tup (pv 0) pe_int (fun _ _ => rfl)) (pa_cons (pe_bltn (v := .ty "str") rfl T.str boot_str rfl) pa_nil))))) (pw_or1 (pt_cmpR (op_notIn_kd DF) (pe_ix ix_tup (pv 0) pe_int (fun _ _ => rfl)) (pe_glob (v := .ref dF) rfl eF rfl) rfl)))) pss_never pss_nil) (pss_cons (ps_set (i := 1) sc_is_deed.nd rfl (Or.inl rfl) (pe_ix ix_kdict (pe_glob (v := .ref dF) rfl eF rfl) (pe_ix ix_tup (pv 0) pe_int (fun _ _ => rfl)) (fun _ _ => rfl))) (pss_cons (ps_if (pt_cmpR op_ne (pe_callB call_len_seq rfl T.len PySem.boot_len (pa_cons (pv 0) pa_nil)) (pe_op op_add pe_int (pe_callB call_len_seq rfl T.len PySem.boot_len (pa_cons (pv 1) pa_nil))) (nomark _)) pss_never pss_nil) (pss_cons (ps_for PassesOwn.never rfl (pi_zipA rfl T.zip (pa_cons (pv 1) (pa_cons (pe_slice sl_tup (pv 0) (po_some pe_int) po_none) pa_nil))) (pg_tup rfl (pgs_cons (pg_name (i := 2) sc_is_deed.nd rfl (Or.inl rfl)) (pgs_cons (pg_name (i := 3) sc_is_deed.nd rfl (Or.inl rfl)) pgs_nil))) (pss_one (ps_if (pt_not (pt_val (pe_lo 2 AA hr (by decide) (pa_cons (pv 3) pa_nil)))) pss_never pss_nil))) (pss_one (ps_ret pe_bl)))))), ?_⟩
    refine ⟨_, rfl, _, _, _, _, true, rfl, .ty _, .base (.tup et), kit_ty (by decide +kernel), true, rfl, iteN rfl ?_⟩
    refine ⟨_, rfl, t, _, rfl, .inr (SqT.of et), _, _, rfl, rfl, _, rfl, iteN (show decide (((4 : Nat) : Int) < 3) = false by decide) ?_⟩
    refine ⟨_, rfl, t, _, _, _, rfl, rfl, SqT.of et, rfl, u, rfl, hu, hu', fun H1 s1 => ⟨_, rfl, iteN rfl ?_⟩⟩
    have et1 := s1 _ _ et
    refine ⟨_, rfl, t, _, _, _, rfl, rfl, SqT.of et1, rfl, _, _, _, _, true, rfl, .ty _, .base (.str _), kit_ty (by decide +kernel), true, rfl, iteN rfl ?_⟩
    refine ⟨_, rfl, t, _, _, _, rfl, rfl, SqT.of et1, rfl, _, _, rfl, rfl, e1, _, rfl, iteN rfl ?_⟩
    refine ⟨_, rfl, t, _, _, _, rfl, rfl, SqT.of et1, rfl, _, _, _, rfl, rfl, ⟨es, nF, _, DF.at_, DF.lit, e1, (show RelV (.ref tF) _ from rfl)⟩, ?_⟩
    refine ⟨_, rfl, t, _, rfl, .inr (SqT.of et1), _, rfl, tF, _, rfl, .inr (SF _), _, _, rfl, rfl, rfl, _, rfl, iteN (show (!decide (V.int ((4 : Nat) : Int) = V.int (2 + ((2 : Nat) : Int)))) = false by decide) ?_⟩
    refine ⟨_, rfl, _, rfl, 2, rfl, t, _, rfl, SqT.of et1, by show ¬ (2 = 0 ∧ _); omega, fun p np => ?_⟩
    refine ⟨tF, p, _, _, rfl, .inr ⟨SF _, SqT.of upd_same, ?_⟩⟩
    have et2 : (upd H1 p (.tup (cutV (dvV u b q d1 d2 d3) (some 2) none))) p = some (.tup [.str (pS q), .str (oT d1 d2 d3)]) := upd_same
    refine for_it (walk_zipT (xs := [.ref fp', .ref fg']) (ys := [.str (pS q), .str (oT d1 d2 d3)]) rfl) (fun i σ' H2 => ∃ y1 y2, σ' = [some (.ref t), some (.ref tF), y1, y2] ∧ Same (upd H1 p (.tup (cutV (dvV u b q d1 d2 d3) (some 2) none))) H2) ⟨none, none, rfl, fun _ _ e => e⟩ (fun i σ' H2 _ ⟨_, _, _, z⟩ => ⟨SF _, SqT.of (z _ _ et2)⟩) ?_ ?_
    · rintro i v σ' H2 H3 hi ⟨y1, y2, rfl, sm⟩ ⟨tt, x, y, rfl, nt, rfl, ex, ey⟩
      refine ⟨tt, _, rfl, SqT.of upd_same, rfl, _, _, rfl, _, _, rfl, rfl, ?_⟩
      have sT : Same H2 (upd H2 tt (.tup [x, y])) := same_upd nt
      match i, ex, ey with
      | 0, ex, ey =>
        obtain rfl : x = .ref fp' := (Option.some.inj ex).symm
        obtain rfl : y = .str (pS q) := (Option.some.inj ey).symm
        refine ⟨fp', _, rfl, if_pos (.inl rfl), _, rfl, .inl ⟨rfl, q, rfl, hq, fun H4 s4 => ⟨_, rfl, iteN rfl ⟨_, _, rfl, sm.trans (sT.trans s4)⟩⟩⟩⟩
      | 1, ex, ey =>
        obtain rfl : x = .ref fg' := (Option.some.inj ex).symm
        obtain rfl : y = .str (oT d1 d2 d3) := (Option.some.inj ey).symm
        refine ⟨fg', _, rfl, if_pos (.inr rfl), _, rfl, .inr ⟨rfl, d1, d2, d3, rfl, h1, h2, h3, fun H4 s4 => ⟨_, rfl, iteN rfl ⟨_, _, rfl, sm.trans (sT.trans s4)⟩⟩⟩⟩
      | i + 2, ex, ey => simp at ex
    · rintro σ' H2 ⟨y1, y2, rfl, sm⟩
      exact K _ (s1.trans ((same_upd np).trans sm))
/-- do(house, (user, word, path, digits)) -/
def spDoAny (c : Ct) : Sp := fun vs H Q _ => ∃ h p j us st L k D u n o g t d, vs = [.ref h, .ref d] ∧ H d = some (.tup (dvV u (isF ([tmp] ++ [n])) ([tmp] ++ [n]) o g t)) ∧ HSt c H h p j us st L k D ∧ u ∈ us ∧ okN n ∧ [tmp] ++ [n] ∉ L.map (·.1) ∧ o < 8 ∧ g < 8 ∧ t < 8 ∧
  ∀ H' st' a, SameX h H H' → HoAt c H' h p j st' → StAt c H' us st' (L ++ [([tmp] ++ [n], k, a)]) (k + 1) → Q .non H'
theorem ok_do {c : Ct} (T : TxD c) : Has c "do" 12 (spDoAny c) := by
  obtain ⟨f, fd, m, F⟩ := T.do_
  obtain ⟨fN, mN, kN, GN⟩ := ok_need_house T
  obtain ⟨fI, mI, kI, GI⟩ := ok_is_deed T
  obtain ⟨gC, c1, c2, GC⟩ := ok_Pcontains T.toTxP
  obtain ⟨pp, gp, fdp, psp, Pp, Gp, bp⟩ := pr_Hpeople T.toTxH
  obtain ⟨dD, es, nD, eD, DD, fD⟩ := T.deeds
  have Cp := T.clH.cl
  refine Has.mk m F (ps := ["house", "deed"]) (okD F sc_do ?_ ?_) (fun _ _ _ _ _ _ us hl => match us, hl with | [_, _], _ => rfl)
  · rintro vs H Q E ⟨_, _, _, _, _, _, _, _, _, _, _, _, _, _, rfl, _⟩
    rfl
  · rintro cdv A outer s H vs Q E hr ⟨h, p, j, us, st, L, k, D, u, n, d1, d2, d3, d, rfl, ed, X, hu, hn, hnew, h1, h2, h3, K⟩
    obtain ⟨g, e1, e2⟩ := fD (isF ([tmp] ++ [n]))
    have AA : ∀ f sp, (if f = g then some (spDo c (isF ([tmp] ++ [n]))) else none) = some sp → FnR c.P c.w c.K c.mg c.base CX0 11 f sp ∧ PySem.W.keepIn c.K (.ref f) = true := by
      intro f sp hf
      by_cases e : f = g
      · rw [if_pos e] at hf
        cases hf
        subst e
        cases hb : isF ([tmp] ++ [n]) with
        | true =>
          rw [hb] at e2
          obtain ⟨f', m', k', G'⟩ := ok_do_file T
          have e3 : f' = f := Value.ref.inj (Option.some.inj (m'.symm.trans e2))
          subst e3
          exact ⟨G', k'⟩
        | false =>
          rw [hb] at e2
          obtain ⟨f', m', k', G'⟩ := ok_do_folder T
          have e3 : f' = f := Value.ref.inj (Option.some.inj (m'.symm.trans e2))
          subst e3
          exact ⟨G', k'⟩
      · rw [if_neg e] at hf
        cases hf
    refine ⟨_, pss_cons (ps_expr (pe_cR GN hr (by decide) kN rfl mN (pa_cons (pv 0) pa_nil))) (pss_cons (ps_if (pt_not (pt_val (pe_cR GI hr (by decide) kI rfl mI (pa_cons (pv 1) pa_nil)))) pss_never pss_nil) (pss_cons (ps_asg (pv 1) (pg_star (n := 3) (i := 2) rfl (pgs_cons (pg_name (i := 2) sc_do.nd rfl (Or.inl rfl)) (pgs_cons (pg_name (i := 3) sc_do.nd rfl (Or.inl rfl)) (pgs_star (pg_name (i := 4) sc_do.nd rfl (Or.inl rfl)) pgs_nil))))) (pss_cons (ps_if (pt_cmpR (op_ownNotIn c1 c2 GC hr (by decide)) (pv 2) (pe_prop (pv 0) Cp Pp Gp (hr.mono (by decide)) bp .nil pass0 (by rfl)) rfl) pss_never pss_nil) (pss_cons (ps_set (i := 5) sc_do.nd rfl (Or.inl rfl) (pe_ix ix_kdict (pe_glob (v := .ref dD) rfl eD rfl) (pv 3) (fun _ _ => rfl))) (pss_one (ps_ret (pe_loS 5 AA hr (by decide) (pa_cons (pv 0) (pa_cons (pv 2) (pa_star (pv 4) pa_nil)))))))))), ?_⟩
    refine ⟨_, rfl, h, p, j, us, st, L, k, D, _, rfl, X, rfl, ?_⟩
    refine ⟨_, rfl, d, u, _, _, d1, d2, d3, rfl, ed, (X.us.2.2 u hu).1, (X.us.2.2 u hu).2, tmpn_ok hn, h1, h2, h3, fun H1 s1 => ⟨_, rfl, iteN rfl ?_⟩⟩
    have ed1 := s1 _ _ ed
    refine ⟨_, rfl, d, _, rfl, .inr (SqT.of ed1), by show (3 : Nat) ≤ 5; decide, by show (4 : Nat) ≤ 16384; decide, fun D0 nD0 => ?_⟩
    have s2 : Same H (upd H1 D0 (.lst [.str (pS ([tmp] ++ [n])), .str (oT d1 d2 d3)])) := same_new s1 (s1.none nD0)
    have X2 := X.same s2
    obtain ⟨dx, eh⟩ := X2.ho
    obtain ⟨dp, mm, gg, kvs, ep, _⟩ := X2.pe
    refine ⟨_, _, rfl, _, _, rfl, _, _, rfl, rfl, ?_⟩
    refine ⟨_, rfl, _, rfl, h, dx, _, rfl, eh, h, dx, _, _, rfl, eh, rfl, p, dp, _, rfl, ep, p, us, u, rfl, X2.pe, hu, fun H3 s3 => ⟨_, rfl, _, rfl, iteN rfl ?_⟩⟩
    refine ⟨_, rfl, _, _, _, rfl, rfl, ⟨es, nD, _, DD.at_, DD.lit, e1, (show RelV (.ref g) _ from rfl)⟩, ?_⟩
    have eL : H3 D0 = some (.lst [.str (pS ([tmp] ++ [n])), .str (oT d1 d2 d3)]) := s3 _ _ upd_same
    refine ⟨g, _, rfl, if_pos rfl, _, rfl, _, rfl, _, rfl, D0, _, rfl, .inr (SqL.of eL), h, p, j, us, st, L, k, D, u, _, rfl, X2.same s3, hu, n, d1, d2, d3, rfl, rfl, hn, hnew, h1, h2, h3, fun H' st' a sx ho sa => ?_⟩
    exact K H' st' a ((s2.trans s3).toX.trans sx) ho sa
end K37
end
section
set_option Elab.async false
set_option linter.all false
set_option maxRecDepth 100000
set_option maxHeartbeats 4000000
/-! L1: the law's own: numbers, marks. -/
namespace K37
open PySem PySem.Spec PyProof.Rows L2 StX ClX SX
open C8 (sl_txt rSlX pss_cut tCut)
structure TxZ (c : Ct) : Prop extends TxD c where
  l_cell : DefG c "_law_cell" "_law_cell" s_l_cell
  l_box : DefG c "_law_box" "_law_box" s_l_box
  l_take : DefG c "_law_take" "_law_take" s_l_take
  l_marks : DefG c "_law_marks" "_law_marks" s_l_marks
  l_below : DefG c "_law_below" "_law_below" s_l_below
  l_put : DefG c "_law_put" "_law_put" s_l_put
  l_shifted : DefG c "_law_shifted" "_law_shifted" s_l_shifted
  l_cut : DefG c "_law_cut" "_law_cut" s_l_cut
  l_turn : DefG c "_law_turn" "_law_turn" s_l_turn
  l_family_right : DefG c "_law_family_right" "_law_family_right" s_l_family_right
  law : DefG c "law" "law" s_law
def spCell (c : Ct) : Sp := fun vs H Q _ => ∃ (a : Addr) (ns : List Int) (k : Nat), vs = [.ref a, .int k] ∧ SqL c.K H a (ns.map V.int) ∧ ∀ x, Q (.int x) H
theorem ok_cell {c : Ct} (T : TxZ c) : Has c "_law_cell" 1 (spCell c) := by
  obtain ⟨f, fd, m, F⟩ := T.l_cell
  refine Has.mk m F (ps := ["_law_script", "_law_k"]) (okD F sc_l_cell ?_ ?_) (fun _ _ _ _ _ _ us hl => match us, hl with | [_, _], _ => rfl)
  · rintro vs H Q E ⟨_, _, _, rfl, _⟩
    rfl
  · rintro cdv A outer s H vs Q E hr ⟨a, ns, k, rfl, hS, K⟩
    refine ⟨_, pss_one (ps_ret (pe_ifExp (pt_cmpR op_lt (pv 1) (pe_callB call_len_seq rfl T.len PySem.boot_len (pa_cons (pv 0) pa_nil)) (nomark _)) (pe_ix ix_list (pv 0) (pv 1) (fun _ _ => rfl)) (pe_op op_add (pe_op op_mul pe_int (pv 1)) pe_int))), ?_⟩
    refine ⟨_, rfl, _, rfl, a, _, rfl, .inl hS, _, _, rfl, rfl, _, rfl, ?_⟩
    by_cases h : k < ns.length
    · refine iteY (decide_eq_true (by rw [List.length_map]; omega)) ?_
      have e : (ns.map V.int)[k]? = some (.int ns[k]) := by rw [List.getElem?_map, List.getElem?_eq_getElem h]; rfl
      exact ⟨_, rfl, _, rfl, a, _, _, _, rfl, rfl, hS, atI_nat e, K _⟩
    · refine iteN (decide_eq_false (by rw [List.length_map]; omega)) ?_
      exact ⟨_, rfl, _, _, rfl, rfl, .inl ⟨by decide, by decide⟩, _, _, rfl, rfl, K _⟩
/-- the box: what is left of the cell's number, its rest, the draws behind it -/
def BoxAt (H : Hp) (bx : Addr) (n : Nat) : Prop := ∃ a b d : Int, H bx = some (.lst [.int a, .int b, .int d]) ∧ 0 ≤ a ∧ 0 ≤ b ∧ b < 2147483563 ∧ 0 ≤ d ∧ d ≤ n
def spBox : Sp := fun vs H Q _ => ∃ x, vs = [.int x] ∧ ∀ H' bx, Same H H' → H bx = none → BoxAt H' bx 0 → Q (.ref bx) H'
theorem ok_box {c : Ct} (T : TxZ c) : Has c "_law_box" 1 spBox := by
  obtain ⟨f, fd, m, F⟩ := T.l_box
  refine Has.mk m F (ps := ["_law_cell_here"]) (okD F sc_l_box ?_ ?_) (fun _ _ _ _ _ _ us hl => match us, hl with | [_], _ => rfl)
  · rintro vs H Q E ⟨_, rfl, _⟩
    rfl
  · rintro cdv A outer s H vs Q E hr ⟨x, rfl, K⟩
    refine ⟨_, pss_one (ps_ret (pe_lst (pa_cons (pe_callB (call_max2 rfl) rfl T.max (by decide +kernel) (pa_cons (pe_int) (pa_cons (pe_op op_sub (pv 0) (pe_op op_pow pe_int pe_int)) pa_nil))) (pa_cons (pe_op op_mod (pv 0) pe_int) (pa_cons (pe_int) pa_nil))))), ?_⟩
    refine ⟨_, rfl, _, _, rfl, rfl, ⟨by decide, by decide, by decide⟩, _, _, rfl, rfl, _, _, rfl, _, rfl, _, _, rfl, rfl, (by show (0 : Int) < 2147483563; decide), smL (by simp), fun l nl => ?_⟩
    refine K _ l (same_upd nl) nl ⟨_, _, 0, upd_same, ?_, Int.emod_nonneg _ (by decide), Int.emod_lt_of_pos _ (by decide), Int.le_refl _, Int.le_refl _⟩
    split <;> omega
def spTake : Sp := fun vs H Q _ => ∃ (bx : Addr) (m n : Nat), vs = [.ref bx, .int m] ∧ 1 ≤ m ∧ m ≤ 1000 ∧ BoxAt H bx n ∧ n ≤ 100000 ∧ ∀ (H' : Hp) (d : Nat), SameX bx H H' → BoxAt H' bx (n + 1) → d < m → Q (.int d) H'
theorem nat_of {m : Nat} {i : Int} (h0 : 0 ≤ i) (h1 : i < m) : ∃ d : Nat, i = (d : Int) ∧ d < m := ⟨i.toNat, by omega, by omega⟩
theorem ok_take {c : Ct} (T : TxZ c) : Has c "_law_take" 1 spTake := by
  obtain ⟨f, fd, m, F⟩ := T.l_take
  refine Has.mk m F (ps := ["_law_box_here", "_law_many"]) (okD F sc_l_take ?_ ?_) (fun _ _ _ _ _ _ us hl => match us, hl with | [_, _], _ => rfl)
  · rintro vs H Q E ⟨_, _, _, rfl, _⟩
    rfl
  · rintro cdv A outer s H vs Q E hr ⟨bx, m, n, rfl, hm1, hm2, ⟨a, b, d, eb, ha, hb, hb2, hd, hd2⟩, hn, K⟩
    refine ⟨_, pss_cons (ps_if (pt_cmpR op_gt (pe_ix ix_list (pv 0) pe_int (fun _ _ => rfl)) pe_int (nomark _)) (pss_cons (ps_set (i := 2) sc_l_take.nd rfl (Or.inl rfl) (pe_op op_mod (pe_ix ix_list (pv 0) pe_int (fun _ _ => rfl)) (pv 1))) (pss_cons (ps_asg (pe_op op_fdivN (pe_ix ix_list (pv 0) pe_int (fun _ _ => rfl)) (pv 1)) (pg_sub (pv 0) pe_int set_list)) (pss_one (ps_ret (pv 2))))) pss_nil) (pss_cons (ps_asg (pe_op op_add (pe_ix ix_list (pv 0) pe_int (fun _ _ => rfl)) pe_int) (pg_sub (pv 0) pe_int set_list)) (pss_cons (ps_set (i := 3) sc_l_take.nd rfl (Or.inl rfl) (pe_op op_mod (pe_op op_pow (pe_op op_add (pe_op op_add (pe_ix ix_list (pv 0) pe_int (fun _ _ => rfl)) (pe_op op_mul pe_int (pe_ix ix_list (pv 0) pe_int (fun _ _ => rfl)))) pe_int) pe_int) pe_int)) (pss_cons (ps_set (i := 3) sc_l_take.nd rfl (Or.inl rfl) (pe_op op_mod (pe_op op_pow (pe_op op_add (pv 3) (pe_op op_mul pe_int (pe_ix ix_list (pv 0) pe_int (fun _ _ => rfl)))) pe_int) pe_int)) (pss_one (ps_ret (pe_op op_mod (pe_op op_fdivN (pv 3) pe_int) (pv 1))))))), ?_⟩
    refine ⟨_, rfl, bx, _, _, _, rfl, rfl, SqL.of eb, rfl, _, _, rfl, rfl, _, rfl, ?_⟩
    by_cases h : a > 0
    · refine iteY (decide_eq_true h) ?_
      refine ⟨_, rfl, bx, _, _, _, rfl, rfl, SqL.of eb, rfl, _, rfl, _, _, rfl, rfl, (by show (0 : Int) < (m : Int); omega), ?_⟩
      refine ⟨_, rfl, bx, _, _, _, rfl, rfl, SqL.of eb, rfl, _, rfl, _, _, rfl, rfl, ⟨(by show (m : Int) ≠ 0; omega), (by show (m : Int).natAbs < 1073741824; omega)⟩, ?_⟩
      refine ⟨_, rfl, bx, _, 0, 0, rfl, rfl, eb, rfl, _, rfl, ?_⟩
      obtain ⟨dn, e, hlt⟩ := nat_of (m := m) (Int.emod_nonneg a (by omega)) (Int.emod_lt_of_pos a (by omega))
      have z := K _ dn (sameX_upd (H := H) (o := .lst [.int (a.fdiv m), .int b, .int d])) ⟨_, b, d, upd_same, ?_, hb, hb2, hd, by omega⟩ hlt
      · rw [← e] at z
        exact z
      · rw [Int.fdiv_eq_ediv_of_nonneg a (by omega)]
        exact Int.ediv_nonneg ha (by omega)
    · refine iteN (decide_eq_false h) ?_
      refine ⟨_, rfl, bx, _, _, _, rfl, rfl, SqL.of eb, rfl, _, _, rfl, rfl, _, rfl, bx, _, 2, 2, rfl, rfl, eb, rfl, ?_⟩
      have e1 : (upd H bx (.lst [.int a, .int b, .int (d + 1)])) bx = some (.lst [.int a, .int b, .int (d + 1)]) := upd_same
      refine ⟨_, rfl, bx, _, _, _, rfl, rfl, SqL.of e1, rfl, _, rfl, bx, _, _, _, rfl, rfl, SqL.of e1, rfl, _, _, rfl, rfl, .inl ⟨by decide, by decide⟩, _, _, rfl, rfl, _, _, rfl, rfl, _, _, rfl, rfl, ⟨by decide, by decide, ?_⟩, _, _, rfl, rfl, (by show (0 : Int) < 2147483647; decide), ?_⟩
      · show (b + 8839 * (d + 1) + 271).natAbs < 2 ^ 64
        omega
      have hx := Int.emod_lt_of_pos ((b + 8839 * (d + 1) + 271) ^ (5 : Int).toNat) (show (0 : Int) < 2147483647 by decide)
      have hx0 := Int.emod_nonneg ((b + 8839 * (d + 1) + 271) ^ (5 : Int).toNat) (show (2147483647 : Int) ≠ 0 by decide)
      refine ⟨_, rfl, _, rfl, bx, _, _, _, rfl, rfl, SqL.of e1, rfl, _, _, rfl, rfl, .inl ⟨by decide, by decide⟩, _, _, rfl, rfl, _, _, rfl, rfl, ⟨by decide, by decide, ?_⟩, _, _, rfl, rfl, (by show (0 : Int) < 2147483587; decide), ?_⟩
      · show ((b + 8839 * (d + 1) + 271) ^ (5 : Int).toNat % 2147483647 + 104729 * (d + 1)).natAbs < 2 ^ 64
        generalize (b + 8839 * (d + 1) + 271) ^ (5 : Int).toNat % 2147483647 = y at hx hx0 ⊢
        omega
      refine ⟨_, rfl, _, _, rfl, rfl, ⟨by decide, by decide⟩, _, rfl, _, _, rfl, rfl, (by show (0 : Int) < (m : Int); omega), ?_⟩
      obtain ⟨dn, e, hlt⟩ := nat_of (m := m) (Int.emod_nonneg (((((b + 8839 * (d + 1) + 271) ^ (5 : Int).toNat % 2147483647 + 104729 * (d + 1)) ^ (3 : Int).toNat % 2147483587).fdiv 16)) (by omega)) (Int.emod_lt_of_pos _ (by omega))
      have z := K _ dn (sameX_upd (H := H) (o := .lst [.int a, .int b, .int (d + 1)])) ⟨a, b, d + 1, upd_same, ha, hb, hb2, by omega, by omega⟩ hlt
      rw [← e] at z
      exact z
end K37
end
section
set_option Elab.async false
set_option linter.all false
set_option maxRecDepth 100000
set_option maxHeartbeats 4000000
/-! L2: marks; is the family right. -/
namespace K37
open PySem PySem.Spec PyProof.Rows L2 StX ClX SX
open C8 (sl_txt rSlX pss_cut tCut)
def spLBelow : Sp := fun vs H Q _ => ∃ p o, vs = [.str (pS p), .str (pS o)] ∧ okP p ∧ okP o ∧ o ≠ [] ∧ Q (.bl (below p o)) H
theorem ok_lbelow {c : Ct} (T : TxZ c) : Has c "_law_below" 1 spLBelow := by
  obtain ⟨f, fd, m, F⟩ := T.l_below
  refine Has.mk m F (ps := ["_law_path", "_law_other"]) (okD F sc_l_below ?_ ?_) (fun _ _ _ _ _ _ us hl => match us, hl with | [_, _], _ => rfl)
  · rintro vs H Q E ⟨_, _, rfl, _⟩
    rfl
  · rintro cdv A outer s H vs Q E hr ⟨p, o, rfl, hp, ho, hne, K⟩
    refine ⟨_, pss_one (ps_ret (pe_bm PySem.F.plainAttrs_str PySem.F.slot_str_startswith PySem.F.type_str_startswith mt_startswith (pv 0) (pa_cons (pe_op op_add_str (pv 1) pe_str) pa_nil))), ?_⟩
    refine ⟨_, rfl, rfl, _, rfl, _, _, rfl, rfl, ?_, _, _, rfl, rfl, ?_⟩
    · have := ho.slen
      exact smL (by show _ + 1 ≤ _; omega)
    · show Q (.bl (Txt.startswith (pS p) (pS o ++ Str.ofString "/"))) H
      rw [starts_below hp ho hne]
      exact K
/-! ### marks -/
abbrev MkL : Type := List (Pa × Int)
def marksK (M : MkL) : List (Key × V) := M.map fun x => ((Sum.inr (pS x.1) : Key), V.int x.2)
def numsL (L : Tr) : MkL := L.map fun x => (x.1, x.2.1)
def MAt (H : Hp) (m : Addr) (L : Tr) : Prop := ∃ M : MkL, H m = some (.dK (marksK M)) ∧ M.Perm (numsL L)
theorem MAt.keep {H H' : Hp} {m : Addr} {L : Tr} (h : MAt H m L) (s : Keep H H') : MAt H' m L := h.imp fun _ z => ⟨s _ _ id z.1, z.2⟩
theorem numsL_keys (L : Tr) : (numsL L).map (·.1) = L.map (·.1) := by
  unfold numsL
  rw [List.map_map]
  rfl
theorem marksK_keys (M : MkL) : (marksK M).map (·.1) = (M.map (·.1)).map fun q => (Sum.inr (pS q) : Key) := by
  unfold marksK
  rw [List.map_map, List.map_map]
  rfl
theorem keys_nodup {l : List Pa} (h : l.Nodup) (ok : ∀ q ∈ l, okP q) : (l.map fun q => (Sum.inr (pS q) : Key)).Nodup := nodup_map_on h fun x hx y hy e => pS_inj (ok x hx) (ok y hy) (Sum.inr.inj e)
theorem val_not : ∀ {kvs : List (Key × V)} {k : Key}, k ∉ kvs.map (·.1) → valV kvs k = none
  | [], _, _ => rfl
  | q :: r, k, h => by
    have h1 : ¬ q.1 = k := fun e => h (e ▸ List.mem_cons_self)
    rw [valV_neg h1]
    exact val_not fun z => h (List.mem_cons_of_mem _ z)
theorem mergeK_app : ∀ (more acc : List (Key × V)), (acc.map (·.1) ++ more.map (·.1)).Nodup → mergeK acc more = acc ++ more
  | [], acc, _ => (List.append_nil acc).symm
  | (k, v) :: r, acc, h => by
    have h1 : k ∉ acc.map (·.1) := fun z => (List.nodup_append.mp h).2.2 k z k List.mem_cons_self rfl
    show mergeK (putK acc k v) r = acc ++ (k, v) :: r
    rw [putK_new v (val_not h1), mergeK_app r (acc ++ [(k, v)]) (by rw [List.map_append, List.append_assoc]; exact h), List.append_assoc]
    rfl
def numOf (L : Tr) (q : Pa) : Int := ((L.find? fun x => decide (x.1 = q)).map (·.2.1)).getD 0
theorem numOf_at : ∀ {L : Tr} {q : Pa} {n : Int} {a : Addr}, (L.map (·.1)).Nodup → (q, n, a) ∈ L → numOf L q = n
  | [], _, _, _, _, h => by simp at h
  | x :: L, q, n, a, nd, h => by
    obtain ⟨n1, n2⟩ := List.nodup_cons.mp (show (x.1 :: L.map (·.1)).Nodup from nd)
    rcases List.mem_cons.mp h with rfl | h
    · simp [numOf]
    · have hne : ¬ x.1 = q := fun e => n1 (e ▸ List.mem_map.mpr ⟨_, h, rfl⟩)
      have ih := numOf_at n2 h
      unfold numOf at ih ⊢
      rw [List.find?_cons_of_neg (by simpa using hne)]
      exact ih
theorem nums_map {L : Tr} (nd : (L.map (·.1)).Nodup) : (L.map (·.1)).map (fun q => (q, numOf L q)) = numsL L := by
  unfold numsL
  rw [List.map_map]
  refine List.map_congr_left fun x hx => ?_
  show (x.1, numOf L x.1) = (x.1, x.2.1)
  rw [numOf_at nd hx]
theorem ground_perm {L : Tr} {k : Int} {D : Nat} (lo : LOk L k D) {qs : List Pa} (h : qs.Perm ((L.map (·.1)).filter fun q => !groundB q)) : ([] :: [tmp] :: qs : List Pa).Perm (L.map (·.1)) := by
  have h1 : ((L.map (·.1)).filter groundB).Perm [[], [tmp]] := by
    refine (List.perm_ext_iff_of_nodup (lo.nd.sublist List.filter_sublist) (by decide)).mpr fun q => ?_
    rw [List.mem_filter]
    unfold groundB
    rw [decide_eq_true_iff]
    constructor
    · rintro ⟨_, rfl | rfl⟩ <;> simp
    · intro hq
      obtain ⟨a0, m0⟩ := lo.g0
      obtain ⟨a1, m1⟩ := lo.g1
      rcases List.mem_cons.mp hq with rfl | hq
      · exact ⟨List.mem_map.mpr ⟨_, m0, rfl⟩, .inl rfl⟩
      · rw [List.mem_singleton.mp hq]
        exact ⟨List.mem_map.mpr ⟨_, m1, rfl⟩, .inr rfl⟩
  have h2 := (h1.symm.append h).trans (List.filter_append_perm groundB (L.map (·.1)))
  exact h2
def spLMarks (c : Ct) : Sp := spH c fun h p j us st L k D rest H Q => rest = [] ∧ ∀ H' m, Same H H' → H m = none → MAt H' m L → Q (.ref m) H'
theorem paired_snoc {α β : Type} {R : α → β → Prop} {xs : List α} {ys : List β} {x : α} {y : β} (h : Paired R xs ys) (r : R x y) : Paired R (xs ++ [x]) (ys ++ [y]) := by
  induction h with
  | nil => exact .cons r .nil
  | cons a _ ih => exact .cons a ih
theorem paired_mono {α β : Type} {R R' : α → β → Prop} {xs : List α} {ys : List β} (h : Paired R xs ys) (m : ∀ x y, R x y → R' x y) : Paired R' xs ys := by
  induction h with
  | nil => exact .nil
  | cons a _ ih => exact .cons (m _ _ a) ih
abbrev N_l_marks : List Str := ["_law_house", "_law_path"]
theorem ok_lmarks {c : Ct} (T : TxZ c) : Has c "_law_marks" 6 (spLMarks c) := by
  obtain ⟨f, fd, m, F⟩ := T.l_marks
  obtain ⟨fP, MP, GP⟩ := ok_Hpaths T.toTxH
  obtain ⟨gI, i1, i2, i3, GI⟩ := ok_Hgetitem T.toTxH
  obtain ⟨pn, gn, fdn, psn, Pn, Gn, bn⟩ := pr_Nnumber T.toTxN
  have Cn := T.clN.cl
  have CP := T.clH.cl
  refine Has.mk m F (ps := ["_law_house"]) (okD F sc_l_marks ?_ ?_) (fun _ _ _ _ _ _ us hl => match us, hl with | [_], _ => rfl)
  · rintro vs H Q E ⟨_, _, _, _, _, _, _, _, _, rfl, _, rfl, _⟩
    rfl
  · rintro cdv A outer s H vs Q E hr ⟨h, p, j, us, st, L, k, D, _, rfl, X, rfl, K⟩
    refine ⟨_, pss_one (ps_ret (pe_callTy (call_dictP rfl) rfl T.dict (by decide +kernel) (pa_cons (pe_lc (own := [("_law_path", 1)]) (g := gName 1) (tt := tYes) rfl sc_l_marks.nd (pi_list (pe_op op_cat (pe_lst (pa_cons (pe_str) (pa_cons (pe_str) pa_nil))) (pe_m0R CP MP GP hr (by decide) (pv 0)))) (blkOk_by (N := N_l_marks) (sc := defScope s_l_marks) (by decide +kernel)) (fun _ _ _ _ _ => pg_name (i := 1) sc_l_marks.nd rfl (Or.inl rfl)) (fun _ _ _ _ _ => pts_nil) (fun _ _ _ _ _ => pe_tup (pa_cons (pv 1) (pa_cons (pe_prop (pe_ownItem i1 i2 i3 GI hr (by decide) (pv 0) (pv 1)) Cn Pn Gn (hr.mono (by decide)) bn .nil pass0 (by rfl)) pa_nil)))) pa_nil))), ?_⟩
    obtain ⟨dx, eh⟩ := X.ho
    refine ⟨smL (by simp), fun l0 n0 => ?_⟩
    have s0 : Same H (upd H l0 (.lst [.str "/", .str "/tmp"])) := same_upd n0
    refine ⟨_, rfl, h, dx, _, rfl, s0 _ _ eh, rfl, h, p, j, us, st, L, k, D, _, rfl, X.same s0, rfl, fun H1 l1 qs s1 n1 e1 pm => ?_⟩
    have hperm := ground_perm X.lo pm
    have hlen : qs.length + 2 = L.length := by
      have := hperm.length_eq
      rw [List.length_map] at this
      exact this
    have hL := X.lo.len
    have s01 := s0.trans s1
    refine ⟨l0, l1, _, _, rfl, rfl, s1 _ _ upd_same, e1, smL (by simp [pathsV]; omega), fun l2 n2 => ?_⟩
    have el2 : (upd H1 l2 (.lst ([.str "/", .str "/tmp"] ++ pathsV qs))) l2 = some (.lst (pathsV ([] :: [tmp] :: qs))) := upd_same
    have s02 : Same H (upd H1 l2 (.lst ([.str "/", .str "/tmp"] ++ pathsV qs))) := same_new s01 (s01.none n2)
    refine ⟨l2, rfl, ⟨_, SqL.of el2⟩, fun D0 nD => ?_⟩
    refine lc_it (walk_list (xs := pathsV ([] :: [tmp] :: qs))) (fun i H5 => Same (upd H1 l2 (.lst ([.str "/", .str "/tmp"] ++ pathsV qs))) H5 ∧ ∃ prs : List Addr, H5 D0 = some (.lst (prs.map V.ref)) ∧ prs.length = i ∧
      Paired (fun a kv => H5 a = some (.tup [kV kv.1, kv.2])) prs (marksK ((([] :: [tmp] :: qs : List Pa).take i).map fun q => (q, numOf L q)))) ⟨same_upd nD, [], upd_same, rfl, .nil⟩ (fun i H5 _ z => SqL.of (z.1 _ _ el2)) ?_ ?_
    · rintro i x H5 H6 hi ⟨sm, prs, eD, hlp, hp⟩ ⟨rfl, ex⟩
      have hil : i < qs.length + 2 := by
        have : (pathsV ([] :: [tmp] :: qs)).length = qs.length + 2 := by simp [pathsV]
        omega
      obtain ⟨q, eq⟩ : ∃ q, ([] :: [tmp] :: qs : List Pa)[i]? = some q := ⟨_, List.getElem?_eq_getElem (by simpa using hil)⟩
      have ex' : (pathsV ([] :: [tmp] :: qs))[i]? = some (.str (pS q)) := by
        unfold pathsV
        rw [List.getElem?_map, eq]
        rfl
      obtain rfl : x = .str (pS q) := Option.some.inj (ex.symm.trans ex')
      have mk : q ∈ L.map (·.1) := hperm.mem_iff.mp (List.mem_of_getElem? eq)
      obtain ⟨⟨q', n, a⟩, hm, rfl⟩ := List.mem_map.mp mk
      have s06 := s02.trans sm
      have X6 := X.same s06
      refine ⟨rfl, _, rfl, _, rfl, _, rfl, h, dx, _, rfl, s06 _ _ eh, h, p, j, us, st, L, k, D, _, rfl, X6, q', n, a, rfl, hm, fun H7 s7 => ?_⟩
      have X7 := X6.same s7
      obtain ⟨nd, um, est, end', eum, hN, _⟩ := X7.sa
      obtain ⟨o, g, acc, dn, d0, b, en, ed⟩ := hN _ hm
      refine ⟨a, dn, _, rfl, en, a, dn, _, _, rfl, en, rfl, smL (by simp), fun t nt => ?_⟩
      have s67 : Same H6 (upd H7 t (.tup [.str (pS q'), .int n])) := s7.trans (same_upd nt)
      have eD7 := s67 _ _ eD
      refine ⟨prs.map V.ref, eD7, smT (by rw [List.length_map]; omega), same_new (sm.trans s67) nD, prs ++ [t], by rw [upd_same]; simp, by simp [hlp], ?_⟩
      have e1 : marksK ((([] :: [tmp] :: qs : List Pa).take (i + 1)).map fun q => (q, numOf L q)) = marksK ((([] :: [tmp] :: qs : List Pa).take i).map fun q => (q, numOf L q)) ++ [((Sum.inr (pS q') : Key), V.int n)] := by
        have hnum := numOf_at X.lo.nd hm
        rw [List.take_add_one, eq]
        simp [marksK, hnum]
      rw [e1]
      have htD : t ≠ D0 := (ne_of_none (s7 _ _ eD) nt).symm
      refine paired_snoc (paired_mono hp fun a kv z => ?_) (by rw [upd_ne htD]; exact upd_same)
      have z7 := s67 _ _ z
      rw [upd_ne (ne_of z7 eD7 fun w => nomatch w)]
      exact z7
    · rintro H5 ⟨sm, prs, eD, hlp, hp⟩
      have el : (pathsV ([] :: [tmp] :: qs)).length = ([] :: [tmp] :: qs : List Pa).length := by simp [pathsV]
      rw [el, List.take_length] at hp
      have hM : ((([] :: [tmp] :: qs : List Pa).map fun q => (q, numOf L q)) : MkL).Perm (numsL L) := by
        rw [← nums_map X.lo.nd]
        exact hperm.map _
      have hnd : (([] :: [tmp] :: qs : List Pa)).Nodup := hperm.nodup_iff.mpr X.lo.nd
      refine ⟨D0, prs, _, rfl, SqL.of eD, paired_mono hp fun a kv z => SqT.of z, fun m nm => ?_⟩
      have em : mergeK [] (marksK (([] :: [tmp] :: qs : List Pa).map fun q => (q, numOf L q))) = marksK (([] :: [tmp] :: qs : List Pa).map fun q => (q, numOf L q)) := by
        rw [mergeK_app _ [] ?_, List.nil_append]
        have e0 : ((([] :: [tmp] :: qs : List Pa).map fun q => (q, numOf L q)) : MkL).map (·.1) = [] :: [tmp] :: qs := by
          rw [List.map_map]
          exact List.map_id _
        rw [marksK_keys, e0, List.map_nil, List.nil_append]
        exact keys_nodup hnd fun q hq => X.lo.okk (hperm.mem_iff.mp hq)
      rw [em]
      exact K _ m (same_new (s02.trans sm) ((s02.trans sm).none nm)) ((s02.trans sm).none nm) ⟨_, upd_same, hM⟩
end K37
end
section
set_option Elab.async false
set_option linter.all false
set_option maxRecDepth 100000
set_option maxHeartbeats 4000000
/-! L3: is the family right. -/
namespace K37
open PySem PySem.Spec PyProof.Rows L2 StX ClX SX
open C8 (sl_txt rSlX pss_cut tCut)
theorem call_isiK {X : Cx} (K : PySem.W.Frag) (h : X.K = K := by rfl) : CallR X (.builtin "isinstance") (rIsi K) := by subst h; exact call_isi
/-- a house of the family, its marks -/
structure Mem where
  h : Addr
  j : Addr
  st : Addr
  m : Addr
  L : Tr
  k : Int
def FamAt (c : Ct) (H : Hp) (p : Addr) (us : List (List Nat)) (D : Nat) (fam : List Mem) : Prop := ∀ x ∈ fam, HSt c H x.h p x.j us x.st x.L x.k D ∧ MAt H x.m x.L
def FamL (H : Hp) (fl : Addr) (fam : List Mem) : Prop := ∃ ts : List Addr, H fl = some (.lst (ts.map V.ref)) ∧ Paired (fun t x => H t = some (.tup [.ref x.h, .ref x.m])) ts fam
theorem FamAt.same {c : Ct} {H H' : Hp} {p : Addr} {us : List (List Nat)} {D : Nat} {fam : List Mem} (h : FamAt c H p us D fam) (s : Same H H') : FamAt c H' p us D fam := fun x hx => ⟨(h x hx).1.same s, (h x hx).2.keep (.of s)⟩
theorem paired_at {α β : Type} {R : α → β → Prop} : ∀ {xs : List α} {ys : List β} {i : Nat} {x : α}, Paired R xs ys → xs[i]? = some x → ∃ y, ys[i]? = some y ∧ R x y
  | _, _, 0, _, .cons r _, e => ⟨_, rfl, by rw [← Option.some.inj e]; exact r⟩
  | _, _, i + 1, _, .cons _ t, e => paired_at (i := i) t e
theorem marksK_at {M : MkL} {i : Nat} {x : Pa × Int} (h : M[i]? = some x) : (marksK M)[i]? = some ((Sum.inr (pS x.1) : Key), V.int x.2) := by
  unfold marksK
  rw [List.getElem?_map, h]
  rfl
theorem marksK_len (M : MkL) : (marksK M).length = M.length := by simp [marksK]
theorem marks_val {L : Tr} {k : Int} {D : Nat} (lo : LOk L k D) {M : MkL} (pm : M.Perm (numsL L)) {x : Pa × Int} (hx : x ∈ M) : valV (marksK M) (Sum.inr (pS x.1)) = some (.int x.2) := by
  have hk : (M.map (·.1)).Perm (L.map (·.1)) := by
    rw [← numsL_keys]
    exact pm.map _
  have nd : ((marksK M).map (·.1)).Nodup := by
    rw [marksK_keys]
    exact keys_nodup (hk.nodup_iff.mpr lo.nd) fun q hq => lo.okk (hk.mem_iff.mp hq)
  exact val_nodup nd ((Sum.inr (pS x.1) : Key), V.int x.2) (List.mem_map.mpr ⟨x, hx, rfl⟩)
def spRight (c : Ct) : Sp := fun vs H Q _ => ∃ fl p us D fam, vs = [.ref fl] ∧ FamL H fl fam ∧ FamAt c H p us D fam ∧ ∀ H', Same H H' → Q (.bl true) H'
abbrev N_l_family_right : List Str := ["_law_family", "_law_house", "_law_marks_here", "_law_numbers", "_law_path", "_law_one"]
theorem ok_right {c : Ct} (T : TxZ c) : Has c "_law_family_right" 7 (spRight c) := by
  obtain ⟨f, fd, m, F⟩ := T.l_family_right
  obtain ⟨fM, mM, kM, GM⟩ := ok_lmarks T
  refine Has.mk m F (ps := ["_law_family"]) (okD F sc_l_family_right ?_ ?_) (fun _ _ _ _ _ _ us hl => match us, hl with | [_], _ => rfl)
  · rintro vs H Q E ⟨_, _, _, _, _, rfl, _⟩
    rfl
  · rintro cdv A outer s H vs Q E hr ⟨fl, p, us, D, fam, rfl, ⟨ts, efl, hts⟩, hF, K⟩
    refine ⟨_, pss_cons (ps_for PassesOwn.never rfl (pi_list (pv 0)) (pg_tup rfl (pgs_cons (pg_name (i := 1) sc_l_family_right.nd rfl (Or.inl rfl)) (pgs_cons (pg_name (i := 2) sc_l_family_right.nd rfl (Or.inr rfl)) pgs_nil))) (pss_cut (ps_lock (ps_setLc (i := 3) (own := [("_law_path", 4)]) (g := gName 4) (tt := tYes) rfl sc_l_family_right.nd rfl rfl (sw_true rfl rfl rfl (by decide +kernel)) (pi_keys (pv 2)) (blkOk_by (N := N_l_family_right) (sc := defScope s_l_family_right) (by decide +kernel)) (fun _ _ _ _ _ => pg_name (i := 4) sc_l_family_right.nd rfl (Or.inl rfl)) (fun _ _ _ _ _ => pts_nil) (fun _ _ _ _ _ => pe_dget (hu_of hr) (pv 2) (pv 4) (fun _ _ => rfl)))) (pss_cons (ps_if (pt_cmpR (op_neD hr.units) (pe_lc (own := [("_law_one", 5)]) (g := gName 5) rfl sc_l_family_right.nd (pi_list (pv 3)) (blkOk_by (N := N_l_family_right) (sc := defScope s_l_family_right) (by decide +kernel)) (fun _ _ _ _ _ => pg_name (i := 5) sc_l_family_right.nd rfl (Or.inl rfl)) (fun _ _ _ _ _ => pts_one (PW.pt (pw_or (pt_not (pt_val (pe_callB (call_isiK c.K) rfl T.isin boot_isinstance (pa_cons (pv 5) (pa_cons (pe_bltn (v := .ty "int") rfl T.int boot_int rfl) pa_nil))))) (pw_or1 (pt_val (pe_callB (call_isiK c.K) rfl T.isin boot_isinstance (pa_cons (pv 5) (pa_cons (pe_bltn (v := .ty "bool") rfl T.bool boot_bool rfl) pa_nil)))))))) (fun _ _ _ _ _ => pv 5)) (pe_lst pa_nil) (nomark _)) pss_never pss_nil) (pss_one (ps_if (PW.pt (pw_or (pt_cmpR op_ne (RZ.pe_lenSetI rfl T.len rfl T.set (pv 3)) (pe_callB call_len_seq rfl T.len PySem.boot_len (pa_cons (pv 3) pa_nil)) (nomark _)) (pw_or1 (pt_cmpR (op_ne_dictA hr.units0) (pe_cR GM hr (by decide) kM rfl mM (pa_cons (pv 1) pa_nil)) (pv 2) (nomark _))))) pss_never pss_nil))))) (pss_one (ps_ret pe_bl)), ?_⟩
    refine ⟨_, rfl, fl, rfl, ⟨_, SqL.of efl⟩, for_it (walk_list (xs := ts.map V.ref)) (fun i σ' H1 => ∃ y1 y2 y3 y4 y5, σ' = [some (.ref fl), y1, y2, y3, y4, y5] ∧ Same H H1) ⟨none, none, none, none, none, rfl, fun _ _ e => e⟩ (fun i σ' H1 _ ⟨_, _, _, _, _, _, z⟩ => SqL.of (z _ _ efl)) ?_ ?_⟩
    · rintro i v σ' H1 H2 hi ⟨y1, y2, y3, y4, y5, rfl, s1⟩ ⟨rfl, ev⟩
      obtain ⟨t, et, rfl⟩ : ∃ t, ts[i]? = some t ∧ v = .ref t := by
        rw [List.getElem?_map] at ev
        cases e : ts[i]? with
        | none => rw [e] at ev; cases ev
        | some t => rw [e] at ev; exact ⟨t, rfl, (Option.some.inj ev).symm⟩
      obtain ⟨x, ex, ett⟩ := paired_at hts et
      obtain ⟨hX, M, eM, pM⟩ := hF x (List.mem_of_getElem? ex)
      have lo := hX.lo
      have eM1 := s1 _ _ eM
      have hlM : M.length = x.L.length := by rw [pM.length_eq, numsL, List.length_map]
      have hL := lo.len
      refine ⟨t, _, rfl, SqT.of (s1 _ _ ett), rfl, _, _, rfl, _, _, rfl, rfl, ?_⟩
      refine ⟨fun σ2 H3 => ∃ nl z4 z5, σ2 = [some (.ref fl), some (.ref x.h), some (.ref x.m), some (.ref nl), z4, z5] ∧ Same H2 H3 ∧ H3 nl = some (.lst (M.map fun z => V.int z.2)), ?_, ?_⟩
      · refine ⟨x.m, _, eM1, trivial, fun od => ?_⟩
        refine ⟨_, rfl, x.m, od, rfl, .inl ⟨_, upd_same, fun D0 nD => ?_⟩⟩
        refine lc_it (walk_keys (kvs := marksK M)) (fun i H5 => Same (upd H2 x.m (.frz od (.dK (marksK M)))) H5 ∧ H5 D0 = some (.lst ((M.take i).map fun z => V.int z.2))) ⟨same_upd nD, upd_same⟩ (fun i H5 _ z => z.1 _ _ upd_same) ?_ ?_
        · rintro i' v H5 H6 hi' ⟨sm, eD⟩ ⟨rfl, kk, yy, exy, rfl⟩
          have hi2 : i' < M.length := by rw [← marksK_len]; exact hi'
          obtain ⟨⟨q, n⟩, eMi⟩ : ∃ z, M[i']? = some z := ⟨_, List.getElem?_eq_getElem hi2⟩
          rw [marksK_at eMi] at exy
          injection exy with exy
          injection exy with e1 e2
          subst e1
          have hv := marks_val lo pM (List.mem_of_getElem? eMi)
          refine ⟨rfl, _, rfl, _, rfl, x.m, _, rfl, .inl ⟨marksK M, Sum.inr (pS q), .inr ⟨od, sm _ _ upd_same⟩, rfl, hv.symm⟩, _, eD, ?_, same_new sm nD, ?_⟩
          · rw [List.length_map, List.length_take]
            exact smT (by omega)
          · rw [upd_same, List.take_add_one, eMi]
            simp
        · rintro H5 ⟨sm, eD⟩
          rw [marksK_len, List.take_length] at eD
          have hDn : D0 ≠ x.m := fun z => by subst z; rw [upd_same] at nD; cases nD
          refine ⟨sm _ _ upd_same, D0, _, _, rfl, lock_same eM1 sm, ?_⟩
          rw [upd_ne hDn]
          exact eD
      rintro _ H3 ⟨nl, z4, z5, rfl, s3, enl⟩
      refine ⟨_, rfl, nl, rfl, ⟨_, SqL.of enl⟩, fun D0 nD => ?_⟩
      refine lc_it (walk_list (xs := M.map fun z => V.int z.2)) (fun i H5 => Same H3 H5 ∧ H5 D0 = some (.lst [])) ⟨same_upd nD, upd_same⟩ (fun i H5 _ z => SqL.of (z.1 _ _ enl)) ?_ ?_
      · rintro i' v H5 H6 hi' ⟨sm, eD⟩ ⟨rfl, ev⟩
        obtain ⟨n, rfl⟩ : ∃ n, v = .int n := by
          rw [List.getElem?_map] at ev
          cases e : M[i']? with
          | none => rw [e] at ev; cases ev
          | some z => rw [e] at ev; exact ⟨z.2, (Option.some.inj ev).symm⟩
        refine ⟨rfl, _, rfl, _, _, _, _, true, rfl, .ty _, .base (.int _), kit_ty (by decide +kernel), true, rfl, iteN rfl ?_⟩
        exact ⟨_, rfl, _, _, _, _, false, rfl, .ty _, .base (.int _), kit_ty (by decide +kernel), false, rfl, iteN rfl ⟨sm, eD⟩⟩
      · rintro H5 ⟨sm5, eD5⟩
        refine ⟨smL (by simp), fun l0 n0 => ?_⟩
        refine ⟨.list [], .list [], .lst (SqL.of (upd_old eD5 n0)) .nil, .lst (SqL.of upd_same) .nil, by decide +kernel, by decide +kernel, _, rfl, iteN (by decide +kernel) ?_⟩
        have s35 : Same H3 (upd H5 l0 (.lst [])) := sm5.trans (same_upd n0)
        have enl5 : (upd H5 l0 (.lst [])) nl = some (.lst ((M.map (·.2)).map V.int)) := by
          rw [List.map_map]
          exact s35 _ _ enl
        have hnd : (M.map (·.2)).Nodup := by
          have e : (numsL x.L).map (·.2) = x.L.map (·.2.1) := by
            unfold numsL
            rw [List.map_map]
            rfl
          exact (pM.map (·.2)).nodup_iff.mpr (e ▸ lo.nn)
        have s05 : Same H (upd H5 l0 (.lst [])) := s1.trans (s3.trans s35)
        refine ⟨_, rfl, nl, _, rfl, SqL.of enl5, hnd, by rw [List.length_map]; omega, _, rfl, nl, _, rfl, .inl (SqL.of enl5), rfl, _, rfl, iteN ?_ ?_⟩
        · rw [List.length_map (f := V.int), decide_eq_true rfl]
          rfl
        refine ⟨_, rfl, x.h, p, x.j, us, x.st, x.L, x.k, D, _, rfl, hX.same s05, rfl, fun H7 m7 s7 n7 ⟨M7, e7, p7⟩ => ?_⟩
        have s27 : Same H H7 := s05.trans s7
        have pp : M7.Perm M := p7.trans pM.symm
        refine ⟨_, rfl, m7, x.m, _, _, rfl, rfl, e7, s27 _ _ eM, by rw [marksK_len, marksK_len, pp.length_eq], fun kv hkv => ?_, _, rfl, iteN rfl ⟨_, _, _, _, _, rfl, s27⟩⟩
        obtain ⟨z, hz, rfl⟩ := List.mem_map.mp hkv
        exact ⟨marks_val lo pM (pp.mem_iff.mp hz), rfl⟩
    · rintro σ' H1 ⟨_, _, _, _, _, rfl, s1⟩
      exact K _ s1
end K37
end
section
set_option Elab.async false
set_option linter.all false
set_option maxRecDepth 100000
set_option maxHeartbeats 4000000
/-! L4: the law's put. -/
namespace K37
open PySem PySem.Spec PyProof.Rows L2 StX ClX SX
open C8 (sl_txt rSlX pss_cut tCut)
/-- all but a and b as it was -/
def SameY (a b : Addr) (H H' : Hp) : Prop := ∀ x o, x ≠ a → x ≠ b → H x = some o → H' x = some o
theorem BoxAt.up {H : Hp} {bx : Addr} {n n' : Nat} (h : BoxAt H bx n) (l : n ≤ n') : BoxAt H bx n' := by
  obtain ⟨a, b, d, e, h1, h2, h3, h4, h5⟩ := h
  exact ⟨a, b, d, e, h1, h2, h3, h4, by omega⟩
theorem BoxAt.same {H H' : Hp} {bx : Addr} {n : Nat} (h : BoxAt H bx n) (s : Same H H') : BoxAt H' bx n := by
  obtain ⟨a, b, d, e, z⟩ := h
  exact ⟨a, b, d, s _ _ e, z⟩
theorem BoxAt.sx {H H' : Hp} {bx h : Addr} {n : Nat} (x : BoxAt H bx n) (s : SameX h H H') (ne : bx ≠ h) : BoxAt H' bx n := by
  obtain ⟨a, b, d, e, z⟩ := x
  exact ⟨a, b, d, s _ _ ne e, z⟩
theorem BoxAt.keep {H H' : Hp} {bx : Addr} {n : Nat} (x : BoxAt H bx n) (s : SameX bx H H') : Keep H H' := by
  obtain ⟨a, b, d, e, _⟩ := x
  exact .x s e trivial
theorem BoxAt.ne_ho {c : Ct} {H : Hp} {bx h p j st : Addr} {n : Nat} (x : BoxAt H bx n) (y : HoAt c H h p j st) : bx ≠ h := by
  obtain ⟨a, b, d, e, _⟩ := x
  obtain ⟨dx, e2⟩ := y
  exact ne_of e e2 fun z => nomatch z
/-- a list that does not begin with a number is not the box -/
theorem BoxAt.ne_lst {H : Hp} {bx l : Addr} {n : Nat} {v : V} {vs : List V} (x : BoxAt H bx n) (e : H l = some (.lst (v :: vs))) (hv : ∀ i, v ≠ .int i) : l ≠ bx := by
  obtain ⟨a, b, d, e2, _⟩ := x
  rintro rfl
  rw [e] at e2
  injection e2 with e2
  injection e2 with e2
  injection e2 with e2 _
  exact hv a e2
/-- a house after draws -/
theorem HSt.draw {c : Ct} {H H' : Hp} {h p j : Addr} {us : List (List Nat)} {st : Addr} {L : Tr} {k : Int} {D : Nat} {bx : Addr} {n : Nat} (x : HSt c H h p j us st L k D) (b : BoxAt H bx n) (s : SameX bx H H') : HSt c H' h p j us st L k D := by
  have kp := b.keep s
  have ne := b.ne_ho x.ho
  exact ⟨x.ho.imp fun _ e => s _ _ ne.symm e, x.pe.keep kp, x.ju.keep kp, x.sa.keep kp, x.lo, x.us⟩
def nms : List (List Nat) := [[97], [97, 98], [98], [102], [97, 102], root]
theorem nms_ok : ∀ n ∈ nms, okN n := by
  intro n hn
  have h : n = [97] ∨ n = [97, 98] ∨ n = [98] ∨ n = [102] ∨ n = [97, 102] ∨ n = root := by simpa [nms] using hn
  rcases h with rfl | rfl | rfl | rfl | rfl | rfl <;> exact ⟨by decide, by decide, by decide⟩
theorem isF_child {o : Pa} {n : List Nat} (hn : n ≠ []) : isF (o ++ [n]) = (n.getLast? == some 102) := by
  unfold isF
  rw [ptl_last hn]
/-- folders near the ground -/
def nearB (q : Pa) : Bool := decide (Txt.count (pS q) (Str.ofString "/") < 4) && !isF q
theorem near_nil : nearB [] = true := by decide +kernel
theorem last_of {q : Pa} (hq : okP q) : ∃ x, atI (pS q).cps.toList (-1) = some x ∧ (ptl q).getLast? = some x := by
  have hne : ptl q ≠ [] := by
    cases q with
    | nil => decide
    | cons n q => exact fun z => by have := seg_cons n q; rw [show ptl (n :: q) = seg (n :: q) from rfl, this] at z; cases z
  have e := List.dropLast_concat_getLast hne
  refine ⟨(ptl q).getLast hne, ?_, (congrArg List.getLast? e).symm.trans List.getLast?_concat⟩
  show atI (ptl q) (-1) = _
  have z := atI_last (ptl q).dropLast ((ptl q).getLast hne)
  rw [e] at z
  exact z
theorem isF_sign {q : Pa} {x : Nat} (h : (ptl q).getLast? = some x) : decide (V.str ⟨#[x]⟩ = V.str (Str.ofString "f")) = isF q := by
  unfold isF
  rw [h]
  by_cases e : x = 102
  · subst e
    decide
  · rw [decide_eq_false (fun z => by
      injection z with z
      have h2 : [x] = [102] := congrArg (fun s : Str => s.cps.toList) z
      injection h2 with h2
      exact e h2)]
    simp [e]
theorem keys_txt (M : MkL) : (marksK M).map (·.1) = ((M.map (·.1)).map pS).map Sum.inr := by simp [marksK]
theorem last_nm {n : List Nat} (h : okN n) : ∃ x, atI (S n).cps.toList (-1) = some x ∧ n.getLast? = some x := by
  have e := List.dropLast_concat_getLast h.ne
  refine ⟨n.getLast h.ne, ?_, (congrArg List.getLast? e).symm.trans List.getLast?_concat⟩
  show atI n (-1) = _
  have z := atI_last n.dropLast (n.getLast h.ne)
  rw [e] at z
  exact z
theorem child_sign {o : Pa} {n : List Nat} {x : Nat} (h : okN n) (e : n.getLast? = some x) : decide (V.str ⟨#[x]⟩ = V.str (Str.ofString "f")) = isF (o ++ [n]) := by
  rw [isF_child h.ne, e]
  by_cases e : x = 102
  · subst e
    decide
  · rw [decide_eq_false (fun z => by
      injection z with z
      have h2 : [x] = [102] := congrArg (fun s : Str => s.cps.toList) z
      injection h2 with h2
      exact e h2)]
    simp [e]
/-- the law's put: nothing, or a new node -/
def spLPut (c : Ct) : Sp := fun vs H Q _ => ∃ bx h p j us st L k D m ul usl n, vs = [.ref bx, .ref h, .ref m, .ref ul] ∧ HSt c H h p j us st L k D ∧ MAt H m L ∧ BoxAt H bx n ∧ n ≤ 90000 ∧ D + 1 ≤ 98 ∧
  H ul = some (.lst (usV usl)) ∧ 1 ≤ usl.length ∧ usl.length ≤ 6 ∧ (∀ u ∈ usl, u ∈ us) ∧ (∀ H', SameX bx H H' → BoxAt H' bx (n + 5) → Q .non H') ∧
  ∀ H' q st' a, SameY bx h H H' → BoxAt H' bx (n + 5) → HSt c H' h p j us st' (L ++ [(q, k, a)]) (k + 1) (D + 1) → okP q → q ∉ L.map (·.1) → Q (.str (pS q)) H'
abbrev N_l_put : List Str := ["_law_box_here", "_law_house", "_law_marks_here", "_law_users", "_law_folder", "_law_at", "_law_way", "_law_name", "_law_path", "_law_kind"]
theorem ok_lput {c : Ct} (T : TxZ c) : Has c "_law_put" 13 (spLPut c) := by
  obtain ⟨f, fd, mm, F⟩ := T.l_put
  obtain ⟨fK, mK, kK, GK⟩ := ok_take T
  obtain ⟨fD, mD, kD, GD⟩ := ok_do T.toTxD
  obtain ⟨fA, MA, GA⟩ := ok_Hadd T.toTxH
  have CA := T.clH.cl
  refine Has.mk mm F (ps := ["_law_box_here", "_law_house", "_law_marks_here", "_law_users"]) (okD F sc_l_put ?_ ?_) (fun _ _ _ _ _ _ us hl => match us, hl with | [_, _, _, _], _ => rfl)
  · rintro vs H Q E ⟨_, _, _, _, _, _, _, _, _, _, _, _, _, rfl, _⟩
    rfl
  · rintro cdv A outer s H vs Q E hr ⟨bx, h, p, j, us, st, L, k, D, m, ul, usl, n, rfl, X, ⟨M, eM, pM⟩, B, hn, hD, eul, hu1, hu2, hus, K1, K2⟩
    refine ⟨_, pss_cut (ps_setLc (i := 4) (own := [("_law_path", 8)]) (g := gName 8) rfl sc_l_put.nd rfl rfl (sw_true rfl rfl rfl (by decide +kernel)) (pi_list (pe_callB (call_sortedD rfl) rfl T.sorted (by decide +kernel) (pa_cons (pv 2) pa_nil))) (blkOk_by (N := N_l_put) (sc := defScope s_l_put) (by decide +kernel)) (fun _ _ _ _ _ => pg_name (i := 8) sc_l_put.nd rfl (Or.inl rfl)) (fun _ _ _ _ _ => pts_one (PW.pt (pw_and (pt_cmpR op_lt (pe_m1 PySem.F.slot_str_count PySem.F.type_str_count mt_count (pv 8) (pe_str)) pe_int (nomark _)) (pw_and1 (pt_cmpR op_ne (pe_ix ix_str (pv 8) (pe_un un_neg pe_int) (fun _ _ => rfl)) pe_str (nomark _)))))) (fun _ _ _ _ _ => pv 8)) (pss_cut (ps_set (i := 5) sc_l_put.nd rfl (Or.inl rfl) (pe_ix ix_list (pv 4) (pe_cR GK hr (by decide) kK rfl mK (pa_cons (pv 0) (pa_cons (pe_callB call_len_seq rfl T.len PySem.boot_len (pa_cons (pv 4) pa_nil)) pa_nil))) (fun _ _ => rfl))) (pss_cut (ps_par (i := 6) (j := 7) (by rfl) sc_l_put.nd rfl rfl (by decide) rfl rfl (pa_cons (pe_cR GK hr (by decide) kK rfl mK (pa_cons (pv 0) (pa_cons (pe_int) pa_nil))) (pa_cons (pe_ix ix_list (pe_lst (pa_cons (pe_str) (pa_cons (pe_str) (pa_cons (pe_str) (pa_cons (pe_str) (pa_cons (pe_str) (pa_cons (pe_str) pa_nil))))))) (pe_cR GK hr (by decide) kK rfl mK (pa_cons (pv 0) (pa_cons (pe_int) pa_nil))) (fun _ _ => rfl)) pa_nil)) (by rfl)) (pss_cut (ps_set (i := 8) sc_l_put.nd rfl (Or.inl rfl) (pe_ifExp (pt_cmpR op_eq (pv 5) pe_str (nomark _)) (pe_op op_add_str (pv 5) (pv 7)) (pe_op op_add_str (pe_op op_add_str (pv 5) pe_str) (pv 7)))) (pss_cons (ps_if (PW.pt (pw_or (pt_cmp (pc_din (hu_of hr) (pv 8) (pv 2))) (pw_or1 (pt_cmpR op_gt (pe_callB call_lenD rfl T.len PySem.boot_len (pa_cons (pv 2) pa_nil)) pe_int (nomark _))))) (pss_one (ps_ret pe_non)) pss_nil) (pss_cut (ps_set (i := 9) sc_l_put.nd rfl (Or.inl rfl) (pe_ifExp (pt_cmpR op_eq (pe_ix ix_str (pv 7) (pe_un un_neg pe_int) (fun _ _ => rfl)) pe_str (nomark _)) pe_str pe_str)) (pss_cut (ps_if (PW.pt (pw_and (pt_cmpR op_eq (pv 6) pe_int (nomark _)) (pw_and1 (pt_cmpR op_eq (pv 5) pe_str (nomark _))))) (pss_one (ps_expr (pe_cR GD hr (by decide) kD rfl mD (pa_cons (pv 1) (pa_cons (pe_tup (pa_cons (pe_ix ix_list (pv 3) (pe_cR GK hr (by decide) kK rfl mK (pa_cons (pv 0) (pa_cons (pe_callB call_len_seq rfl T.len PySem.boot_len (pa_cons (pv 3) pa_nil)) pa_nil))) (fun _ _ => rfl)) (pa_cons (pv 9) (pa_cons (pv 8) (pa_cons (pe_ix ix_list (pe_lst (pa_cons (pe_str) (pa_cons (pe_str) (pa_cons (pe_str) pa_nil)))) (pe_cR GK hr (by decide) kK rfl mK (pa_cons (pv 0) (pa_cons (pe_int) pa_nil))) (fun _ _ => rfl)) pa_nil))))) pa_nil))))) (pss_one (ps_expr (pe_mR CA MA GA hr (by decide) (pv 1) (pa_cons (pv 8) (pa_cons (pv 9) pa_nil)))))) (pss_one (ps_ret (pv 8))))))))), ?_⟩
    have lo := X.lo
    have hkeys : (M.map (·.1)).Perm (L.map (·.1)) := by
      rw [← numsL_keys]
      exact pM.map _
    have hlM : M.length = L.length := by rw [pM.length_eq, numsL, List.length_map]
    have hL := lo.len
    -- the folders
    refine ⟨fun σ' H' => ∃ fl fs, σ' = [some (.ref bx), some (.ref h), some (.ref m), some (.ref ul), some (.ref fl), none, none, none, none, none] ∧ Same H H' ∧ H' fl = some (.lst (pathsV fs)) ∧ fs ≠ [] ∧ fs.length ≤ 14 ∧ ∀ q ∈ fs, q ∈ L.map (·.1) ∧ isF q = false, ?_, ?_⟩
    · refine ⟨_, rfl, m, _, (M.map (·.1)).map pS, rfl, .inl eM, ?_, by rw [List.length_map, List.length_map]; omega, fun ys l0 pm _ n0 => ?_⟩
      · exact keys_txt M
      obtain ⟨qs, pq, rfl⟩ := perm_pull pm rfl
      have hqs : qs.Perm (L.map (·.1)) := pq.trans hkeys
      have hlq : qs.length = L.length := by rw [hqs.length_eq, List.length_map]
      have e0 : (upd H l0 (.lst ((qs.map pS).map V.str))) l0 = some (.lst (pathsV qs)) := by
        rw [upd_same, List.map_map]
        rfl
      refine ⟨l0, rfl, ⟨_, SqL.of e0⟩, fun D0 nD => ?_⟩
      refine lc_it (walk_list (xs := pathsV qs)) (fun i H5 => Same (upd H l0 (.lst ((qs.map pS).map V.str))) H5 ∧ H5 D0 = some (.lst (pathsV ((qs.take i).filter nearB)))) ⟨same_upd nD, upd_same⟩ (fun i H5 _ z => SqL.of (z.1 _ _ e0)) ?_ ?_
      · rintro i v H5 H6 hi ⟨sm, eD⟩ ⟨rfl, ev⟩
        obtain ⟨q, eq, rfl⟩ : ∃ q, qs[i]? = some q ∧ v = .str (pS q) := by
          unfold pathsV at ev
          rw [List.getElem?_map] at ev
          cases e : qs[i]? with
          | none => rw [e] at ev; cases ev
          | some q => rw [e] at ev; exact ⟨q, rfl, (Option.some.inj ev).symm⟩
        have hq := lo.okk (hqs.mem_iff.mp (List.mem_of_getElem? eq))
        obtain ⟨x, hx, hx2⟩ := last_of hq
        have hxs : decide (V.str ⟨#[x]⟩ = V.str (Str.ofString "f")) = isF q := isF_sign hx2
        have hsl := hq.slen
        have step : ∀ b, nearB q = b → (qs.take (i + 1)).filter nearB = (qs.take i).filter nearB ++ (if b = true then [q] else []) := by
          intro b hb
          rw [filt_succ eq, hb]
        refine ⟨rfl, _, rfl, ⟨_, rfl⟩, _, _, rfl, rfl, _, _, rfl, rfl, _, rfl, ?_⟩
        by_cases hc : Txt.count (pS q) (Str.ofString "/") < 4
        · refine iteY (decide_eq_true hc) ⟨_, rfl, _, rfl, _, _, x, rfl, rfl, smL (by omega), hx, rfl, _, rfl, ?_⟩
          cases hf : isF q with
          | true =>
            refine iteN (show (!decide (V.str ⟨#[x]⟩ = V.str (Str.ofString "f"))) = false by rw [hxs, hf]; rfl) ⟨sm, ?_⟩
            rw [eD, step false (by unfold nearB; rw [hf]; simp)]
            simp
          | false =>
            refine iteY (show (!decide (V.str ⟨#[x]⟩ = V.str (Str.ofString "f"))) = true by rw [hxs, hf]; rfl) ⟨_, rfl, _, eD, ?_, same_new sm nD, ?_⟩
            · unfold pathsV
              rw [List.length_map]
              have := List.length_filter_le nearB (qs.take i)
              rw [List.length_take] at this
              exact smT (by omega)
            · rw [upd_same, step true (by unfold nearB; rw [hf, decide_eq_true hc]; rfl)]
              simp [pathsV]
        · refine iteN (decide_eq_false hc) (iteN rfl ⟨sm, ?_⟩)
          rw [eD, step false (by unfold nearB; rw [decide_eq_false hc]; rfl)]
          simp
      · rintro H5 ⟨sm, eD⟩
        have hl : (pathsV qs).length = qs.length := by simp [pathsV]
        rw [hl, List.take_length] at eD
        obtain ⟨a0, m0⟩ := lo.g0
        have h0 : ([] : Pa) ∈ qs.filter nearB := List.mem_filter.mpr ⟨hqs.mem_iff.mpr (List.mem_map.mpr ⟨_, m0, rfl⟩), near_nil⟩
        refine ⟨D0, qs.filter nearB, rfl, (same_upd n0).trans sm, eD, fun z => by rw [z] at h0; simp at h0, ?_, fun q hq => ?_⟩
        · have := List.length_filter_le nearB qs
          omega
        · obtain ⟨hq1, hq2⟩ := List.mem_filter.mp hq
          refine ⟨hqs.mem_iff.mp hq1, ?_⟩
          unfold nearB at hq2
          rw [Bool.and_eq_true, Bool.not_eq_true'] at hq2
          exact hq2.2
    rintro _ H1 ⟨fl, fs, rfl, s1, efl, hfs, hfl, hfs2⟩
    have B1 := B.same s1
    have X1 := X.same s1
    have nfl : fl ≠ bx := by
      obtain ⟨q0, fs', rfl⟩ := List.exists_cons_of_ne_nil hfs
      exact B1.ne_lst efl fun i z => nomatch z
    have nul : ul ≠ bx := by
      obtain ⟨u0, us', rfl⟩ : ∃ a b, usl = a :: b := by
        cases usl with
        | nil => exact absurd hu1 (by decide)
        | cons a b => exact ⟨a, b, rfl⟩
      exact B.ne_lst eul fun i z => nomatch z
    have nml : m ≠ bx := by
      obtain ⟨a, b, d, e, _⟩ := B
      exact ne_of eM e fun z => nomatch z
    have hpl : (pathsV fs).length = fs.length := by simp [pathsV]
    have h1 : 1 ≤ fs.length := List.length_pos_iff.mpr hfs
    -- at
    refine ⟨fun σ' H' => ∃ o, σ' = [some (.ref bx), some (.ref h), some (.ref m), some (.ref ul), some (.ref fl), some (.str (pS o)), none, none, none, none] ∧ SameX bx H H' ∧ BoxAt H' bx (n + 1) ∧ o ∈ L.map (·.1) ∧ isF o = false, ?_, ?_⟩
    · refine ⟨_, rfl, _, rfl, _, rfl, fl, _, rfl, .inl (SqL.of efl), bx, fs.length, n, by rw [hpl], h1, by omega, B1, by omega, fun H2 d s2 B2 hd => ?_⟩
      obtain ⟨o, eo⟩ : ∃ o, fs[d]? = some o := ⟨_, List.getElem?_eq_getElem hd⟩
      have eo' : (pathsV fs)[d]? = some (.str (pS o)) := by
        unfold pathsV
        rw [List.getElem?_map, eo]
        rfl
      have mo := hfs2 o (List.mem_of_getElem? eo)
      exact ⟨fl, _, _, _, rfl, rfl, SqL.of (s2 _ _ nfl efl), atI_nat eo', o, rfl, s1.toX.trans s2, B2, mo.1, mo.2⟩
    rintro _ H2 ⟨o, rfl, s2, B2, ho, hof⟩
    -- way, name
    refine ⟨fun σ' H' => ∃ (w : Nat) (nm : List Nat), nm ∈ nms ∧ σ' = [some (.ref bx), some (.ref h), some (.ref m), some (.ref ul), some (.ref fl), some (.str (pS o)), some (.int w), some (.str (S nm)), none, none] ∧ SameX bx H H' ∧ BoxAt H' bx (n + 3), ?_, ?_⟩
    · refine ⟨_, rfl, bx, 3, n + 1, rfl, by decide, by decide, B2, by omega, fun H3 w s3 B3 hw => ?_⟩
      refine ⟨smL (by simp), fun l nl => ?_⟩
      have B3' := B3.same (same_upd nl (o := .lst [.str "a", .str "ab", .str "b", .str "f", .str "af", .str "root"]))
      have hlb : l ≠ bx := B3'.ne_lst upd_same fun i z => nomatch z
      refine ⟨_, rfl, bx, 6, n + 2, rfl, by decide, by decide, B3', by omega, fun H4 d s4 B4 hd => ?_⟩
      obtain ⟨nm, en⟩ : ∃ nm, nms[d]? = some nm := ⟨_, List.getElem?_eq_getElem hd⟩
      have en' : ([.str "a", .str "ab", .str "b", .str "f", .str "af", .str "root"] : List V)[d]? = some (.str (S nm)) := by
        have e2 : ([.str "a", .str "ab", .str "b", .str "f", .str "af", .str "root"] : List V) = (nms.map S).map V.str := rfl
        rw [e2, List.getElem?_map, List.getElem?_map, en]
        rfl
      refine ⟨l, _, _, _, rfl, rfl, SqL.of (s4 _ _ hlb upd_same), atI_nat en', ?_⟩
      exact ⟨_, _, rfl, w, nm, List.mem_of_getElem? en, rfl, ((s2.trans s3).new nl).trans s4, B4⟩
    rintro _ H3 ⟨w, nm, hnm, rfl, s3, B3⟩
    have hnmok := nms_ok nm hnm
    have hko := lo.okk ho
    have hq : okP (o ++ [nm]) := by
      obtain ⟨y, hy, e⟩ := List.mem_map.mp ho
      have e : y.1 = o := e
      have := (lo.ok y hy).1
      rw [e] at this
      refine ⟨by rw [List.length_append]; show o.length + 1 ≤ 100; omega, fun z hz => ?_⟩
      rcases List.mem_append.mp hz with hz | hz
      · exact hko.2 z hz
      · rw [List.mem_singleton.mp hz]
        exact hnmok
    -- the path
    refine ⟨fun σ' H' => σ' = [some (.ref bx), some (.ref h), some (.ref m), some (.ref ul), some (.ref fl), some (.str (pS o)), some (.int w), some (.str (S nm)), some (.str (pS (o ++ [nm]))), none] ∧ H3 = H', ?_, ?_⟩
    · have hl1 := hko.slen
      have hl2 : (S nm).length ≤ 8 := by rw [S_len]; exact hnmok.2.1
      refine ⟨_, rfl, rfl, _, rfl, ?_⟩
      have hg := pS_ground hko
      by_cases e : o = []
      · refine iteY (show decide (V.str (pS o) = V.str (Str.ofString "/")) = true by rw [hg, decide_eq_true e]) ⟨_, rfl, _, rfl, _, _, rfl, rfl, smL (by omega), ?_, rfl⟩
        have e2 : pS o ++ S nm = pS (o ++ [nm]) := by
          rw [child_txt, if_pos e, e, pS_nil, sl47, S_cat]
        rw [e2]
        rfl
      · refine iteN (show decide (V.str (pS o) = V.str (Str.ofString "/")) = false by rw [hg, decide_eq_false e]) ⟨_, rfl, _, _, rfl, rfl, smL (by show _ + 1 ≤ _; omega), _, rfl, _, _, rfl, rfl, smL ?_, ?_, rfl⟩
        · rw [sl47, pS, S_cat, S_len, List.length_append]
          rw [pS, S_len] at hl1
          show _ + 1 + _ ≤ _
          omega
        have e2 : pS o ++ Str.ofString "/" ++ S nm = pS (o ++ [nm]) := by
          rw [child_txt, if_neg e, sl47, pS, S_cat, S_cat, List.append_assoc]
        rw [e2]
        rfl
    rintro _ _ ⟨rfl, rfl⟩
    have eM3 := s3 _ _ nml eM
    have X3 := X.draw B s3
    have B3u := B3.up (show n + 3 ≤ n + 5 by omega)
    -- is it there, or too many
    refine ⟨_, rfl, _, rfl, m, _, rfl, DGet.k (k := Sum.inr (pS (o ++ [nm]))) eM3, _, rfl, ?_⟩
    by_cases hmem : o ++ [nm] ∈ M.map (·.1)
    · obtain ⟨y, hy, ey⟩ := List.mem_map.mp hmem
      have ey : y.1 = o ++ [nm] := ey
      have hv := marks_val lo pM hy
      rw [ey] at hv
      exact iteY (by rw [hv]; rfl) (K1 _ s3 B3u)
    have hnew : o ++ [nm] ∉ L.map (·.1) := fun z => hmem (hkeys.mem_iff.mpr z)
    have hnone : valV (marksK M) (Sum.inr (pS (o ++ [nm]))) = none := by
      refine val_not fun z => ?_
      rw [marksK_keys] at z
      obtain ⟨y, hy, ey⟩ := List.mem_map.mp z
      have := pS_inj (lo.okk (hkeys.mem_iff.mp hy)) hq (Sum.inr.inj ey)
      exact hmem (this ▸ hy)
    refine iteN (by rw [hnone]; rfl) ⟨_, rfl, m, _, rfl, eM3, _, _, rfl, rfl, _, rfl, ?_⟩
    rw [marksK_len]
    by_cases h13 : M.length > 13
    · exact iteY (decide_eq_true (by omega)) (K1 _ s3 B3u)
    refine iteN (decide_eq_false (by omega)) ?_
    have hL13 : L.length ≤ 13 := by omega
    have lo' := fun a => lo.add (q := o) (n := nm) a hD hnmok ho hof hnew hL13
    -- kind
    refine ⟨fun σ' H' => σ' = [some (.ref bx), some (.ref h), some (.ref m), some (.ref ul), some (.ref fl), some (.str (pS o)), some (.int w), some (.str (S nm)), some (.str (pS (o ++ [nm]))), some (.str (kT (isF (o ++ [nm]))))] ∧ H3 = H', ?_, ?_⟩
    · obtain ⟨x, hx, hx2⟩ := last_nm hnmok
      have hxs := child_sign (o := o) hnmok hx2
      have hl2 : (S nm).length ≤ 8 := by rw [S_len]; exact hnmok.2.1
      refine ⟨_, rfl, _, rfl, _, _, x, rfl, rfl, smL (by omega), hx, rfl, _, rfl, ?_⟩
      cases hf : isF (o ++ [nm]) with
      | true => exact iteY (show decide (V.str ⟨#[x]⟩ = V.str (Str.ofString "f")) = true by rw [hxs, hf]) ⟨rfl, rfl⟩
      | false => exact iteN (show decide (V.str ⟨#[x]⟩ = V.str (Str.ofString "f")) = false by rw [hxs, hf]) ⟨rfl, rfl⟩
    rintro _ _ ⟨rfl, rfl⟩
    -- the deed, or the administrator
    have hbh := B3.ne_ho X3.ho
    refine ⟨fun σ' H' => σ' = [some (.ref bx), some (.ref h), some (.ref m), some (.ref ul), some (.ref fl), some (.str (pS o)), some (.int w), some (.str (S nm)), some (.str (pS (o ++ [nm]))), some (.str (kT (isF (o ++ [nm]))))] ∧ ∃ st' a, SameY bx h H H' ∧ BoxAt H' bx (n + 5) ∧ HSt c H' h p j us st' (L ++ [(o ++ [nm], k, a)]) (k + 1) (D + 1), ?_, ?_⟩
    · have addp : ∀ H4, SameX bx H H4 → BoxAt H4 bx (n + 5) → HSt c H4 h p j us st L k D → ∀ (H' : Hp) (st' a : Addr), SameX h H4 H' → HoAt c H' h p j st' → StAt c H' us st' (L ++ [(o ++ [nm], k, a)]) (k + 1) → SameY bx h H H' ∧ BoxAt H' bx (n + 5) ∧ HSt c H' h p j us st' (L ++ [(o ++ [nm], k, a)]) (k + 1) (D + 1) := by
        intro H4 s4 B4 X4 H' st' a sx ho' sa
        exact ⟨fun x o' h1 h2 e => sx _ _ h2 (s4 _ _ h1 e), B4.sx sx hbh, X4.put sx ho' sa (lo' a)⟩
      obtain ⟨dx, eh⟩ := X3.ho
      refine ⟨_, rfl, rfl, _, rfl, ?_⟩
      by_cases hw : w = 0
      · refine iteY (decide_eq_true (congrArg V.int (by omega))) ⟨_, rfl, rfl, _, rfl, ?_⟩
        by_cases ho2 : o = [tmp]
        · subst ho2
          refine iteY (by decide) ?_
          have eul3 := s3 _ _ nul eul
          have hul : (usV usl).length = usl.length := by simp [usV]
          refine ⟨_, rfl, _, rfl, _, rfl, _, rfl, ul, _, rfl, .inl (SqL.of eul3), bx, usl.length, n + 3, by rw [hul], hu1, by omega, B3, by omega, fun H4 d s4 B4 hd => ?_⟩
          obtain ⟨u, eu⟩ : ∃ u, usl[d]? = some u := ⟨_, List.getElem?_eq_getElem hd⟩
          have eu' : (usV usl)[d]? = some (.str (S u)) := by
            unfold usV
            rw [List.getElem?_map, List.getElem?_map, eu]
            rfl
          refine ⟨ul, _, _, _, rfl, rfl, SqL.of (s4 _ _ nul eul3), atI_nat eu', _, rfl, _, rfl, smL (by simp), fun l nl => ?_⟩
          have B4' := B4.same (same_upd nl (o := .lst [.str "700", .str "777", .str "000"]))
          have hlb : l ≠ bx := B4'.ne_lst upd_same fun i z => nomatch z
          refine ⟨_, rfl, bx, 3, n + 4, rfl, by decide, by decide, B4', by omega, fun H5 d2 s5 B5 hd2 => ?_⟩
          obtain ⟨d1, d2', d3, edg, g1, g2, g3⟩ : ∃ a b c, ([.str "700", .str "777", .str "000"] : List V)[d2]? = some (.str (oT a b c)) ∧ a < 8 ∧ b < 8 ∧ c < 8 := by
            match d2, hd2 with
            | 0, _ => exact ⟨7, 0, 0, rfl, by decide, by decide, by decide⟩
            | 1, _ => exact ⟨7, 7, 7, rfl, by decide, by decide, by decide⟩
            | 2, _ => exact ⟨0, 0, 0, rfl, by decide, by decide, by decide⟩
          refine ⟨l, _, _, _, rfl, rfl, SqL.of (s5 _ _ hlb upd_same), atI_nat edg, smL (by simp), fun t nt => ?_⟩
          have s35 : SameX bx H3 (upd H5 t (.tup (dvV u (isF ([tmp] ++ [nm])) ([tmp] ++ [nm]) d1 d2' d3))) := ((s4.new nl).trans s5).new nt
          have X5 := X3.draw B3 s35
          have B5' := B5.same (same_upd nt (o := .tup (dvV u (isF ([tmp] ++ [nm])) ([tmp] ++ [nm]) d1 d2' d3)))
          refine ⟨h, p, j, us, st, L, k, D, u, nm, d1, d2', d3, t, rfl, upd_same, X5, hus u (List.mem_of_getElem? eu), hnmok, hnew, g1, g2, g3, fun H' st' a sx ho' sa => ⟨rfl, st', a, ?_⟩⟩
          exact addp _ (s3.trans s35) B5' X5 H' st' a sx ho' sa
        · refine iteN (decide_eq_false fun z => ho2 ?_) ?_
          · refine pS_inj hko tmp_okP ?_
            rw [tmp_S]
            exact V.str.inj z
          · refine ⟨_, rfl, h, dx, _, rfl, eh, rfl, _, rfl, _, rfl, h, p, j, us, st, L, k, D, _, rfl, X3, o, nm, rfl, hq, hnew, ho, hof, fun H' st' a sx ho' sa => ⟨rfl, st', a, addp H3 s3 B3u X3 H' st' a sx ho' sa⟩⟩
      · refine iteN (decide_eq_false fun z => hw (by have := V.int.inj z; omega)) ?_
        refine ⟨_, rfl, h, dx, _, rfl, eh, rfl, _, rfl, _, rfl, h, p, j, us, st, L, k, D, _, rfl, X3, o, nm, rfl, hq, hnew, ho, hof, fun H' st' a sx ho' sa => ⟨rfl, st', a, addp H3 s3 B3u X3 H' st' a sx ho' sa⟩⟩
    rintro _ H4 ⟨rfl, st', a, sy, B4, X4⟩
    exact ⟨_, rfl, K2 H4 (o ++ [nm]) st' a sy B4 X4 hq hnew⟩
end K37
end
section
set_option Elab.async false
set_option linter.all false
set_option maxRecDepth 100000
set_option maxHeartbeats 4000000
/-! L5: the law's cut and move. -/
namespace K37
open PySem PySem.Spec PyProof.Rows L2 StX ClX SX
open C8 (sl_txt rSlX pss_cut tCut)
theorem strs_lay : ∀ {l : List Str}, (∀ x ∈ l, PyData.strOk x = true) → PyData.canLayAll0 (l.map PyData.str) = true
  | [], _ => by simp [PyData.canLayAll0]
  | x :: l, h => by
    have h1 := strs_lay fun y hy => h y (List.mem_cons_of_mem _ hy)
    simp only [List.map_cons, PyData.canLayAll0, PyData.canLay0, h1, h x List.mem_cons_self, Bool.and_self]
theorem strs_depth : ∀ l : List Str, PyData.depthAll (l.map PyData.str) ≤ 2
  | [] => by simp [PyData.depthAll]
  | x :: l => by
    have h1 := strs_depth l
    simp only [List.map_cons, PyData.depthAll, PyData.depth]
    omega
theorem strs_shaped {l : List Str} (h : ∀ x ∈ l, PyData.strOk x = true) : SeqAt.shaped (.list (l.map PyData.str)) = true := by
  have h1 := strs_depth l
  have h2 : PyData.depth (.list (l.map PyData.str)) ≤ 64 := by
    simp only [PyData.depth]
    omega
  show (PyData.canLay0 _ && decide (PyData.depth _ ≤ 64)) = true
  rw [Bool.and_eq_true]
  exact ⟨by simp only [PyData.canLay0]; exact strs_lay h, decide_eq_true h2⟩
theorem strs_eqv (l : List Str) : PyData.eqv (.list (l.map PyData.str)) (.list []) = l.isEmpty := by
  cases l with
  | nil => simp only [List.map_nil, PyData.eqv, PyData.eqvAll]; rfl
  | cons x l => simp only [List.map_cons, PyData.eqv, PyData.eqvAll]; rfl
theorem seg_codes : ∀ {p : Pa}, (∀ n ∈ p, okN n) → ∀ x ∈ seg p, x < 1000
  | [], _, x, h => by simp [seg] at h
  | n :: p, ok, x, h => by
    rw [seg_cons] at h
    rcases List.mem_cons.mp h with rfl | h
    · decide
    · rcases List.mem_append.mp h with h | h
      · have := ((ok n List.mem_cons_self).2.2 x h).2
        omega
      · exact seg_codes (fun m hm => ok m (List.mem_cons_of_mem _ hm)) x h
theorem path_strOk {q : Pa} (h : okP q) : PyData.strOk (pS q) = true := by
  show (pS q).cps.all (· < 0x110000) = true
  rw [← Array.all_toList, List.all_eq_true]
  intro x hx
  have hx : x ∈ ptl q := hx
  have : x < 1000 := by
    cases q with
    | nil => rw [List.mem_singleton.mp hx]; decide
    | cons n q => exact seg_codes h.2 x hx
  exact decide_eq_true (by omega)
theorem paths_dp {K : PySem.W.Frag} {H : Hp} : ∀ l : List Pa, DpAll K H (pathsV l) ((l.map pS).map PyData.str)
  | [] => .nil
  | q :: l => .cons (.str _) (paths_dp l)
/-- the law's cut -/
def spLCut (c : Ct) : Sp := fun vs H Q _ => ∃ bx h p j us st L k D m n, vs = [.ref bx, .ref h, .ref m] ∧ HSt c H h p j us st L k D ∧ MAt H m L ∧ BoxAt H bx n ∧ n ≤ 90000 ∧
  (∀ H', SameX bx H H' → BoxAt H' bx (n + 2) → Q .non H') ∧
  ∀ H' m' q st', SameY bx h H H' → BoxAt H' bx (n + 2) → HSt c H' h p j us st' (L.filter fun x => stays q x.1) k D → MAt H' m' (L.filter fun x => stays q x.1) → Q (.ref m') H'
abbrev N_l_cut : List Str := ["_law_box_here", "_law_house", "_law_marks_here", "_law_paths", "_law_path", "_law_one"]
theorem ok_lcut {c : Ct} (T : TxZ c) : Has c "_law_cut" 7 (spLCut c) := by
  obtain ⟨f, fd, mm, F⟩ := T.l_cut
  obtain ⟨fK, mK, kK, GK⟩ := ok_take T
  obtain ⟨fB, mB, kB, GB⟩ := ok_lbelow T
  obtain ⟨fC, MC, GC⟩ := ok_Hcut T.toTxH
  have CC := T.clH.cl
  refine Has.mk mm F (ps := ["_law_box_here", "_law_house", "_law_marks_here"]) (okD F sc_l_cut ?_ ?_) (fun _ _ _ _ _ _ us hl => match us, hl with | [_, _, _], _ => rfl)
  · rintro vs H Q E ⟨_, _, _, _, _, _, _, _, _, _, _, rfl, _⟩
    rfl
  · rintro cdv A outer s H vs Q E hr ⟨bx, h, p, j, us, st, L, k, D, m, n, rfl, X, ⟨M, eM, pM⟩, B, hn, K1, K2⟩
    have lo := X.lo
    refine ⟨_, pss_cut (ps_setLc (i := 3) (own := [("_law_path", 4)]) (g := gName 4) rfl sc_l_cut.nd rfl rfl (sw_true rfl rfl rfl (by decide +kernel)) (pi_list (pe_callB (call_sortedD rfl) rfl T.sorted (by decide +kernel) (pa_cons (pv 2) pa_nil))) (blkOk_by (N := N_l_cut) (sc := defScope s_l_cut) (by decide +kernel)) (fun _ _ _ _ _ => pg_name (i := 4) sc_l_cut.nd rfl (Or.inl rfl)) (fun _ _ _ _ _ => pts_one (pt_cmpR (op_notInK c.K) (pv 4) (pe_lst (pa_cons (pe_str) (pa_cons (pe_str) pa_nil))) rfl)) (fun _ _ _ _ _ => pv 4)) (pss_cons (ps_if (pt_cmpR (op_eqD hr.units) (pv 3) (pe_lst pa_nil) (nomark _)) (pss_one (ps_ret pe_non)) pss_nil) (pss_cons (ps_set (i := 4) sc_l_cut.nd rfl (Or.inr rfl) (pe_ix ix_list (pv 3) (pe_cR GK hr (by decide) kK rfl mK (pa_cons (pv 0) (pa_cons (pe_callB call_len_seq rfl T.len PySem.boot_len (pa_cons (pv 3) pa_nil)) pa_nil))) (fun _ _ => rfl))) (pss_cons (ps_expr (pe_mR CC MC GC hr (by decide) (pv 1) (pa_cons (pv 4) pa_nil))) (pss_one (ps_ret (pe_callTy (call_dictP rfl) rfl T.dict (by decide +kernel) (pa_cons (pe_lock (pe_lc (own := [("_law_one", 5)]) (g := gName 5) rfl sc_l_cut.nd (pi_keys (pv 2)) (blkOk_by (N := N_l_cut) (sc := defScope s_l_cut) (by decide +kernel)) (fun _ _ _ _ _ => pg_name (i := 5) sc_l_cut.nd rfl (Or.inl rfl)) (fun _ _ _ _ _ => pts_one (PW.pt (pw_and (pt_cmpR op_ne (pv 5) (pv 4) (nomark _)) (pw_and1 (pt_not (pt_val (pe_cR GB hr (by decide) kB rfl mB (pa_cons (pv 5) (pa_cons (pv 4) pa_nil))))))))) (fun _ _ _ _ _ => pe_tup (pa_cons (pv 5) (pa_cons (pe_dget (hu_of hr) (pv 2) (pv 5) (fun _ _ => rfl)) pa_nil))))) pa_nil))))))), ?_⟩
    have hkeys : (M.map (·.1)).Perm (L.map (·.1)) := by
      rw [← numsL_keys]
      exact pM.map _
    have hlM : M.length = L.length := by rw [pM.length_eq, numsL, List.length_map]
    have hL := lo.len
    refine ⟨fun σ' H' => ∃ fl fs, σ' = [some (.ref bx), some (.ref h), some (.ref m), some (.ref fl), none, none] ∧ Same H H' ∧ H' fl = some (.lst (pathsV fs)) ∧ fs.length ≤ 14 ∧ ∀ q ∈ fs, q ∈ L.map (·.1) ∧ q ≠ [] ∧ q ≠ [tmp], ?_, ?_⟩
    · refine ⟨_, rfl, m, _, (M.map (·.1)).map pS, rfl, .inl eM, keys_txt M, by rw [List.length_map, List.length_map]; omega, fun ys l0 pm _ n0 => ?_⟩
      obtain ⟨qs, pq, rfl⟩ := perm_pull pm rfl
      have hqs : qs.Perm (L.map (·.1)) := pq.trans hkeys
      have hlq : qs.length = L.length := by rw [hqs.length_eq, List.length_map]
      have e0 : (upd H l0 (.lst ((qs.map pS).map V.str))) l0 = some (.lst (pathsV qs)) := by
        rw [upd_same, List.map_map]
        rfl
      refine ⟨l0, rfl, ⟨_, SqL.of e0⟩, fun D0 nD => ?_⟩
      refine lc_it (walk_list (xs := pathsV qs)) (fun i H5 => Same (upd H l0 (.lst ((qs.map pS).map V.str))) H5 ∧ H5 D0 = some (.lst (pathsV ((qs.take i).filter fun q => !groundB q)))) ⟨same_upd nD, upd_same⟩ (fun i H5 _ z => SqL.of (z.1 _ _ e0)) ?_ ?_
      · rintro i v H5 H6 hi ⟨sm, eD⟩ ⟨rfl, ev⟩
        obtain ⟨q, eq, rfl⟩ : ∃ q, qs[i]? = some q ∧ v = .str (pS q) := by
          unfold pathsV at ev
          rw [List.getElem?_map] at ev
          cases e : qs[i]? with
          | none => rw [e] at ev; cases ev
          | some q => rw [e] at ev; exact ⟨q, rfl, (Option.some.inj ev).symm⟩
        have hq := lo.okk (hqs.mem_iff.mp (List.mem_of_getElem? eq))
        have step : ∀ b, groundB q = b → (qs.take (i + 1)).filter (fun q => !groundB q) = (qs.take i).filter (fun q => !groundB q) ++ (if b = true then [] else [q]) := by
          intro b hb
          rw [filt_succ eq, hb]
          cases b <;> rfl
        have hgi : inV (.str (pS q)) [.str "/", .str "/tmp"] = groundB q := ground_in hq
        refine ⟨rfl, _, rfl, smL (by simp), fun lg ng => ?_⟩
        have sg : Same H6 (upd H6 lg (.lst [.str "/", .str "/tmp"])) := same_upd ng
        refine ⟨lg, _, rfl, .inl (SqL.of upd_same), rfl, rfl, _, rfl, ?_⟩
        cases hg : groundB q with
        | true =>
          refine iteN (show (!inV (.str (pS q)) [.str "/", .str "/tmp"]) = false by rw [hgi, hg]; rfl) ⟨sm.trans sg, ?_⟩
          rw [sg _ _ eD, step true hg]
          simp
        | false =>
          refine iteY (show (!inV (.str (pS q)) [.str "/", .str "/tmp"]) = true by rw [hgi, hg]; rfl) ⟨_, rfl, _, sg _ _ eD, ?_, same_new (sm.trans sg) nD, ?_⟩
          · unfold pathsV
            rw [List.length_map]
            have := List.length_filter_le (fun q => !groundB q) (qs.take i)
            rw [List.length_take] at this
            exact smT (by omega)
          · rw [upd_same, step false hg]
            simp [pathsV]
      · rintro H5 ⟨sm, eD⟩
        have hl : (pathsV qs).length = qs.length := by simp [pathsV]
        rw [hl, List.take_length] at eD
        refine ⟨D0, qs.filter fun q => !groundB q, rfl, (same_upd n0).trans sm, eD, ?_, fun q hq => ?_⟩
        · have := List.length_filter_le (fun q => !groundB q) qs
          omega
        · obtain ⟨hq1, hq2⟩ := List.mem_filter.mp hq
          have hq3 : groundB q = false := by rw [Bool.not_eq_true'] at hq2; exact hq2
          have hq4 := of_decide_eq_false (show decide (q = [] ∨ q = [tmp]) = false from hq3)
          exact ⟨hqs.mem_iff.mp hq1, fun z => hq4 (.inl z), fun z => hq4 (.inr z)⟩
    rintro _ H1 ⟨fl, fs, rfl, s1, efl, hfl, hfs2⟩
    have B1 := B.same s1
    have hpl : (pathsV fs).length = fs.length := by simp [pathsV]
    have nml : m ≠ bx := by
      obtain ⟨a, b, d, e, _⟩ := B
      exact ne_of eM e fun z => nomatch z
    -- none
    refine ⟨_, rfl, smL (by simp), fun l0 n0 => ?_⟩
    have efl0 := upd_old (o := .lst []) efl n0
    have hsh : SeqAt.shaped (.list ((fs.map pS).map PyData.str)) = true := strs_shaped fun x hx => by
      obtain ⟨q, hq, rfl⟩ := List.mem_map.mp hx
      exact path_strOk (lo.okk (hfs2 q hq).1)
    refine ⟨.list ((fs.map pS).map PyData.str), .list [], .lst (SqL.of efl0) (paths_dp fs), .lst (SqL.of upd_same) .nil, hsh, by decide +kernel, _, rfl, ?_⟩
    rw [strs_eqv]
    have s10 : Same H (upd H1 l0 (.lst [])) := s1.trans (same_upd n0)
    have B10 := B1.same (same_upd n0 (o := .lst []))
    by_cases hfs : fs = []
    · exact iteY (by rw [hfs]; rfl) (K1 _ s10.toX (B10.up (by omega)))
    refine iteN (by cases fs with | nil => exact absurd rfl hfs | cons _ _ => rfl) ?_
    have nfl : fl ≠ bx := by
      obtain ⟨q0, fs', rfl⟩ := List.exists_cons_of_ne_nil hfs
      exact B1.ne_lst efl fun i z => nomatch z
    have h1 : 1 ≤ fs.length := List.length_pos_iff.mpr hfs
    refine ⟨_, rfl, _, rfl, _, rfl, fl, _, rfl, .inl (SqL.of efl0), bx, fs.length, n, by rw [hpl], h1, by omega, B10, by omega, fun H2 d s2 B2 hd => ?_⟩
    obtain ⟨q, eq⟩ : ∃ q, fs[d]? = some q := ⟨_, List.getElem?_eq_getElem hd⟩
    have eq' : (pathsV fs)[d]? = some (.str (pS q)) := by
      unfold pathsV
      rw [List.getElem?_map, eq]
      rfl
    obtain ⟨mq, q0, q1⟩ := hfs2 q (List.mem_of_getElem? eq)
    have okq := lo.okk mq
    refine ⟨fl, _, _, _, rfl, rfl, SqL.of (s2 _ _ nfl efl0), atI_nat eq', ?_⟩
    have s02 := s10.toX.trans s2
    have X2 := X.draw B s02
    have hbh := B2.ne_ho X2.ho
    obtain ⟨dx, eh⟩ := X2.ho
    refine ⟨_, rfl, h, dx, _, rfl, eh, rfl, _, rfl, h, p, j, us, st, L, k, D, _, rfl, X2, q, rfl, mq, q0, q1, fun H3 st' s3 X3 => ?_⟩
    have nmh : m ≠ h := by
      obtain ⟨dx0, eh0⟩ := X.ho
      exact ne_of eM eh0 fun z => nomatch z
    have eM3 := s3 _ _ nmh (s02 _ _ nml eM)
    refine ⟨m, _, eM3, trivial, fun od => ?_⟩
    refine ⟨_, rfl, m, od, rfl, .inl ⟨_, upd_same, fun D0 nD => ?_⟩⟩
    refine lc_it (walk_keys (kvs := marksK M)) (fun i H5 => Same (upd H3 m (.frz od (.dK (marksK M)))) H5 ∧ ∃ prs : List Addr, H5 D0 = some (.lst (prs.map V.ref)) ∧ prs.length ≤ i ∧ Paired (fun a kv => H5 a = some (.tup [kV kv.1, kv.2])) prs (marksK ((M.take i).filter fun x => stays q x.1))) ⟨same_upd nD, [], upd_same, Nat.le_refl _, .nil⟩ (fun i H5 _ z => z.1 _ _ upd_same) ?_ ?_
    · rintro i v H5 H6 hi ⟨sm, prs, eD, hlp, hp⟩ ⟨rfl, kk, yy, exy, rfl⟩
      have hi2 : i < M.length := by rw [← marksK_len]; exact hi
      obtain ⟨⟨x, nn'⟩, eMi⟩ : ∃ z, M[i]? = some z := ⟨_, List.getElem?_eq_getElem hi2⟩
      rw [marksK_at eMi] at exy
      injection exy with exy
      injection exy with e1 e2
      subst e1
      have memx : (x, nn') ∈ M := List.mem_of_getElem? eMi
      have okx : okP x := lo.okk (hkeys.mem_iff.mp (List.mem_map.mpr ⟨_, memx, rfl⟩))
      have hv := marks_val lo pM memx
      have hdec := pS_ne okx okq
      refine ⟨rfl, _, rfl, _, rfl, rfl, _, rfl, ?_⟩
      by_cases e : x = q
      · refine iteN (show (!decide (V.str (pS x) = V.str (pS q))) = false by rw [hdec, decide_eq_true e]; rfl) (iteN rfl ⟨sm, prs, eD, by omega, ?_⟩)
        rw [filt_succ eMi]
        simpa [stays, e] using hp
      · refine iteY (show (!decide (V.str (pS x) = V.str (pS q))) = true by rw [hdec, decide_eq_false e]; rfl) ⟨_, rfl, _, rfl, x, q, rfl, okx, okq, q0, _, rfl, ?_⟩
        cases hb : below x q with
        | true =>
          refine iteN rfl ⟨sm, prs, eD, by omega, ?_⟩
          rw [filt_succ eMi]
          simpa [stays, e, hb] using hp
        | false =>
          refine iteY rfl ⟨_, rfl, _, rfl, _, rfl, m, _, rfl, .inl ⟨marksK M, Sum.inr (pS x), .inr ⟨od, sm _ _ upd_same⟩, rfl, hv.symm⟩, smL (by simp), fun t nt => ?_⟩
          have st6 : Same H6 (upd H6 t (.tup [.str (pS x), .int nn'])) := same_upd nt
          have eD6 := st6 _ _ eD
          have htD : t ≠ D0 := (ne_of_none eD nt).symm
          have hst : stays q x = true := by unfold stays; rw [decide_eq_false e, hb]; rfl
          refine ⟨prs.map V.ref, eD6, smT (by rw [List.length_map]; omega), same_new (sm.trans st6) nD, prs ++ [t], by rw [upd_same]; simp, by rw [List.length_append]; exact Nat.succ_le_succ hlp, ?_⟩
          have e3 : marksK ((M.take (i + 1)).filter fun x => stays q x.1) = marksK ((M.take i).filter fun x => stays q x.1) ++ [((Sum.inr (pS x) : Key), V.int nn')] := by
            rw [filt_succ eMi, if_pos hst]
            simp [marksK]
          rw [e3]
          refine paired_snoc (paired_mono hp fun a kv z => ?_) (by rw [upd_ne htD]; exact upd_same)
          have z6 := st6 _ _ z
          rw [upd_ne (ne_of z6 eD6 fun w => nomatch w)]
          exact z6
    · rintro H5 ⟨sm, prs, eD, hlp, hp⟩
      rw [marksK_len, List.take_length] at hp
      have hDn : D0 ≠ m := fun z => by subst z; rw [upd_same] at nD; cases nD
      have sU : Same H3 (upd H5 m (.dK (marksK M))) := lock_same eM3 sm
      refine ⟨sm _ _ upd_same, D0, prs, _, rfl, SqL.of (by rw [upd_ne hDn]; exact eD), paired_mono hp fun a kv z => SqT.of ?_, fun m' nm' => ?_⟩
      · have hne : a ≠ m := fun w => by subst w; rw [sm _ _ upd_same] at z; cases z
        rw [upd_ne hne]
        exact z
      have lo2 := lo.cut q0 q1
      have pM2 : (M.filter fun x => stays q x.1).Perm (numsL (L.filter fun x => stays q x.1)) := by
        have z := pM.filter fun x => stays q x.1
        have e : (numsL L).filter (fun x => stays q x.1) = numsL (L.filter fun x => stays q x.1) := by
          unfold numsL
          rw [List.filter_map]
          rfl
        rw [← e]
        exact z
      have hk2 : ((M.filter fun x => stays q x.1).map (·.1)).Perm ((L.filter fun x => stays q x.1).map (·.1)) := by
        rw [← numsL_keys]
        exact pM2.map _
      have em : mergeK [] (marksK (M.filter fun x => stays q x.1)) = marksK (M.filter fun x => stays q x.1) := by
        rw [mergeK_app _ [] ?_, List.nil_append]
        rw [marksK_keys, List.map_nil, List.nil_append]
        exact keys_nodup (hk2.nodup_iff.mpr lo2.nd) fun q hq => lo2.okk (hk2.mem_iff.mp hq)
      rw [em]
      have s3e : Same H3 (upd (upd H5 m (.dK (marksK M))) m' (.dK (marksK (M.filter fun x => stays q x.1)))) := sU.trans (same_upd nm')
      refine K2 _ m' q st' (fun x o h1 h2 e => s3e _ _ (s3 _ _ h2 (s02 _ _ h1 e))) (((B2.sx s3 hbh).same s3e).up (by omega)) (X3.same s3e) ⟨_, upd_same, pM2⟩
end K37
end
section
set_option Elab.async false
set_option linter.all false
set_option maxRecDepth 100000
set_option maxHeartbeats 4000000
/-! L6: the law's move. -/
namespace K37
open PySem PySem.Spec PyProof.Rows L2 StX ClX SX
open C8 (sl_txt rSlX pss_cut tCut)
def moved (f : Bool) : List Nat := if f then [109, 111, 118, 101, 100, 102] else [109, 111, 118, 101, 100]
def toP (b : Bool) (f : Bool) : Pa := if b then [tmp] ++ [moved f] else [] ++ [moved f]
theorem moved_ok (f : Bool) : okN (moved f) := by cases f <;> exact ⟨by decide, by decide, by decide⟩
theorem toP_txt (b : Bool) : pS (toP b false) = if b then Str.ofString "/tmp/moved" else Str.ofString "/moved" := by cases b <;> rfl
theorem toP_f (b : Bool) : pS (toP b false) ++ Str.ofString "f" = pS (toP b true) := by cases b <;> decide
theorem toP_isF (b f : Bool) : isF (toP b f) = f := by cases b <;> cases f <;> decide
theorem toP_ok (b f : Bool) : okP (toP b f) := by
  cases b
  · exact ⟨by cases f <;> decide, fun n hn => by rw [show n = moved f from List.mem_singleton.mp hn]; exact moved_ok f⟩
  · exact tmpn_ok (moved_ok f)
theorem mv_ok {L : Tr} {k : Int} {D : Nat} (lo : LOk L k D) {q : Pa} (b : Bool) (mq : q ∈ L.map (·.1)) (q0 : q ≠ []) (q1 : q ≠ [tmp]) (tn : toP b (isF q) ∉ L.map (·.1)) (hD : D + 1 ≤ 98) : ∃ o n, MvOk L D q (toP b (isF q)) o n := by
  have nb : below (toP b (isF q)) q = false := by
    cases hb : below (toP b (isF q)) q with
    | false => rfl
    | true =>
      obtain ⟨r, hr, e⟩ := below_iff.mp hb
      obtain ⟨y, q', rfl⟩ := List.exists_cons_of_ne_nil q0
      obtain ⟨z, r', rfl⟩ := List.exists_cons_of_ne_nil hr
      cases b
      · have e : [moved (isF (y :: q'))] = y :: (q' ++ z :: r') := e
        injection e with _ e
        exact absurd e.symm (by simp)
      · have e : [tmp, moved (isF (y :: q'))] = y :: (q' ++ z :: r') := e
        injection e with e1 e2
        cases q' with
        | nil => exact absurd (by rw [← e1]) q1
        | cons w q'' =>
          injection e2 with _ e2
          exact absurd e2.symm (by simp)
  obtain ⟨a0, m0⟩ := lo.g0
  obtain ⟨a1, m1⟩ := lo.g1
  cases b
  · exact ⟨[], moved (isF q), rfl, moved_ok _, by show 1 ≤ 2; decide, mq, q0, q1, tn, List.mem_map.mpr ⟨_, m0, rfl⟩, by decide, nb, toP_isF _ _, hD⟩
  · exact ⟨[tmp], moved (isF q), rfl, moved_ok _, by show 2 ≤ 2; decide, mq, q0, q1, tn, List.mem_map.mpr ⟨_, m1, rfl⟩, by decide, nb, toP_isF _ _, hD⟩
def mvM (q t : Pa) (M : MkL) : MkL := M.map fun x => (mvP q t x.1, x.2)
def spLShift (c : Ct) : Sp := fun vs H Q _ => ∃ bx h p j us st L k D m n, vs = [.ref bx, .ref h, .ref m] ∧ HSt c H h p j us st L k D ∧ MAt H m L ∧ BoxAt H bx n ∧ n ≤ 90000 ∧ D + 1 ≤ 98 ∧
  (∀ H', SameX bx H H' → BoxAt H' bx (n + 2) → Q .non H') ∧
  ∀ H' m' q t st', SameY bx h H H' → BoxAt H' bx (n + 2) → HSt c H' h p j us st' (mvL q t L) k (D + 1) → MAt H' m' (mvL q t L) → Q (.ref m') H'
abbrev N_l_shifted : List Str := ["_law_box_here", "_law_house", "_law_marks_here", "_law_paths", "_law_path", "_law_to", "_law_found", "_law_one"]
theorem ok_lshift {c : Ct} (T : TxZ c) : Has c "_law_shifted" 8 (spLShift c) := by
  obtain ⟨f, fd, mm, F⟩ := T.l_shifted
  obtain ⟨fK, mK, kK, GK⟩ := ok_take T
  obtain ⟨fB, mB, kB, GB⟩ := ok_lbelow T
  obtain ⟨fS, MS, GS⟩ := ok_Hshift T.toTxH
  have CS := T.clH.cl
  refine Has.mk mm F (ps := ["_law_box_here", "_law_house", "_law_marks_here"]) (okD F sc_l_shifted ?_ ?_) (fun _ _ _ _ _ _ us hl => match us, hl with | [_, _, _], _ => rfl)
  · rintro vs H Q E ⟨_, _, _, _, _, _, _, _, _, _, _, rfl, _⟩
    rfl
  · rintro cdv A outer s H vs Q E hr ⟨bx, h, p, j, us, st, L, k, D, m, n, rfl, X, ⟨M, eM, pM⟩, B, hn, hD, K1, K2⟩
    have lo := X.lo
    refine ⟨_, pss_cut (ps_setLc (i := 3) (own := [("_law_path", 4)]) (g := gName 4) rfl sc_l_shifted.nd rfl rfl (sw_true rfl rfl rfl (by decide +kernel)) (pi_list (pe_callB (call_sortedD rfl) rfl T.sorted (by decide +kernel) (pa_cons (pv 2) pa_nil))) (blkOk_by (N := N_l_shifted) (sc := defScope s_l_shifted) (by decide +kernel)) (fun _ _ _ _ _ => pg_name (i := 4) sc_l_shifted.nd rfl (Or.inl rfl)) (fun _ _ _ _ _ => pts_one (pt_cmpR (op_notInK c.K) (pv 4) (pe_lst (pa_cons (pe_str) (pa_cons (pe_str) pa_nil))) rfl)) (fun _ _ _ _ _ => pv 4)) (pss_cons (ps_if (pt_cmpR (op_eqD hr.units) (pv 3) (pe_lst pa_nil) (nomark _)) (pss_one (ps_ret pe_non)) pss_nil) (pss_cut (ps_par (i := 4) (j := 5) (by rfl) sc_l_shifted.nd rfl rfl (by decide) rfl rfl (pa_cons (pe_ix ix_list (pv 3) (pe_cR GK hr (by decide) kK rfl mK (pa_cons (pv 0) (pa_cons (pe_callB call_len_seq rfl T.len PySem.boot_len (pa_cons (pv 3) pa_nil)) pa_nil))) (fun _ _ => rfl)) (pa_cons (pe_ix ix_list (pe_lst (pa_cons (pe_str) (pa_cons (pe_str) pa_nil))) (pe_cR GK hr (by decide) kK rfl mK (pa_cons (pv 0) (pa_cons (pe_int) pa_nil))) (fun _ _ => rfl)) pa_nil)) (by rfl)) (pss_cut (ps_set (i := 5) sc_l_shifted.nd rfl (Or.inl rfl) (pe_ifExp (pt_cmpR op_eq (pe_ix ix_str (pv 4) (pe_un un_neg pe_int) (fun _ _ => rfl)) pe_str (nomark _)) (pe_op op_add_str (pv 5) pe_str) (pv 5))) (pss_cons (ps_if (pt_cmp (pc_din (hu_of hr) (pv 5) (pv 2))) (pss_one (ps_ret pe_non)) pss_nil) (pss_cons (ps_expr (pe_mR CS MS GS hr (by decide) (pv 1) (pa_cons (pv 4) (pa_cons (pv 5) pa_nil)))) (pss_cons (ps_set (i := 6) sc_l_shifted.nd rfl (Or.inl rfl) (pe_dnewK)) (pss_cut (ps_lock (ps_for PassesOwn.never rfl (pi_keys (pv 2)) (pg_name (i := 7) sc_l_shifted.nd rfl (Or.inl rfl)) (pss_one (ps_dput (hu_of hr) (pv 6) (pe_ifExp (PW.pt (pw_or (pt_cmpR op_eq (pv 7) (pv 4) (nomark _)) (pw_or1 (pt_val (pe_cR GB hr (by decide) kB rfl mB (pa_cons (pv 7) (pa_cons (pv 4) pa_nil))))))) (pe_op op_add_str (pv 5) (pe_slice sl_txt (pv 7) (po_some (pe_callB call_len_str rfl T.len PySem.boot_len (pa_cons (pv 4) pa_nil))) po_none)) (pv 7)) (pe_dget (hu_of hr) (pv 2) (pv 7) (fun _ _ => rfl)) rfl)))) (pss_one (ps_ret (pv 6)))))))))), ?_⟩
    have hkeys : (M.map (·.1)).Perm (L.map (·.1)) := by
      rw [← numsL_keys]
      exact pM.map _
    have hlM : M.length = L.length := by rw [pM.length_eq, numsL, List.length_map]
    have hL := lo.len
    refine ⟨fun σ' H' => ∃ fl fs, σ' = [some (.ref bx), some (.ref h), some (.ref m), some (.ref fl), none, none, none, none] ∧ Same H H' ∧ H' fl = some (.lst (pathsV fs)) ∧ fs.length ≤ 14 ∧ ∀ q ∈ fs, q ∈ L.map (·.1) ∧ q ≠ [] ∧ q ≠ [tmp], ?_, ?_⟩
    · refine ⟨_, rfl, m, _, (M.map (·.1)).map pS, rfl, .inl eM, keys_txt M, by rw [List.length_map, List.length_map]; omega, fun ys l0 pm _ n0 => ?_⟩
      obtain ⟨qs, pq, rfl⟩ := perm_pull pm rfl
      have hqs : qs.Perm (L.map (·.1)) := pq.trans hkeys
      have hlq : qs.length = L.length := by rw [hqs.length_eq, List.length_map]
      have e0 : (upd H l0 (.lst ((qs.map pS).map V.str))) l0 = some (.lst (pathsV qs)) := by
        rw [upd_same, List.map_map]
        rfl
      refine ⟨l0, rfl, ⟨_, SqL.of e0⟩, fun D0 nD => ?_⟩
      refine lc_it (walk_list (xs := pathsV qs)) (fun i H5 => Same (upd H l0 (.lst ((qs.map pS).map V.str))) H5 ∧ H5 D0 = some (.lst (pathsV ((qs.take i).filter fun q => !groundB q)))) ⟨same_upd nD, upd_same⟩ (fun i H5 _ z => SqL.of (z.1 _ _ e0)) ?_ ?_
      · rintro i v H5 H6 hi ⟨sm, eD⟩ ⟨rfl, ev⟩
        obtain ⟨q, eq, rfl⟩ : ∃ q, qs[i]? = some q ∧ v = .str (pS q) := by
          unfold pathsV at ev
          rw [List.getElem?_map] at ev
          cases e : qs[i]? with
          | none => rw [e] at ev; cases ev
          | some q => rw [e] at ev; exact ⟨q, rfl, (Option.some.inj ev).symm⟩
        have hq := lo.okk (hqs.mem_iff.mp (List.mem_of_getElem? eq))
        have step : ∀ b, groundB q = b → (qs.take (i + 1)).filter (fun q => !groundB q) = (qs.take i).filter (fun q => !groundB q) ++ (if b = true then [] else [q]) := by
          intro b hb
          rw [filt_succ eq, hb]
          cases b <;> rfl
        have hgi : inV (.str (pS q)) [.str "/", .str "/tmp"] = groundB q := ground_in hq
        refine ⟨rfl, _, rfl, smL (by simp), fun lg ng => ?_⟩
        have sg : Same H6 (upd H6 lg (.lst [.str "/", .str "/tmp"])) := same_upd ng
        refine ⟨lg, _, rfl, .inl (SqL.of upd_same), rfl, rfl, _, rfl, ?_⟩
        cases hg : groundB q with
        | true =>
          refine iteN (show (!inV (.str (pS q)) [.str "/", .str "/tmp"]) = false by rw [hgi, hg]; rfl) ⟨sm.trans sg, ?_⟩
          rw [sg _ _ eD, step true hg]
          simp
        | false =>
          refine iteY (show (!inV (.str (pS q)) [.str "/", .str "/tmp"]) = true by rw [hgi, hg]; rfl) ⟨_, rfl, _, sg _ _ eD, ?_, same_new (sm.trans sg) nD, ?_⟩
          · unfold pathsV
            rw [List.length_map]
            have := List.length_filter_le (fun q => !groundB q) (qs.take i)
            rw [List.length_take] at this
            exact smT (by omega)
          · rw [upd_same, step false hg]
            simp [pathsV]
      · rintro H5 ⟨sm, eD⟩
        have hl : (pathsV qs).length = qs.length := by simp [pathsV]
        rw [hl, List.take_length] at eD
        refine ⟨D0, qs.filter fun q => !groundB q, rfl, (same_upd n0).trans sm, eD, ?_, fun q hq => ?_⟩
        · have := List.length_filter_le (fun q => !groundB q) qs
          omega
        · obtain ⟨hq1, hq2⟩ := List.mem_filter.mp hq
          have hq3 : groundB q = false := by rw [Bool.not_eq_true'] at hq2; exact hq2
          have hq4 := of_decide_eq_false (show decide (q = [] ∨ q = [tmp]) = false from hq3)
          exact ⟨hqs.mem_iff.mp hq1, fun z => hq4 (.inl z), fun z => hq4 (.inr z)⟩
    rintro _ H1 ⟨fl, fs, rfl, s1, efl, hfl, hfs2⟩
    have B1 := B.same s1
    have hpl : (pathsV fs).length = fs.length := by simp [pathsV]
    have nml : m ≠ bx := by
      obtain ⟨a, b, d, e, _⟩ := B
      exact ne_of eM e fun z => nomatch z
    -- none
    refine ⟨_, rfl, smL (by simp), fun l0 n0 => ?_⟩
    have efl0 := upd_old (o := .lst []) efl n0
    have hsh : SeqAt.shaped (.list ((fs.map pS).map PyData.str)) = true := strs_shaped fun x hx => by
      obtain ⟨q, hq, rfl⟩ := List.mem_map.mp hx
      exact path_strOk (lo.okk (hfs2 q hq).1)
    refine ⟨.list ((fs.map pS).map PyData.str), .list [], .lst (SqL.of efl0) (paths_dp fs), .lst (SqL.of upd_same) .nil, hsh, by decide +kernel, _, rfl, ?_⟩
    rw [strs_eqv]
    have s10 : Same H (upd H1 l0 (.lst [])) := s1.trans (same_upd n0)
    have B10 := B1.same (same_upd n0 (o := .lst []))
    by_cases hfs : fs = []
    · exact iteY (by rw [hfs]; rfl) (K1 _ s10.toX (B10.up (by omega)))
    refine iteN (by cases fs with | nil => exact absurd rfl hfs | cons _ _ => rfl) ?_
    have nfl : fl ≠ bx := by
      obtain ⟨q0, fs', rfl⟩ := List.exists_cons_of_ne_nil hfs
      exact B1.ne_lst efl fun i z => nomatch z
    have h1 : 1 ≤ fs.length := List.length_pos_iff.mpr hfs
    -- the path, where to
    refine ⟨fun σ' H' => ∃ (q : Pa) (b : Bool), q ∈ fs ∧ σ' = [some (.ref bx), some (.ref h), some (.ref m), some (.ref fl), some (.str (pS q)), some (.str (pS (toP b false))), none, none] ∧ SameX bx H H' ∧ BoxAt H' bx (n + 2), ?_, ?_⟩
    · refine ⟨_, rfl, _, rfl, _, rfl, fl, _, rfl, .inl (SqL.of efl0), bx, fs.length, n, by rw [hpl], h1, by omega, B10, by omega, fun H2 d s2 B2 hd => ?_⟩
      obtain ⟨q, eq⟩ : ∃ q, fs[d]? = some q := ⟨_, List.getElem?_eq_getElem hd⟩
      have eq' : (pathsV fs)[d]? = some (.str (pS q)) := by
        unfold pathsV
        rw [List.getElem?_map, eq]
        rfl
      refine ⟨fl, _, _, _, rfl, rfl, SqL.of (s2 _ _ nfl efl0), atI_nat eq', smL (by simp), fun l nl => ?_⟩
      have B2' := B2.same (same_upd nl (o := .lst [.str "/moved", .str "/tmp/moved"]))
      have hlb : l ≠ bx := B2'.ne_lst upd_same fun i z => nomatch z
      refine ⟨_, rfl, bx, 2, n + 1, rfl, by decide, by decide, B2', by omega, fun H3 d2 s3 B3 hd2 => ?_⟩
      obtain ⟨b, eb⟩ : ∃ b, ([.str "/moved", .str "/tmp/moved"] : List V)[d2]? = some (.str (pS (toP b false))) := by
        match d2, hd2 with
        | 0, _ => exact ⟨false, rfl⟩
        | 1, _ => exact ⟨true, rfl⟩
      exact ⟨l, _, _, _, rfl, rfl, SqL.of (s3 _ _ hlb upd_same), atI_nat eb, _, _, rfl, q, b, List.mem_of_getElem? eq, rfl, ((s10.toX.trans s2).new nl).trans s3, B3⟩
    rintro _ H2 ⟨q, b, hqf, rfl, s02, B2⟩
    obtain ⟨mq, q0, q1⟩ := hfs2 q hqf
    have okq := lo.okk mq
    -- the file's name
    refine ⟨fun σ' H' => σ' = [some (.ref bx), some (.ref h), some (.ref m), some (.ref fl), some (.str (pS q)), some (.str (pS (toP b (isF q)))), none, none] ∧ H2 = H', ?_, ?_⟩
    · obtain ⟨x, hx, hx2⟩ := last_of okq
      have hxs : decide (V.str ⟨#[x]⟩ = V.str (Str.ofString "f")) = isF q := isF_sign hx2
      have hsl := okq.slen
      have hsl2 := (toP_ok b false).slen
      refine ⟨_, rfl, _, rfl, _, _, x, rfl, rfl, smL (by omega), hx, rfl, _, rfl, ?_⟩
      cases hf : isF q with
      | true =>
        refine iteY (show decide (V.str ⟨#[x]⟩ = V.str (Str.ofString "f")) = true by rw [hxs, hf]) ⟨_, rfl, _, _, rfl, rfl, smL (by show _ + 1 ≤ _; omega), ?_, rfl⟩
        rw [toP_f]
        rfl
      | false => exact iteN (show decide (V.str ⟨#[x]⟩ = V.str (Str.ofString "f")) = false by rw [hxs, hf]) ⟨_, rfl, rfl, rfl⟩
    rintro _ _ ⟨rfl, rfl⟩
    have eM2 := s02 _ _ nml eM
    have X2 := X.draw B s02
    have hbh := B2.ne_ho X2.ho
    have okt := toP_ok b (isF q)
    refine ⟨_, rfl, _, rfl, m, _, rfl, DGet.k (k := Sum.inr (pS (toP b (isF q)))) eM2, _, rfl, ?_⟩
    by_cases hmem : toP b (isF q) ∈ M.map (·.1)
    · obtain ⟨y, hy, ey⟩ := List.mem_map.mp hmem
      have ey : y.1 = toP b (isF q) := ey
      have hv := marks_val lo pM hy
      rw [ey] at hv
      exact iteY (by rw [hv]; rfl) (K1 _ s02 B2)
    have hnew : toP b (isF q) ∉ L.map (·.1) := fun z => hmem (hkeys.mem_iff.mpr z)
    have hnone : valV (marksK M) (Sum.inr (pS (toP b (isF q)))) = none := by
      refine val_not fun z => ?_
      rw [marksK_keys] at z
      obtain ⟨y, hy, ey⟩ := List.mem_map.mp z
      have := pS_inj (lo.okk (hkeys.mem_iff.mp hy)) okt (Sum.inr.inj ey)
      exact hmem (this ▸ hy)
    refine iteN (by rw [hnone]; rfl) ?_
    obtain ⟨o, nm, MV⟩ := mv_ok lo b mq q0 q1 hnew hD
    generalize toP b (isF q) = t at okt MV
    obtain ⟨dx, eh⟩ := X2.ho
    refine ⟨_, rfl, h, dx, _, rfl, eh, rfl, _, rfl, _, rfl, h, p, j, us, st, L, k, D, _, rfl, X2, q, t, o, nm, rfl, MV, fun H3 st' s3 X3 => ?_⟩
    have nmh : m ≠ h := by
      obtain ⟨dx0, eh0⟩ := X.ho
      exact ne_of eM eh0 fun z => nomatch z
    have eM3 := s3 _ _ nmh eM2
    intro d n3
    have hdm : m ≠ d := ne_of_none eM3 n3
    have sd0 : Same H3 (upd H3 d (.dK [])) := same_upd n3
    refine ⟨fun σ' H' => ∃ y7, σ' = [some (.ref bx), some (.ref h), some (.ref m), some (.ref fl), some (.str (pS q)), some (.str (pS t)), some (.ref d), y7] ∧ Same H3 H' ∧ H' d = some (.dK (marksK (mvM q t M))), ?_, ?_⟩
    · refine ⟨m, _, sd0 _ _ eM3, trivial, fun od => ?_⟩
      refine ⟨_, rfl, m, od, rfl, .inl ⟨_, upd_same, ?_⟩⟩
      refine for_it (walk_keys (kvs := marksK M)) (fun i σ' H5 => ∃ y7, σ' = [some (.ref bx), some (.ref h), some (.ref m), some (.ref fl), some (.str (pS q)), some (.str (pS t)), some (.ref d), y7] ∧ (∀ b x, b ≠ m → H3 b = some x → H5 b = some x) ∧ H5 m = some (.frz od (.dK (marksK M))) ∧ H5 d = some (.dK (marksK (mvM q t (M.take i))))) ⟨none, rfl, fun b x hb e => ?_, upd_same, ?_⟩ ?_ ?_ ?_
      · rw [upd_ne hb]
        exact sd0 _ _ e
      · rw [upd_ne hdm.symm, upd_same]
        rfl
      · rintro i σ' H5 _ ⟨_, _, _, e, _⟩
        exact e
      · rintro i v σ' H5 H6 hi ⟨y7, rfl, fr, en, ed⟩ ⟨rfl, kk, yy, exy, rfl⟩
        have hi2 : i < M.length := by rw [← marksK_len]; exact hi
        obtain ⟨⟨x, nn'⟩, eMi⟩ : ∃ z, M[i]? = some z := ⟨_, List.getElem?_eq_getElem hi2⟩
        rw [marksK_at eMi] at exy
        injection exy with exy
        injection exy with e1 e2
        subst e1
        have memx : (x, nn') ∈ M := List.mem_of_getElem? eMi
        have memk : x ∈ L.map (·.1) := hkeys.mem_iff.mp (List.mem_map.mpr ⟨_, memx, rfl⟩)
        have okx : okP x := lo.okk memk
        have hv := marks_val lo pM memx
        have hdec := pS_ne okx okq
        have hlx := okx.slen
        have hlq := okq.slen
        have okmv : okP (mvP q t x) := by
          obtain ⟨w, hw, ew⟩ := List.mem_map.mp memk
          have ew : w.1 = x := ew
          have := (lo.mv MV).okp (q := (mvP q t w.1, w.2)) (List.mem_map.mpr ⟨w, hw, rfl⟩)
          rw [ew] at this
          exact this
        have hnone : valV (marksK (mvM q t (M.take i))) (Sum.inr (pS (mvP q t x))) = none := by
          refine val_not fun z => ?_
          rw [marksK_keys, mvM, List.map_map, List.map_map] at z
          obtain ⟨w, hw, ew⟩ := List.mem_map.mp z
          have hwk : w.1 ∈ L.map (·.1) := hkeys.mem_iff.mp (List.mem_map.mpr ⟨w, List.mem_of_mem_take hw, rfl⟩)
          have okw : okP (mvP q t w.1) := by
            obtain ⟨w', hw', ew'⟩ := List.mem_map.mp hwk
            have ew' : w'.1 = w.1 := ew'
            have := (lo.mv MV).okp (q := (mvP q t w'.1, w'.2)) (List.mem_map.mpr ⟨w', hw', rfl⟩)
            rw [ew'] at this
            exact this
          have e3 := pS_inj okw okmv (Sum.inr.inj ew)
          have e4 := mv_inj lo MV hwk memk e3
          have e5 : (M.map (·.1))[i]? = some x := by rw [List.getElem?_map, eMi]; rfl
          refine take_not (hkeys.nodup_iff.mpr lo.nd) e5 ?_
          rw [← List.map_take]
          exact List.mem_map.mpr ⟨w, hw, e4⟩
        have hlen : (marksK (mvM q t (M.take i))).length < sizeLine := by
          rw [marksK_len, mvM, List.length_map, List.length_take]
          exact smT (by omega)
        have fin : ∀ (H' : Hp), upd H6 d (.dK (putK (marksK (mvM q t (M.take i))) (Sum.inr (pS (mvP q t x))) (V.int nn'))) = H' → (∀ b x, b ≠ m → H3 b = some x → H' b = some x) ∧ H' m = some (.frz od (.dK (marksK M))) ∧ H' d = some (.dK (marksK (mvM q t (M.take (i + 1))))) := by
          rintro _ rfl
          refine ⟨fun b x hb e => ?_, ?_, ?_⟩
          · rw [upd_ne (ne_of_none e n3)]
            exact fr b x hb e
          · rw [upd_ne hdm]
            exact en
          · rw [upd_same, putK_new _ hnone, List.take_add_one, eMi]
            simp [mvM, marksK]
        have stp : ∀ z, goes q x = z → (if z = true then ∃ r, x = q ++ r ∧ mvP q t x = t ++ r else mvP q t x = x) := by
          intro z hz
          cases z with
          | true =>
            obtain ⟨r, e⟩ := goes_iff.mp hz
            exact ⟨r, e, by rw [e, mvP_app]⟩
          | false => exact mvP_not hz
        have mvtxt : ∀ r, x = q ++ r → pS t ++ Txt.slice (pS x) (some ((pS q).length : Int)) none = pS (t ++ r) := by
          rintro r rfl
          exact move_txt q0 (by rw [MV.e]; simp)
        refine ⟨_, rfl, _, rfl, m, _, rfl, .inl ⟨marksK M, Sum.inr (pS x), .inr ⟨od, en⟩, rfl, hv.symm⟩, _, rfl, ?_⟩
        have hlt := okt.slen
        refine ⟨_, rfl, _, rfl, rfl, _, rfl, ?_⟩
        have goal2 : ∀ r, x = q ++ r → mvP q t x = t ++ r → (Txt.slice (pS x) (some ((pS q).length : Int)) none).length ≤ 1000 := by
          rintro r rfl _
          rw [pS_app q0, show (pS q).length = (seg q).length by rw [pS, S_len, ptl_ne q0], from_app _ _ rfl, S_len]
          rw [pS_app q0, S_len, List.length_append] at hlx
          omega
        by_cases e : x = q
        · obtain ⟨r, er, emv⟩ := stp true (by unfold goes; rw [decide_eq_true e]; rfl)
          refine iteY (show decide (V.str (pS x) = V.str (pS q)) = true by rw [hdec, decide_eq_true e]) ?_
          refine ⟨_, rfl, _, rfl, _, rfl, pS q, rfl, smL (by omega), _, rfl, pS x, rfl, smL (by omega), _, _, rfl, rfl, smL (by have := goal2 r er emv; omega), d, _, rfl, DPut.k (k := Sum.inr (pS t ++ Txt.slice (pS x) (some ((pS q).length : Int)) none)) ed hlen, ?_⟩
          rw [mvtxt r er, ← emv]
          exact ⟨_, rfl, fin _ rfl⟩
        · refine iteN (show decide (V.str (pS x) = V.str (pS q)) = false by rw [hdec, decide_eq_false e]) ⟨_, rfl, _, rfl, x, q, rfl, okx, okq, q0, _, rfl, ?_⟩
          cases hb : below x q with
          | true =>
            obtain ⟨r, er, emv⟩ := stp true (by unfold goes; rw [hb, Bool.or_true])
            refine iteY rfl ?_
            refine ⟨_, rfl, _, rfl, _, rfl, pS q, rfl, smL (by omega), _, rfl, pS x, rfl, smL (by omega), _, _, rfl, rfl, smL (by have := goal2 r er emv; omega), d, _, rfl, DPut.k (k := Sum.inr (pS t ++ Txt.slice (pS x) (some ((pS q).length : Int)) none)) ed hlen, ?_⟩
            rw [mvtxt r er, ← emv]
            exact ⟨_, rfl, fin _ rfl⟩
          | false =>
            have emv : mvP q t x = x := stp false (by unfold goes; rw [decide_eq_false e, hb]; rfl)
            refine iteN rfl ⟨_, rfl, d, _, rfl, DPut.k (k := Sum.inr (pS x)) ed hlen, ?_⟩
            exact ⟨_, rfl, fin _ (by rw [emv])⟩
      · rintro σ' H5 ⟨y7, rfl, fr, en, ed⟩
        rw [marksK_len, List.take_length] at ed
        refine ⟨en, y7, rfl, fun b x e => ?_, ?_⟩
        · by_cases hb : b = m
          · subst hb
            rw [eM3] at e
            rw [upd_same]
            exact e
          · rw [upd_ne hb]
            exact fr b x hb e
        · rw [upd_ne hdm.symm]
          exact ed
    rintro _ H5 ⟨y7, rfl, s5, ed⟩
    have pM2 : (mvM q t M).Perm (numsL (mvL q t L)) := by
      have e : numsL (mvL q t L) = mvM q t (numsL L) := by
        unfold numsL mvL mvM
        rw [List.map_map, List.map_map]
        rfl
      rw [e]
      exact pM.map _
    exact ⟨_, rfl, K2 _ d q t st' (fun x o h1 h2 e => s5 _ _ (s3 _ _ h2 (s02 _ _ h1 e))) ((B2.sx s3 hbh).same s5) (X3.same s5) ⟨_, ed, pM2⟩⟩
end K37
end
section
set_option Elab.async false
set_option linter.all false
set_option maxRecDepth 100000
set_option maxHeartbeats 2000000
/-! K1f: a list of anything against an empty list. -/
namespace K37
open PySem PySem.Spec PyProof.Rows L2
/-- a != b, where b is an empty list -/
def rNeNil (K : PySem.W.Frag) : R2 := fun x y H Q => ∃ a b xs, x = .ref a ∧ y = .ref b ∧ SqL K H a xs ∧ SqL K H b [] ∧ Q (.bl (decide (xs ≠ []))) H
theorem op_neNil {X : Cx} (hu : X.A.units < cLine) : OpR X (compareOp .NotEq) (rNeNil X.K) := by
  intro pins s σ H x y v u Q I rx ry h
  obtain ⟨a, b, xs, rfl, rfl, ha, hb, q⟩ := h
  obtain rfl : v = Value.ref a := rx
  obtain rfl : u = Value.ref b := ry
  obtain ⟨us, r1, p1, _⟩ := I.list ha
  obtain ⟨ws, r2, p2, _⟩ := I.list hb
  cases r2
  cases xs with
  | nil =>
    cases r1
    exact PySem.SeqAt.RcNeAt.lists (e := fun _ => true) p1.isList p2.isList rfl hu (fun j h1 h2 => absurd h1 (Nat.not_lt_zero j)) _ _ _ _ ⟨.bl false, H, I, rfl, q⟩
  | cons x xs =>
    cases r1 with
    | cons r r1 =>
      exact PySem.SeqAt.RcNeAt.lists_lengths p1.isList p2.isList rfl hu _ _ _ _ ⟨.bl true, H, I, rfl, q⟩
end K37
end
section
set_option Elab.async false
set_option linter.all false
set_option maxRecDepth 100000
set_option maxHeartbeats 4000000
/-! L7: a turn. -/
namespace K37
open PySem PySem.Spec PyProof.Rows L2 StX ClX SX
open C8 (sl_txt rSlX pss_cut tCut)
theorem LOk.wk {L : Tr} {k : Int} {D D' : Nat} (lo : LOk L k D) (h : D ≤ D') (h' : D' ≤ 98) : LOk L k D' :=
  ⟨h', lo.nd, fun q hq => ⟨Nat.le_trans (lo.ok q hq).1 h, (lo.ok q hq).2⟩, lo.num, lo.nn, lo.clo, lo.g0, lo.g1, lo.len⟩
theorem HSt.wk {c : Ct} {H : Hp} {h p j : Addr} {us : List (List Nat)} {st : Addr} {L : Tr} {k : Int} {D D' : Nat} (x : HSt c H h p j us st L k D) (l : D ≤ D') (l' : D' ≤ 98) : HSt c H h p j us st L k D' := ⟨x.ho, x.pe, x.ju, x.sa, x.lo.wk l l', x.us⟩
theorem cut_take (xs : List V) (k : Nat) : cutV xs none (some (k : Int)) = xs.take k := by
  unfold cutV
  rw [HT.sIx_none, HT.sIx_nat, List.drop_zero, Nat.sub_zero]
  by_cases h : k ≤ xs.length
  · rw [Nat.min_eq_left h]
  · rw [Nat.min_eq_right (by omega), List.take_length, List.take_of_length_le (by omega)]
theorem cut_drop (xs : List V) (k : Nat) : cutV xs (some (k : Int)) none = xs.drop k := by
  unfold cutV
  rw [HT.sIx_none, HT.sIx_nat]
  by_cases h : k ≤ xs.length
  · rw [Nat.min_eq_left h, List.take_of_length_le (by simp)]
  · rw [Nat.min_eq_right (by omega), List.drop_of_length_le (Nat.le_refl _), List.drop_of_length_le (by omega : xs.length ≤ k)]
    simp
/-- a kept state -/
structure Kp where
  at' : Nat
  st : Addr
  m : Addr
  L : Tr
  k : Int
def KeptAt (c : Ct) (H : Hp) (us : List (List Nat)) (D : Nat) (ks : List Kp) : Prop := ∀ x ∈ ks, StAt c H us x.st x.L x.k ∧ MAt H x.m x.L ∧ LOk x.L x.k D
def KeptL (H : Hp) (kl : Addr) (ks : List Kp) : Prop := ∃ ts : List Addr, H kl = some (.lst (ts.map V.ref)) ∧ Paired (fun t x => H t = some (.tup [.int (x.at' : Nat), .ref x.st, .ref x.m])) ts ks
theorem KeptAt.keep {c : Ct} {H H' : Hp} {us : List (List Nat)} {D D' : Nat} {ks : List Kp} (h : KeptAt c H us D ks) (s : Keep H H') (l : D ≤ D') (l' : D' ≤ 98) : KeptAt c H' us D' ks := fun x hx => ⟨(h x hx).1.keep s, (h x hx).2.1.keep s, (h x hx).2.2.wk l l'⟩
/-- nothing but the box, the kept list and objects of classes changed -/
def FrT (bx kl : Addr) (H H' : Hp) : Prop := ∀ b o, b ≠ bx → b ≠ kl → (∀ C dx l, o ≠ .ins C dx l) → H b = some o → H' b = some o
/-- what a turn stands over -/
structure Tn (c : Ct) (H : Hp) (bx fl kl ul p : Addr) (us usl : List (List Nat)) (D n N : Nat) (fam : List Mem) (ks : List Kp) : Prop where
  xfl : FamL H fl fam
  xfa : FamAt c H p us D fam
  xf1 : 1 ≤ fam.length
  xf4 : fam.length ≤ 4
  xnd : (fam.map (·.h)).Nodup
  xkl : KeptL H kl ks
  xka : KeptAt c H us D ks
  xkn : ks.length ≤ N
  xbx : BoxAt H bx n
  xul : H ul = some (.lst (usV usl))
  xu1 : 1 ≤ usl.length
  xu6 : usl.length ≤ 6
  xum : ∀ u ∈ usl, u ∈ us
  xkb : kl ≠ bx
  xku : kl ≠ ul
  xkf : kl ≠ fl
/-- but for the box, the kept list and one house all as it was -/
def FrH (bx kl hx : Addr) (H H' : Hp) : Prop := ∀ b o, b ≠ bx → b ≠ kl → b ≠ hx → H b = some o → H' b = some o
section
variable {c : Ct} {H H' : Hp} {bx fl kl ul p hx : Addr} {us usl : List (List Nat)} {D n N : Nat} {fam : List Mem} {ks : List Kp}
/-- a house of the family, or none -/
def HxOk (bx hx : Addr) (fam : List Mem) : Prop := hx = bx ∨ ∃ y ∈ fam, y.h = hx
theorem Tn.hx_ins (Z : Tn c H bx fl kl ul p us usl D n N fam ks) (h : HxOk bx hx fam) {b : Addr} {o : HO} (hb : b ≠ bx) (e : H b = some o) (no : ∀ C dx l, o ≠ .ins C dx l) : b ≠ hx := by
  rcases h with rfl | ⟨y, hy, rfl⟩
  · exact hb
  · rintro rfl
    obtain ⟨dx, e2⟩ := (Z.xfa y hy).1.ho
    rw [e] at e2
    exact no _ _ _ (Option.some.inj e2)
theorem Tn.frT (Z : Tn c H bx fl kl ul p us usl D n N fam ks) (h : HxOk bx hx fam) (fr : FrH bx kl hx H H') : FrT bx kl H H' := fun b o h1 h2 no e => fr b o h1 h2 (Z.hx_ins h h1 e no) e
theorem Tn.keep (Z : Tn c H bx fl kl ul p us usl D n N fam ks) (h : HxOk bx hx fam) (fr : FrH bx kl hx H H') : Keep H H' := by
  intro b o nc e
  obtain ⟨x1, x2, x3, eb, _⟩ := Z.xbx
  obtain ⟨ts, ek, _⟩ := Z.xkl
  refine fr b o ?_ ?_ ?_ e
  · rintro rfl
    rw [e] at eb
    cases eb
    exact nc trivial
  · rintro rfl
    rw [e] at ek
    cases ek
    exact nc trivial
  · rcases h with rfl | ⟨y, hy, rfl⟩
    · rintro rfl
      rw [e] at eb
      cases eb
      exact nc trivial
    · rintro rfl
      obtain ⟨dx, e2⟩ := (Z.xfa y hy).1.ho
      rw [e] at e2
      cases e2
      exact nc rfl
theorem Tn.h_bx (Z : Tn c H bx fl kl ul p us usl D n N fam ks) {y : Mem} (hy : y ∈ fam) : y.h ≠ bx := (Z.xbx.ne_ho (Z.xfa y hy).1.ho).symm
theorem Tn.h_kl (Z : Tn c H bx fl kl ul p us usl D n N fam ks) {y : Mem} (hy : y ∈ fam) : y.h ≠ kl := by
  obtain ⟨ts, ek, _⟩ := Z.xkl
  obtain ⟨dx, e2⟩ := (Z.xfa y hy).1.ho
  exact ne_of e2 ek fun z => nomatch z
theorem Tn.mem (Z : Tn c H bx fl kl ul p us usl D n N fam ks) (h : HxOk bx hx fam) (fr : FrH bx kl hx H H') {D' : Nat} (l : D ≤ D') (l' : D' ≤ 98) {y : Mem} (hy : y ∈ fam) (ne : y.h ≠ hx) : HSt c H' y.h p y.j us y.st y.L y.k D' ∧ MAt H' y.m y.L := by
  obtain ⟨X, M⟩ := Z.xfa y hy
  have kp := Z.keep h fr
  exact ⟨⟨X.ho.imp fun _ e => fr _ _ (Z.h_bx hy) (Z.h_kl hy) ne e, X.pe.keep kp, X.ju.keep kp, X.sa.keep kp, X.lo.wk l l', X.us⟩, M.keep kp⟩
theorem Tn.tup (Z : Tn c H bx fl kl ul p us usl D n N fam ks) (h : HxOk bx hx fam) (fr : FrH bx kl hx H H') {t : Addr} {vs : List V} (e : H t = some (.tup vs)) : H' t = some (.tup vs) := Z.keep h fr t _ id e
theorem Tn.fl_bx (Z : Tn c H bx fl kl ul p us usl D n N fam ks) : fl ≠ bx := by
  obtain ⟨ts, e, pt⟩ := Z.xfl
  have hl := Paired.length pt
  obtain ⟨t, ts', rfl⟩ : ∃ t ts', ts = t :: ts' := by
    cases ts with
    | nil => have := Z.xf1; rw [← hl] at this; exact absurd this (by decide)
    | cons t ts' => exact ⟨t, ts', rfl⟩
  exact Z.xbx.ne_lst e fun i z => nomatch z
theorem Tn.ul_bx (Z : Tn c H bx fl kl ul p us usl D n N fam ks) : ul ≠ bx := by
  obtain ⟨u, us', e⟩ : ∃ u us', usl = u :: us' := by
    cases h : usl with
    | nil => have := Z.xu1; rw [h] at this; exact absurd this (by decide)
    | cons u us' => exact ⟨u, us', rfl⟩
  have e2 := Z.xul
  rw [e] at e2
  exact Z.xbx.ne_lst e2 fun i z => nomatch z
/-- the new state of a turn -/
theorem Tn.re (Z : Tn c H bx fl kl ul p us usl D n N fam ks) (h : HxOk bx hx fam) (fr : FrH bx kl hx H H') {fl' : Addr} {D' n' N' : Nat} {fam' : List Mem} {ks' : List Kp}
    (a1 : FamL H' fl' fam') (a2 : FamAt c H' p us D' fam') (a3 : 1 ≤ fam'.length) (a4 : fam'.length ≤ 4) (a5 : (fam'.map (·.h)).Nodup) (a6 : KeptL H' kl ks') (a7 : KeptAt c H' us D' ks') (a8 : ks'.length ≤ N') (a9 : BoxAt H' bx n') (b1 : kl ≠ fl') : Tn c H' bx fl' kl ul p us usl D' n' N' fam' ks' :=
  ⟨a1, a2, a3, a4, a5, a6, a7, a8, a9, Z.frT h fr _ _ Z.ul_bx Z.xku.symm (fun _ _ _ z => nomatch z) Z.xul, Z.xu1, Z.xu6, Z.xum, Z.xkb, Z.xku, b1⟩
/-- the kept ones, where the list stands -/
theorem Tn.keptL (Z : Tn c H bx fl kl ul p us usl D n N fam ks) (h : HxOk bx hx fam) (fr : FrH bx kl hx H H') (ek : ∀ o, H kl = some o → H' kl = some o) : KeptL H' kl ks := by
  obtain ⟨ts, e, pt⟩ := Z.xkl
  exact ⟨ts, ek _ e, paired_mono pt fun t x z => Z.tup h fr z⟩
end
theorem paired_take {α β : Type} {R : α → β → Prop} : ∀ {xs : List α} {ys : List β} (k : Nat), Paired R xs ys → Paired R (xs.take k) (ys.take k)
  | _, _, 0, _ => .nil
  | _, _, k + 1, .nil => .nil
  | _, _, k + 1, .cons r t => .cons r (paired_take k t)
theorem paired_drop {α β : Type} {R : α → β → Prop} : ∀ {xs : List α} {ys : List β} (k : Nat), Paired R xs ys → Paired R (xs.drop k) (ys.drop k)
  | _, _, 0, h => h
  | _, _, k + 1, .nil => .nil
  | _, _, k + 1, .cons _ t => paired_drop k t
theorem paired_app {α β : Type} {R : α → β → Prop} {xs xs' : List α} {ys ys' : List β} (h : Paired R xs ys) (g : Paired R xs' ys') : Paired R (xs ++ xs') (ys ++ ys') := by
  induction h with
  | nil => exact g
  | cons r _ ih => exact .cons r ih
theorem split_at {α : Type} {l : List α} {a : Nat} {x : α} (e : l[a]? = some x) : l = l.take a ++ x :: l.drop (a + 1) := by
  obtain ⟨h, rfl⟩ := List.getElem?_eq_some_iff.mp e
  rw [List.getElem_cons_drop, List.take_append_drop]
/-- the family with one member anew -/
def famS (fam : List Mem) (a : Nat) (x' : Mem) : List Mem := fam.take a ++ x' :: fam.drop (a + 1)
section
variable {c : Ct} {H H' : Hp} {bx fl kl ul p : Addr} {us usl : List (List Nat)} {D n N : Nat} {fam : List Mem} {ks : List Kp}
theorem Tn.put (Z : Tn c H bx fl kl ul p us usl D n N fam ks) {a : Nat} {x x' : Mem} (ea : fam[a]? = some x) (hh : x'.h = x.h) (fr : FrH bx kl x.h H H') (hk : ∀ o, H kl = some o → H' kl = some o) {D' n' : Nat} (l : D ≤ D') (l' : D' ≤ 98)
    (X' : HSt c H' x'.h p x'.j us x'.st x'.L x'.k D') (M' : MAt H' x'.m x'.L) {ts : List Addr} {t' fl' : Addr} (ht : H fl = some (.lst (ts.map V.ref))) (et : H' t' = some (.tup [.ref x'.h, .ref x'.m])) (ef : H' fl' = some (.lst ((ts.map V.ref).take a ++ [.ref t'] ++ (ts.map V.ref).drop (a + 1))))
    (B : BoxAt H' bx n') (kf : kl ≠ fl') : Tn c H' bx fl' kl ul p us usl D' n' (N + 1) (famS fam a x') ks := by
  have mx : x ∈ fam := List.mem_of_getElem? ea
  have ok : HxOk bx x.h fam := .inr ⟨x, mx, rfl⟩
  have es := split_at ea
  have ek : (famS fam a x').map (·.h) = fam.map (·.h) := by
    conv => rhs; rw [es]
    unfold famS
    rw [List.map_append, List.map_append, List.map_cons, List.map_cons, hh]
  have elen : (famS fam a x').length = fam.length := by
    have := congrArg List.length ek
    rwa [List.length_map, List.length_map] at this
  have other : ∀ y, y ∈ fam.take a ∨ y ∈ fam.drop (a + 1) → y ∈ fam ∧ y.h ≠ x.h := by
    intro y hy
    have nd := Z.xnd
    rw [es, List.map_append, List.map_cons, List.nodup_append, List.nodup_cons] at nd
    obtain ⟨_, ⟨n1, _⟩, n2⟩ := nd
    rcases hy with hy | hy
    · exact ⟨List.mem_of_mem_take hy, n2 _ (List.mem_map.mpr ⟨y, hy, rfl⟩) _ List.mem_cons_self⟩
    · exact ⟨List.mem_of_mem_drop hy, fun e => n1 (e ▸ List.mem_map.mpr ⟨y, hy, rfl⟩)⟩
  refine Z.re ok fr ⟨ts.take a ++ (t' :: ts.drop (a + 1)), ?_, ?_⟩ ?_ (by rw [elen]; exact Z.xf1) (by rw [elen]; exact Z.xf4) (by rw [ek]; exact Z.xnd) (Z.keptL ok fr hk) (Z.xka.keep (Z.keep ok fr) l l') (Nat.le_succ_of_le Z.xkn) B kf
  · rw [ef, List.map_append, List.map_cons, List.map_take, List.map_drop, List.append_assoc]
    rfl
  · obtain ⟨ts', e2, pt⟩ := Z.xfl
    have e3 : ts' = ts := by
      rw [ht] at e2
      have e4 : ts.map V.ref = ts'.map V.ref := HO.lst.inj (Option.some.inj e2)
      have inj : ∀ {l m : List Addr}, l.map V.ref = m.map V.ref → l = m := by
        intro l
        induction l with
        | nil => intro m h; cases m with
          | nil => rfl
          | cons _ _ => cases h
        | cons x l ih => intro m h; cases m with
          | nil => cases h
          | cons y m =>
            injection h with h1 h2
            injection h1 with h1
            rw [h1, ih h2]
      exact (inj e4).symm
    subst e3
    have pt' := paired_mono pt fun t x z => Z.tup ok fr z
    exact paired_app (paired_take a pt') (.cons et (paired_drop (a + 1) pt'))
  · intro y hy
    rcases List.mem_append.mp hy with hy | hy
    · obtain ⟨m1, n1⟩ := other y (.inl hy)
      exact Z.mem ok fr l l' m1 n1
    · rcases List.mem_cons.mp hy with rfl | hy
      · exact ⟨X', M'⟩
      · obtain ⟨m1, n1⟩ := other y (.inr hy)
        exact Z.mem ok fr l l' m1 n1
/-- nothing but the box -/
theorem Tn.draw (Z : Tn c H bx fl kl ul p us usl D n N fam ks) (s : SameX bx H H') {n' : Nat} (B : BoxAt H' bx n') : Tn c H' bx fl kl ul p us usl D n' N fam ks := by
  have fr : FrH bx kl bx H H' := fun b o h1 _ _ e => s b o h1 e
  have ok : HxOk bx bx fam := .inl rfl
  obtain ⟨ts, ef, pt⟩ := Z.xfl
  refine Z.re ok fr ⟨ts, s _ _ Z.fl_bx ef, paired_mono pt fun t x z => Z.tup ok fr z⟩ (fun y hy => Z.mem ok fr (Nat.le_refl _) (Z.xfa y hy).1.lo.dl hy (Z.h_bx hy)) Z.xf1 Z.xf4 Z.xnd (Z.keptL ok fr fun o e => s _ _ Z.xkb e) ?_ Z.xkn B Z.xkf
  have kp := Z.keep ok fr
  exact fun x hx => ⟨(Z.xka x hx).1.keep kp, (Z.xka x hx).2.1.keep kp, (Z.xka x hx).2.2⟩
theorem FrT.trans {H1 : Hp} (s : FrT bx kl H H1) (t : FrT bx kl H1 H') : FrT bx kl H H' := fun b o h1 h2 no e => t b o h1 h2 no (s b o h1 h2 no e)
theorem SameX.frT (s : SameX bx H H') : FrT bx kl H H' := fun b o h1 _ _ e => s b o h1 e
end
def spTurn (c : Ct) : Sp := fun vs H Q _ => ∃ bx fl kl ul p us usl D n N fam ks, vs = [.ref bx, .ref fl, .ref kl, .ref ul] ∧ Tn c H bx fl kl ul p us usl D n N fam ks ∧ n ≤ 80000 ∧ N ≤ 60 ∧ D + 1 ≤ 98 ∧
  ∀ H' fl' fam' ks', FrT bx kl H H' → Tn c H' bx fl' kl ul p us usl (D + 1) (n + 10) (N + 1) fam' ks' → Q (.ref fl') H'
abbrev N_l_turn : List Str := ["_law_box_here", "_law_family", "_law_kept", "_law_users", "_law_at", "_law_way", "_law_house", "_law_marks_here", "_law_some", "_law_row", "_law_due", "_law_path"]
theorem ok_turn {c : Ct} (T : TxZ c) : Has c "_law_turn" 14 (spTurn c) := by
  obtain ⟨f, fd, mm, F⟩ := T.l_turn
  obtain ⟨fK, mK, kK, GK⟩ := ok_take T
  obtain ⟨fS, mS, kS, GS⟩ := ok_lshift T
  obtain ⟨fU, mU, kU, GU⟩ := ok_lcut T
  obtain ⟨fP, mP, kP, GP⟩ := ok_lput T
  obtain ⟨fC, MC, GC⟩ := ok_Hcopy T.toTxH
  obtain ⟨fR, MR, GR⟩ := ok_Hrestore T.toTxH
  obtain ⟨gI, i1, i2, i3, GI⟩ := ok_Hgetitem T.toTxH
  obtain ⟨pn, gn, fdn, psn, Pn, Gn, bn⟩ := pr_Nnumber T.toTxN
  have Cn := T.clN.cl
  have CC := T.clH.cl
  have CR := T.clH.cl
  have C := T.clH
  refine Has.mk mm F (ps := ["_law_box_here", "_law_family", "_law_kept", "_law_users"]) (okD F sc_l_turn ?_ ?_) (fun _ _ _ _ _ _ us hl => match us, hl with | [_, _, _, _], _ => rfl)
  · rintro vs H Q E ⟨_, _, _, _, _, _, _, _, _, _, _, _, rfl, _⟩
    rfl
  · rintro cdv A outer s H vs Q E hr ⟨bx, fl, kl, ul, p, us, usl, D, n, N, fam, ks, rfl, Z, hn, hN, hD, K⟩
    refine ⟨_, pss_cut (ps_asg (pe_tup (pa_cons (pe_cR GK hr (by decide) kK rfl mK (pa_cons (pv 0) (pa_cons (pe_callB call_len_seq rfl T.len PySem.boot_len (pa_cons (pv 1) pa_nil)) pa_nil))) (pa_cons (pe_cR GK hr (by decide) kK rfl mK (pa_cons (pv 0) (pa_cons (pe_int) pa_nil))) pa_nil))) (pg_tup rfl (pgs_cons (pg_name (i := 4) sc_l_turn.nd rfl (Or.inr rfl)) (pgs_cons (pg_name (i := 5) sc_l_turn.nd rfl (Or.inl rfl)) pgs_nil)))) (pss_cut (ps_asg (pe_ix ix_list (pv 1) (pv 4) (fun _ _ => rfl)) (pg_tup rfl (pgs_cons (pg_name (i := 6) sc_l_turn.nd rfl (Or.inl rfl)) (pgs_cons (pg_name (i := 7) sc_l_turn.nd rfl (Or.inl rfl)) pgs_nil)))) (pss_cut (ps_if (PW.pt (pw_and (pt_cmpR op_eq (pv 5) pe_int (nomark _)) (pw_and1 (pt_cmpR op_lt (pe_callB call_len_seq rfl T.len PySem.boot_len (pa_cons (pv 1) pa_nil)) pe_int (nomark _))))) (pss_one (ps_ret (pe_op op_cat (pv 1) (pe_lst (pa_cons (pe_tup (pa_cons (pe_m0R CC MC GC hr (by decide) (pe_ix ix_tup (pe_ix ix_list (pv 1) pe_int (fun _ _ => rfl)) pe_int (fun _ _ => rfl))) (pa_cons (pe_callTy (call_dictD) rfl T.dict (by decide +kernel) (pa_cons (pe_ix ix_tup (pe_ix ix_list (pv 1) pe_int (fun _ _ => rfl)) pe_int (fun _ _ => rfl)) pa_nil)) pa_nil))) pa_nil))))) pss_nil) (pss_cut (ps_if (pt_cmpR op_eq (pv 5) pe_int (nomark _)) (pss_cons (ps_expr (pe_bm PySem.F.plainAttrs_list PySem.F.slot_list_append PySem.F.type_list_append mt_append (pv 2) (pa_cons (pe_tup (pa_cons (pv 4) (pa_cons (pe_fld (pv 6) rfl) (pa_cons (pe_callTy (call_dictD) rfl T.dict (by decide +kernel) (pa_cons (pv 7) pa_nil)) pa_nil)))) pa_nil))) (pss_one (ps_ret (pv 1)))) pss_nil) (pss_cut (ps_setLc (i := 8) (own := [("_law_row", 9)]) (g := gName 9) rfl sc_l_turn.nd rfl rfl (sw_true rfl rfl rfl (by decide +kernel)) (pi_list (pv 2)) (blkOk_by (N := N_l_turn) (sc := defScope s_l_turn) (by decide +kernel)) (fun _ _ _ _ _ => pg_name (i := 9) sc_l_turn.nd rfl (Or.inl rfl)) (fun _ _ _ _ _ => pts_one (PW.pt (pw_or (pt_cmpR op_eq (pv 4) pe_int (nomark _)) (pw_or1 (pt_cmpR (op_inK c.K) (pe_ix (ix_tupK c.K) (pv 9) pe_int (fun _ _ => rfl)) (pe_lst (pa_cons (pe_int) (pa_cons (pv 4) pa_nil))) rfl))))) (fun _ _ _ _ _ => pv 9)) (pss_cut (ps_if (PW.pt (pw_and (pt_cmpR op_in_seq (pv 5) (pe_lst (pa_cons (pe_int) (pa_cons (pe_int) pa_nil))) rfl) (pw_and1 (pt_cmpR (op_neNil hr.units0) (pv 8) (pe_lst pa_nil) (nomark _))))) (pss_cons (ps_set (i := 9) sc_l_turn.nd rfl (Or.inl rfl) (pe_ix ix_list (pv 8) (pe_cR GK hr (by decide) kK rfl mK (pa_cons (pv 0) (pa_cons (pe_callB call_len_seq rfl T.len PySem.boot_len (pa_cons (pv 8) pa_nil)) pa_nil))) (fun _ _ => rfl))) (pss_cons (ps_expr (pe_mR CR MR GR hr (by decide) (pv 6) (pa_cons (pe_ix ix_tup (pv 9) pe_int (fun _ _ => rfl)) pa_nil))) (pss_one (ps_ret (pe_op op_cat (pe_op op_cat (pe_slice sl_list (pv 1) po_none (po_some (pv 4))) (pe_lst (pa_cons (pe_tup (pa_cons (pv 6) (pa_cons (pe_callTy (call_dictD) rfl T.dict (by decide +kernel) (pa_cons (pe_ix ix_tup (pv 9) pe_int (fun _ _ => rfl)) pa_nil)) pa_nil))) pa_nil))) (pe_slice sl_list (pv 1) (po_some (pe_op op_add (pv 4) pe_int)) po_none)))))) pss_nil) (pss_cons (ps_set (i := 10) sc_l_turn.nd rfl (Or.inl rfl) (pe_non)) (pss_cut (ps_if (pt_cmpR op_in_seq (pv 5) (pe_lst (pa_cons (pe_int) (pa_cons (pe_int) pa_nil))) rfl) (pss_one (ps_set (i := 10) sc_l_turn.nd rfl (Or.inl rfl) (pe_ifExp (pt_cmpR op_eq (pv 5) pe_int (nomark _)) (pe_cR GS hr (by decide) kS rfl mS (pa_cons (pv 0) (pa_cons (pv 6) (pa_cons (pv 7) pa_nil)))) (pe_cR GU hr (by decide) kU rfl mU (pa_cons (pv 0) (pa_cons (pv 6) (pa_cons (pv 7) pa_nil))))))) (pss_cons (ps_set (i := 11) sc_l_turn.nd rfl (Or.inl rfl) (pe_cR GP hr (by decide) kP rfl mP (pa_cons (pv 0) (pa_cons (pv 6) (pa_cons (pv 7) (pa_cons (pv 3) pa_nil)))))) (pss_one (ps_if (pt_cmpR op_notN (pv 11) pe_non (nomark _)) (pss_one (ps_set (i := 10) sc_l_turn.nd rfl (Or.inl rfl) (pe_callTy (call_dictP rfl) rfl T.dict (by decide +kernel) (pa_cons (pe_op op_cat (LiI.pe_listItems rfl (pv 7) rfl T.list (by decide +kernel)) (pe_lst (pa_cons (pe_tup (pa_cons (pv 11) (pa_cons (pe_prop (pe_ownItem i1 i2 i3 GI hr (by decide) (pv 6) (pv 11)) Cn Pn Gn (hr.mono (by decide)) bn .nil pass0 (by rfl)) pa_nil))) pa_nil))) pa_nil)))) pss_nil)))) (pss_one (ps_ret (pe_ifExp (pt_cmpR op_isN (pv 10) pe_non (nomark _)) (pv 1) (pe_op op_cat (pe_op op_cat (pe_slice sl_list (pv 1) po_none (po_some (pv 4))) (pe_lst (pa_cons (pe_tup (pa_cons (pv 6) (pa_cons (pv 10) pa_nil))) pa_nil))) (pe_slice sl_list (pv 1) (po_some (pe_op op_add (pv 4) pe_int)) po_none)))))))))))), ?_⟩
    obtain ⟨ts, ets, pts⟩ := Z.xfl
    have hlt : ts.length = fam.length := Paired.length pts
    have f1 := Z.xf1
    have f4 := Z.xf4
    -- at, way
    refine ⟨fun σ' H' => ∃ a w : Nat, a < fam.length ∧ σ' = [some (.ref bx), some (.ref fl), some (.ref kl), some (.ref ul), some (.int a), some (.int w), none, none, none, none, none, none] ∧ SameX bx H H' ∧ BoxAt H' bx (n + 2), ?_, ?_⟩
    · refine ⟨_, rfl, _, rfl, fl, _, rfl, .inl (SqL.of ets), bx, fam.length, n, by rw [List.length_map, hlt], f1, by omega, Z.xbx, by omega, fun H1 a s1 B1 ha => ?_⟩
      refine ⟨_, rfl, bx, 9, n + 1, rfl, by decide, by decide, B1, by omega, fun H2 w s2 B2 hw => ⟨smL (by simp), fun t nt => ?_⟩⟩
      exact ⟨t, _, rfl, SqT.of upd_same, rfl, _, _, rfl, _, _, rfl, rfl, a, w, ha, rfl, (s1.trans s2).new nt, B2.same (same_upd nt)⟩
    rintro _ H1 ⟨a, w, ha, rfl, s1, B1⟩
    have Z1 := Z.draw s1 B1
    have ets1 := s1 _ _ Z.fl_bx ets
    obtain ⟨x, ex⟩ : ∃ x, fam[a]? = some x := ⟨_, List.getElem?_eq_getElem ha⟩
    have mx : x ∈ fam := List.mem_of_getElem? ex
    obtain ⟨t, et⟩ : ∃ t, ts[a]? = some t := ⟨_, List.getElem?_eq_getElem (by omega)⟩
    obtain ⟨x2, ex2, ett⟩ := paired_at pts et
    cases ex.symm.trans ex2
    have ett1 : H1 t = some (.tup [.ref x.h, .ref x.m]) := Z.tup (.inl rfl) (fun b o h1 _ _ e => s1 b o h1 e) ett
    have etv : (ts.map V.ref)[a]? = some (.ref t) := by rw [List.getElem?_map, et]; rfl
    obtain ⟨X1, M1⟩ := Z1.xfa x mx
    have hbh := Z1.h_bx mx
    have hkh := Z1.h_kl mx
    -- the house, its marks
    refine ⟨fun σ' H' => σ' = [some (.ref bx), some (.ref fl), some (.ref kl), some (.ref ul), some (.int a), some (.int w), some (.ref x.h), some (.ref x.m), none, none, none, none] ∧ H1 = H', ?_, ?_⟩
    · exact ⟨_, rfl, _, rfl, fl, _, _, _, rfl, rfl, SqL.of ets1, atI_nat etv, t, _, rfl, SqT.of ett1, rfl, _, _, rfl, _, _, rfl, rfl, rfl, rfl⟩
    rintro _ _ ⟨rfl, rfl⟩
    have K' : ∀ H' fl' fam' ks', FrT bx kl H1 H' → Tn c H' bx fl' kl ul p us usl (D + 1) (n + 10) (N + 1) fam' ks' → Q (.ref fl') H' := fun H' fl' fam' ks' fr z => K H' fl' fam' ks' ((SameX.frT s1).trans fr) z
    -- a turn that changes no house
    have plain : ∀ H', SameX bx H1 H' → BoxAt H' bx (n + 10) → Q (.ref fl) H' := by
      intro H' s' B'
      have Z' := Z1.draw s' B'
      refine K' H' fl fam ks (SameX.frT s') ⟨Z'.xfl, fun y hy => ⟨(Z'.xfa y hy).1.wk (Nat.le_succ D) hD, (Z'.xfa y hy).2⟩, Z'.xf1, Z'.xf4, Z'.xnd, Z'.xkl, Z'.xka.keep (fun _ _ _ e => e) (Nat.le_succ D) hD, Nat.le_succ_of_le Z'.xkn, Z'.xbx, Z'.xul, Z'.xu1, Z'.xu6, Z'.xum, Z'.xkb, Z'.xku, Z'.xkf⟩
    -- a copy
    refine ⟨fun σ' H' => σ' = [some (.ref bx), some (.ref fl), some (.ref kl), some (.ref ul), some (.int a), some (.int w), some (.ref x.h), some (.ref x.m), none, none, none, none] ∧ H1 = H', ?_, ?_⟩
    · refine ⟨_, rfl, rfl, _, rfl, ?_⟩
      by_cases hw0 : w = 0
      · refine iteY (decide_eq_true (congrArg V.int (by omega))) ⟨_, rfl, fl, _, rfl, .inl (SqL.of ets1), _, _, rfl, rfl, _, rfl, ?_⟩
        by_cases h4 : fam.length < 4
        · refine iteY (decide_eq_true (by rw [List.length_map, hlt]; omega)) ?_
          obtain ⟨x0, fam0, rfl⟩ : ∃ x0 fam0, fam = x0 :: fam0 := by
            cases fam with
            | nil => exact absurd f1 (by decide)
            | cons x0 fam0 => exact ⟨x0, fam0, rfl⟩
          obtain ⟨t0, ts0, rfl⟩ : ∃ t0 ts0, ts = t0 :: ts0 := by
            cases ts with
            | nil => cases hlt
            | cons t0 ts0 => exact ⟨t0, ts0, rfl⟩
          obtain ⟨x0', ex0, ett0⟩ := paired_at pts (show (t0 :: ts0)[0]? = some t0 from rfl)
          cases ex0
          have fr1 : FrH bx kl bx H H1 := fun b o h1 _ _ e => s1 b o h1 e
          have ett01 := Z.tup (.inl rfl) fr1 ett0
          obtain ⟨X0, M0⟩ := Z1.xfa x0 List.mem_cons_self
          obtain ⟨dx0, eh0⟩ := X0.ho
          refine ⟨_, rfl, ?_⟩
          refine ⟨_, rfl, fl, _, _, _, rfl, rfl, SqL.of ets1, atI_nat (j := 0) rfl, t0, _, _, _, rfl, rfl, SqT.of ett01, rfl, x0.h, dx0, _, rfl, eh0, rfl, x0.h, p, x0.j, us, x0.st, x0.L, x0.k, D, _, rfl, X0, rfl, fun H2 xn jn s2 nxn X2 => ?_⟩
          obtain ⟨M0', eM0, pM0⟩ := M0
          refine ⟨_, rfl, fl, _, _, _, rfl, rfl, SqL.of (s2 _ _ ets1), atI_nat (j := 0) rfl, t0, _, _, _, rfl, rfl, SqT.of (s2 _ _ ett01), rfl, x0.m, _, rfl, .inl (s2 _ _ eM0), fun m' nm' => ⟨smL (by simp), fun tn ntn => ⟨smL (by simp), fun ln nln => ?_⟩⟩⟩
          have sm : Same H1 (upd H2 m' (.dK (marksK M0'))) := s2.trans (same_upd nm')
          have st : Same H1 (upd (upd H2 m' (.dK (marksK M0'))) tn (.tup [.ref xn, .ref m'])) := sm.trans (same_upd ntn)
          have sl : Same H1 (upd (upd (upd H2 m' (.dK (marksK M0'))) tn (.tup [.ref xn, .ref m'])) ln (.lst [.ref tn])) := st.trans (same_upd nln)
          refine ⟨fl, ln, _, _, rfl, rfl, sl _ _ ets1, upd_same, smL (by rw [List.length_map]; simp; simp at f4 hlt; omega), fun r nr => ?_⟩
          have sr : Same H1 (upd (upd (upd (upd H2 m' (.dK (marksK M0'))) tn (.tup [.ref xn, .ref m'])) ln (.lst [.ref tn])) r (.lst ((t0 :: ts0).map V.ref ++ [.ref tn]))) := sl.trans (same_upd nr)
          have s2r : Same H2 (upd (upd (upd (upd H2 m' (.dK (marksK M0'))) tn (.tup [.ref xn, .ref m'])) ln (.lst [.ref tn])) r (.lst ((t0 :: ts0).map V.ref ++ [.ref tn]))) := (((same_upd nm').trans (same_upd ntn)).trans (same_upd nln)).trans (same_upd nr)
          have smr : Same (upd H2 m' (.dK (marksK M0'))) (upd (upd (upd (upd H2 m' (.dK (marksK M0'))) tn (.tup [.ref xn, .ref m'])) ln (.lst [.ref tn])) r (.lst ((t0 :: ts0).map V.ref ++ [.ref tn]))) := ((same_upd ntn).trans (same_upd nln)).trans (same_upd nr)
          have str : Same (upd (upd H2 m' (.dK (marksK M0'))) tn (.tup [.ref xn, .ref m'])) (upd (upd (upd (upd H2 m' (.dK (marksK M0'))) tn (.tup [.ref xn, .ref m'])) ln (.lst [.ref tn])) r (.lst ((t0 :: ts0).map V.ref ++ [.ref tn]))) := (same_upd nln).trans (same_upd nr)
          have frr : FrH bx kl bx H1 (upd (upd (upd (upd H2 m' (.dK (marksK M0'))) tn (.tup [.ref xn, .ref m'])) ln (.lst [.ref tn])) r (.lst ((t0 :: ts0).map V.ref ++ [.ref tn]))) := fun b o _ _ _ e => sr _ _ e
          have okx : HxOk bx bx (x0 :: fam0) := .inl rfl
          obtain ⟨kts, ekl, pkl⟩ := Z1.xkl
          refine K' _ r (x0 :: fam0 ++ [⟨xn, jn, x0.st, m', x0.L, x0.k⟩]) ks (fun b o _ _ _ e => sr _ _ e) (Z1.re okx frr ⟨t0 :: ts0 ++ [tn], by rw [upd_same, List.map_append]; rfl, paired_app (paired_mono pts fun t x z => sr _ _ (Z.tup (.inl rfl) fr1 z)) (.cons (str _ _ upd_same) .nil)⟩ ?_ (by simp) (by simp at h4 ⊢; omega) ?_ (Z1.keptL okx frr fun o e => sr _ _ e) (Z1.xka.keep (.of sr) (Nat.le_succ D) hD) (Nat.le_succ_of_le Z1.xkn) ((Z1.xbx.same sr).up (by omega)) ?_)
          · intro y hy
            rcases List.mem_append.mp hy with hy | hy
            · exact ⟨((Z1.xfa y hy).1.same sr).wk (Nat.le_succ D) hD, (Z1.xfa y hy).2.keep (.of sr)⟩
            · rw [List.mem_singleton.mp hy]
              exact ⟨(X2.same s2r).wk (Nat.le_succ D) hD, M0', smr _ _ upd_same, pM0⟩
          · rw [List.map_append]
            refine nodup_snoc Z1.xnd fun z => ?_
            obtain ⟨y, hy, e⟩ := List.mem_map.mp z
            have e : y.h = xn := e
            obtain ⟨dy, ey⟩ := (Z1.xfa y hy).1.ho
            rw [e, nxn] at ey
            cases ey
          · exact ne_of_none (sl _ _ ekl) nr
        · exact iteN (decide_eq_false (by rw [List.length_map, hlt]; omega)) ⟨rfl, rfl⟩
      · exact iteN (decide_eq_false fun z => hw0 (by have := V.int.inj z; omega)) ⟨rfl, rfl⟩
    rintro _ _ ⟨rfl, rfl⟩
    -- a state kept
    refine ⟨fun σ' H' => σ' = [some (.ref bx), some (.ref fl), some (.ref kl), some (.ref ul), some (.int a), some (.int w), some (.ref x.h), some (.ref x.m), none, none, none, none] ∧ H1 = H', ?_, ?_⟩
    · obtain ⟨dx, eh⟩ := X1.ho
      obtain ⟨M0, eM, pM⟩ := M1
      obtain ⟨kts, ekl, pkl⟩ := Z1.xkl
      refine ⟨_, rfl, rfl, _, rfl, ?_⟩
      by_cases hw1 : w = 1
      · refine iteY (decide_eq_true (congrArg V.int (by omega))) ?_
        have hkb := Z1.xkb
        have hst := X1.sa
        refine ⟨_, rfl, (.inl ⟨rfl, _, SqL.of ekl⟩), _, rfl, _, rfl, x.h, c.cH, dx, _, _, rfl, eh, C.cl, C.nf _ (by decide), rfl, _, rfl, x.m, _, rfl, .inl eM, fun m' nm' => ⟨smL (by simp), fun tn ntn => ?_⟩⟩
        have sm : Same H1 (upd H1 m' (.dK (marksK M0))) := same_upd nm'
        have st : Same H1 (upd (upd H1 m' (.dK (marksK M0))) tn (.tup [.int a, .ref x.st, .ref m'])) := sm.trans (same_upd ntn)
        refine ⟨kl, _, _, rfl, rfl, st _ _ ekl, smL (by rw [List.length_map, Paired.length pkl]; have := Z1.xkn; omega), ?_⟩
        have ntk : tn ≠ kl := fun z => by rw [z, sm _ _ ekl] at ntn; cases ntn
        have nmk : m' ≠ kl := fun z => by rw [z, ekl] at nm'; cases nm'
        have frr : FrH bx kl bx H1 (upd (upd (upd H1 m' (.dK (marksK M0))) tn (.tup [.int a, .ref x.st, .ref m'])) kl (.lst (kts.map V.ref ++ [.ref tn]))) := fun b o _ h2 _ e => by
          rw [upd_ne h2]; exact st _ _ e
        have okx : HxOk bx bx fam := .inl rfl
        have kp := Z1.keep okx frr
        obtain ⟨ts', e2, pt⟩ := Z1.xfl
        refine ⟨_, rfl, K' _ fl fam (ks ++ [⟨a, x.st, m', x.L, x.k⟩]) (Z1.frT okx frr) (Z1.re okx frr ⟨ts', frr _ _ Z1.fl_bx (fun z => Z1.xkf z.symm) Z1.fl_bx e2, paired_mono pt fun t x z => Z1.tup okx frr z⟩ (fun y hy => Z1.mem okx frr (Nat.le_succ D) hD hy (Z1.h_bx hy)) f1 f4 Z1.xnd ⟨kts ++ [tn], by rw [upd_same, List.map_append]; rfl, paired_app (paired_mono pkl fun t x z => Z1.tup okx frr z) (.cons ?_ .nil)⟩ ?_ (by rw [List.length_append]; have := Z1.xkn; simp; omega) ?_ Z1.xkf)⟩
        · rw [upd_ne ntk, upd_same]
        · intro y hy
          rcases List.mem_append.mp hy with hy | hy
          · exact ⟨(Z1.xka y hy).1.keep kp, (Z1.xka y hy).2.1.keep kp, (Z1.xka y hy).2.2.wk (Nat.le_succ D) hD⟩
          · rw [List.mem_singleton.mp hy]
            refine ⟨hst.keep kp, ⟨M0, ?_, pM⟩, X1.lo.wk (Nat.le_succ D) hD⟩
            have ntm : m' ≠ tn := fun z => by rw [← z, upd_same] at ntn; cases ntn
            rw [upd_ne nmk, upd_ne ntm, upd_same]
        · obtain ⟨b1, b2, b3, eb, z⟩ := (Z1.xbx.same st).up (show n + 2 ≤ n + 10 by omega)
          exact ⟨b1, b2, b3, by rw [upd_ne hkb.symm]; exact eb, z⟩
      · exact iteN (decide_eq_false fun z => hw1 (by have := V.int.inj z; omega)) ⟨rfl, rfl⟩
    rintro _ _ ⟨rfl, rfl⟩
    -- the kept ones that may be taken
    obtain ⟨kts, ekl, pkl⟩ := Z1.xkl
    refine ⟨fun σ' H' => ∃ sl, ∃ ss : List Addr, σ' = [some (.ref bx), some (.ref fl), some (.ref kl), some (.ref ul), some (.int a), some (.int w), some (.ref x.h), some (.ref x.m), some (.ref sl), none, none, none] ∧ Same H1 H' ∧ H' sl = some (.lst (ss.map V.ref)) ∧ ss.length ≤ N ∧ ∀ t ∈ ss, ∃ z ∈ ks, H1 t = some (.tup [.int (z.at' : Nat), .ref z.st, .ref z.m]), ?_, ?_⟩
    · refine ⟨_, rfl, kl, rfl, ⟨_, SqL.of ekl⟩, fun D0 nD => ?_⟩
      refine lc_it (walk_list (xs := kts.map V.ref)) (fun i H5 => Same H1 H5 ∧ ∃ ss : List Addr, H5 D0 = some (.lst (ss.map V.ref)) ∧ ss.length ≤ i ∧ ∀ t ∈ ss, ∃ z ∈ ks, H1 t = some (.tup [.int (z.at' : Nat), .ref z.st, .ref z.m])) ⟨same_upd nD, [], upd_same, Nat.le_refl _, fun _ z => by cases z⟩ (fun i H5 _ z => SqL.of (z.1 _ _ ekl)) ?_ ?_
      · rintro i v H5 H6 hi ⟨sm, ss, eD, hl, hm⟩ ⟨rfl, ev⟩
        obtain ⟨t1, et1, rfl⟩ : ∃ t1, kts[i]? = some t1 ∧ v = .ref t1 := by
          rw [List.getElem?_map] at ev
          cases e : kts[i]? with
          | none => rw [e] at ev; cases ev
          | some q => rw [e] at ev; exact ⟨q, rfl, (Option.some.inj ev).symm⟩
        obtain ⟨z, ez, ett⟩ := paired_at pkl et1
        have mz : z ∈ ks := List.mem_of_getElem? ez
        have hN2 : i < N := by
          have := (List.getElem?_eq_some_iff.mp et1).1
          have := Paired.length pkl
          have := Z1.xkn
          omega
        have sz : ss.length < sizeLine := smT (by omega)
        have add : ∀ (H7 : Hp) (s7 : Same H6 H7), H7 D0 = some (.lst (ss.map V.ref)) ∧ (ss.map V.ref).length < sizeLine ∧ Same H1 (upd H7 D0 (.lst (ss.map V.ref ++ [.ref t1]))) ∧ ∃ ss' : List Addr, upd H7 D0 (.lst (ss.map V.ref ++ [.ref t1])) D0 = some (.lst (ss'.map V.ref)) ∧ ss'.length ≤ i + 1 ∧ ∀ t ∈ ss', ∃ z ∈ ks, H1 t = some (.tup [.int (z.at' : Nat), .ref z.st, .ref z.m]) := fun H7 s7 =>
          ⟨s7 _ _ eD, by rw [List.length_map]; exact sz, same_new (sm.trans s7) nD, ss ++ [t1], by rw [upd_same, List.map_append]; rfl, by rw [List.length_append]; simp; omega, fun t ht => by
            rcases List.mem_append.mp ht with ht | ht
            · exact hm t ht
            · rw [List.mem_singleton.mp ht]
              exact ⟨z, mz, ett⟩⟩
        refine ⟨rfl, _, rfl, rfl, _, rfl, ?_⟩
        by_cases ha0 : a = 0
        · exact iteY (decide_eq_true (congrArg V.int (by omega))) ⟨_, rfl, _, add H6 (fun _ _ e => e)⟩
        · refine iteN (decide_eq_false fun q : V.int (a : Nat) = V.int 0 => ha0 (by have := V.int.inj q; omega)) ⟨_, rfl, t1, _, _, _, rfl, rfl, SqT.of (sm _ _ ett), rfl, _, rfl, smL (by simp), fun lg ng => ?_⟩
          have sg : Same H6 (upd H6 lg (.lst [.int 0, .int a])) := same_upd ng
          refine ⟨lg, _, rfl, .inl (SqL.of upd_same), rfl, rfl, _, rfl, ?_⟩
          cases hin : inV (.int (z.at' : Nat)) [.int 0, .int a] with
          | true => exact iteY rfl ⟨_, rfl, _, add _ sg⟩
          | false => exact iteN rfl ⟨sm.trans sg, ss, sg _ _ eD, by omega, hm⟩
      · rintro H5 ⟨sm, ss, eD, hl, hm⟩
        have := Z1.xkn
        rw [List.length_map, Paired.length pkl] at hl
        exact ⟨D0, ss, rfl, sm, eD, by omega, hm⟩
    rintro _ H2 ⟨sl, ss, rfl, s2, esl, hsl, hss⟩
    refine ⟨fun σ' H' => σ' = [some (.ref bx), some (.ref fl), some (.ref kl), some (.ref ul), some (.int a), some (.int w), some (.ref x.h), some (.ref x.m), some (.ref sl), none, none, none] ∧ Same H1 H', ?_, ?_⟩
    · refine ⟨_, rfl, smL (by simp), fun lg ng => ?_⟩
      have sg : Same H2 (upd H2 lg (.lst [.int 2, .int 3])) := same_upd ng
      refine ⟨lg, _, rfl, .inl (SqL.of upd_same), rfl, rfl, _, rfl, ?_⟩
      cases hin : inV (.int w) [.int 2, .int 3] with
      | false => exact iteN rfl ⟨rfl, s2.trans sg⟩
      | true =>
        refine iteY rfl ⟨_, rfl, smL (by simp), fun l0 n0 => ?_⟩
        have s20 : Same H2 (upd (upd H2 lg (.lst [.int 2, .int 3])) l0 (.lst [])) := sg.trans (same_upd n0)
        have s10 := s2.trans s20
        refine ⟨sl, l0, ss.map V.ref, rfl, rfl, SqL.of (s20 _ _ esl), SqL.of upd_same, _, rfl, ?_⟩
        by_cases hs : ss = []
        · exact iteN (decide_eq_false (by rw [hs]; simp)) ⟨rfl, s10⟩
        refine iteY (decide_eq_true (by simpa using hs)) ?_
        obtain ⟨u0, ss', rfl⟩ := List.exists_cons_of_ne_nil hs
        have B0 := Z1.xbx.same s10
        have nsl : sl ≠ bx := B0.ne_lst (s20 _ _ esl) fun i z => nomatch z
        refine ⟨_, rfl, _, rfl, _, rfl, sl, _, rfl, .inl (SqL.of (s20 _ _ esl)), bx, (u0 :: ss').length, n + 2, by rw [List.length_map], by simp, by omega, B0, by omega, fun H3 d s3 B3 hd => ?_⟩
        obtain ⟨u, eu⟩ : ∃ u, (u0 :: ss')[d]? = some u := ⟨_, List.getElem?_eq_getElem hd⟩
        have euv : ((u0 :: ss').map V.ref)[d]? = some (.ref u) := by rw [List.getElem?_map, eu]; rfl
        obtain ⟨z, mz, ett⟩ := hss u (List.mem_of_getElem? eu)
        have s13 := s10.toX.trans s3
        have fr13 : FrH bx kl bx H1 H3 := fun b o h1 _ _ e => s13 b o h1 e
        have okb : HxOk bx bx fam := .inl rfl
        have ett3 := Z1.tup okb fr13 ett
        have Z3 := Z1.draw s13 B3
        obtain ⟨X3, M3⟩ := Z3.xfa x mx
        obtain ⟨dx, eh⟩ := X3.ho
        refine ⟨sl, _, _, _, rfl, rfl, SqL.of (s3 _ _ nsl (s20 _ _ esl)), atI_nat euv, _, rfl, x.h, dx, _, rfl, eh, rfl, _, rfl, u, _, _, _, rfl, rfl, SqT.of ett3, rfl, x.h, p, x.j, us, x.st, x.L, x.k, D, _, rfl, X3, z.st, rfl, fun H4 s4 X4 => ?_⟩
        have kz := Z3.xka z ((by exact mz))
        obtain ⟨y1, ⟨Mz, eMz, pMz⟩, y3⟩ := kz
        have flh : fl ≠ x.h := fun z => by rw [z] at ets1; obtain ⟨dx1, e1⟩ := X1.ho; rw [e1] at ets1; cases ets1
        have e4 : H4 fl = some (.lst (ts.map V.ref)) := s4 _ _ flh (s13 _ _ Z.fl_bx ets1)
        refine ⟨_, rfl, _, rfl, a, rfl, fl, _, rfl, SqL.of e4, fun p1 n1 => ?_⟩
        have uh : u ≠ x.h := ne_of ett3 eh fun z => nomatch z
        have zh : z.m ≠ x.h := ne_of eMz eh fun z => nomatch z
        have ett4 := upd_old (o := .lst (cutV (ts.map V.ref) none (some (a : Int)))) (s4 _ _ uh ett3) n1
        have eM4 := upd_old (o := .lst (cutV (ts.map V.ref) none (some (a : Int)))) (s4 _ _ zh eMz) n1
        refine ⟨_, rfl, _, rfl, u, _, _, _, rfl, rfl, SqT.of ett4, rfl, z.m, _, rfl, .inl eM4, fun m' nm' => ⟨smL (by simp), fun t' nt' => ⟨smL (by simp), fun l2 n2 => ?_⟩⟩⟩
        have S5 := (((same_upd (o := .lst (cutV (ts.map V.ref) none (some (a : Int)))) n1).trans (same_upd nm')).trans (same_upd nt')).trans (same_upd (o := .lst [.ref t']) n2)
        have hts : ts.length ≤ 4 := by omega
        refine ⟨p1, l2, _, _, rfl, rfl, upd_old (upd_old (upd_old upd_same nm') nt') n2, upd_same, smL (by rw [cut_take, List.length_take, List.length_map]; simp; omega), fun q nq => ?_⟩
        have S6 := S5.trans (same_upd (o := .lst (cutV (ts.map V.ref) none (some (a : Int)) ++ [.ref t'])) nq)
        refine ⟨_, rfl, _, rfl, _, _, rfl, rfl, _, rfl, fl, _, rfl, SqL.of (S6 _ _ e4), fun p3 n3 => ⟨q, p3, _, _, rfl, rfl, upd_old upd_same n3, upd_same, smL (by rw [cut_take, show ((a : Int) + 1) = ((a + 1 : Nat) : Int) from rfl, cut_drop, List.length_append, List.length_take, List.length_drop, List.length_map]; simp; omega), fun r nr => ?_⟩⟩
        have S8 := (S6.trans (same_upd (o := .lst (cutV (ts.map V.ref) (some ((a : Int) + 1)) none)) n3)).trans (same_upd (o := .lst (cutV (ts.map V.ref) none (some (a : Int)) ++ [.ref t'] ++ cutV (ts.map V.ref) (some ((a : Int) + 1)) none)) nr)
        have s14 : FrH bx kl x.h H1 H4 := fun b o h1 _ h3 e => s4 _ _ h3 (s13 _ _ h1 e)
        have frr := fun b o (h1 : b ≠ bx) (h2 : b ≠ kl) (h3 : b ≠ x.h) (e : H1 b = some o) => S8 _ _ (s14 b o h1 h2 h3 e)
        have okx : HxOk bx x.h fam := .inr ⟨x, mx, rfl⟩
        have kp1 := Z1.keep okx frr
        have kz1 := Z1.xka z mz
        refine K' _ r (famS fam a ⟨x.h, x.j, z.st, m', z.L, z.k⟩) ks (Z1.frT okx frr) (Z1.put (x' := ⟨x.h, x.j, z.st, m', z.L, z.k⟩) ex rfl frr (fun o e => S8 _ _ (s4 _ _ hkh.symm (s13 _ _ Z1.xkb e))) (Nat.le_succ D) hD ⟨?_, X1.pe.keep kp1, X1.ju.keep kp1, kz1.1.keep kp1, kz1.2.2.wk (Nat.le_succ D) hD, X1.us⟩ ⟨Mz, ?_, pMz⟩ ets1 (t' := t') ?_ ?_ ?_ ?_)
        · exact X4.imp fun _ e => S8 _ _ e
        · exact upd_old (upd_old (upd_old (upd_old (upd_old upd_same nt') n2) nq) n3) nr
        · exact upd_old (upd_old (upd_old (upd_old upd_same n2) nq) n3) nr
        · rw [upd_same, cut_take, show ((a : Int) + 1) = ((a + 1 : Nat) : Int) from rfl, cut_drop]
        · have B4 := B3.sx s4 hbh.symm
          exact (B4.same S8).up (by omega)
        · have hkl : H4 kl = some (.lst (kts.map V.ref)) := s4 _ _ hkh.symm (s13 _ _ Z1.xkb ekl)
          exact ne_of_none (((S6.trans (same_upd (o := .lst (cutV (ts.map V.ref) (some ((a : Int) + 1)) none)) n3))) _ _ hkl) nr
    rintro _ H3 ⟨rfl, s3⟩
    refine ⟨fun σ' H' => ∃ y dv, σ' = [some (.ref bx), some (.ref fl), some (.ref kl), some (.ref ul), some (.int a), some (.int w), some (.ref x.h), some (.ref x.m), some (.ref sl), none, some dv, y] ∧ BoxAt H' bx (n + 8) ∧ ((dv = .non ∧ SameX bx H1 H') ∨ ∃ m' st' L' k', dv = .ref m' ∧ SameY bx x.h H1 H' ∧ HSt c H' x.h p x.j us st' L' k' (D + 1) ∧ MAt H' m' L'), ?_, ?_⟩
    · refine ⟨_, rfl, smL (by simp), fun lg ng => ?_⟩
      have sg : Same H3 (upd H3 lg (.lst [.int 4, .int 5])) := same_upd ng
      have s4 := s3.trans sg
      have B4 := Z1.xbx.same s4
      have X4 := X1.same s4
      have M4 := M1.keep (.of s4)
      have e4 := s4 _ _ Z1.xul
      refine ⟨lg, _, rfl, .inl (SqL.of upd_same), rfl, rfl, _, rfl, ?_⟩
      cases hin : inV (.int w) [.int 4, .int 5] with
      | true =>
        refine iteY rfl ⟨_, rfl, rfl, _, rfl, ?_⟩
        by_cases hw4 : w = 4
        · refine iteY (decide_eq_true (congrArg V.int (by omega))) ⟨_, rfl, _, rfl, _, rfl, bx, x.h, p, x.j, us, x.st, x.L, x.k, D, x.m, n + 2, rfl, X4, M4, B4, by omega, by omega, fun H5 s5 B5 => ?_, fun H5 m' q t st' s5 B5 X5 M5 => ?_⟩
          · exact ⟨_, _, rfl, B5.up (by omega), .inl ⟨rfl, s4.toX.trans s5⟩⟩
          · exact ⟨_, _, rfl, B5.up (by omega), .inr ⟨m', st', _, _, rfl, fun b o h1 h2 e => s5 b o h1 h2 (s4 _ _ e), X5, M5⟩⟩
        · refine iteN (decide_eq_false fun q : V.int (w : Nat) = V.int 4 => hw4 (by have := V.int.inj q; omega)) ⟨_, rfl, _, rfl, _, rfl, bx, x.h, p, x.j, us, x.st, x.L, x.k, D, x.m, n + 2, rfl, X4, M4, B4, by omega, fun H5 s5 B5 => ?_, fun H5 m' q st' s5 B5 X5 M5 => ?_⟩
          · exact ⟨_, _, rfl, B5.up (by omega), .inl ⟨rfl, s4.toX.trans s5⟩⟩
          · exact ⟨_, _, rfl, B5.up (by omega), .inr ⟨m', st', _, _, rfl, fun b o h1 h2 e => s5 b o h1 h2 (s4 _ _ e), X5.wk (Nat.le_succ D) hD, M5⟩⟩
      | false =>
        refine iteN rfl ⟨_, rfl, _, rfl, _, rfl, _, rfl, bx, x.h, p, x.j, us, x.st, x.L, x.k, D, x.m, ul, usl, n + 2, rfl, X4, M4, B4, by omega, by omega, e4, Z.xu1, Z.xu6, Z.xum, fun H5 s5 B5 => ?_, fun H5 q st' a5 s5 B5 X5 okq nq => ?_⟩
        · exact ⟨_, rfl, rfl, _, rfl, iteN rfl ⟨_, _, rfl, B5.up (by omega), .inl ⟨rfl, s4.toX.trans s5⟩⟩⟩
        · obtain ⟨M0, eM0, pM0⟩ := M4
          obtain ⟨dx, eh⟩ := X5.ho
          have mb : x.m ≠ bx := fun z => by
            obtain ⟨b1, b2, b3, eb, _⟩ := B4
            rw [z, eb] at eM0
            cases eM0
          have mh : x.m ≠ x.h := fun z => by
            obtain ⟨dx4, e4⟩ := X4.ho
            rw [z, e4] at eM0
            cases eM0
          have eM5 := s5 _ _ mb mh eM0
          refine ⟨_, rfl, rfl, _, rfl, iteY rfl ?_⟩
          refine ⟨_, rfl, x.m, _, rfl, eM5, fun H6 l6 as k1 k2 k3 k4 k5 k6 => ?_⟩
          have s56 : Same H5 H6 := k1
          have X6 := X5.same s56
          have lo5 := X5.lo
          have hmem : (q, x.k, a5) ∈ x.L ++ [(q, x.k, a5)] := List.mem_append_right _ List.mem_cons_self
          refine ⟨_, rfl, _, rfl, _, rfl, x.h, dx, _, rfl, s56 _ _ eh, x.h, p, x.j, us, st', _, _, _, _, rfl, X6, q, x.k, a5, rfl, hmem, fun H7 s7 => ?_⟩
          have X7 := X6.same s7
          obtain ⟨nd, um, est, end', eum, hNd, _⟩ := X7.sa
          obtain ⟨o, g, acc, dn, d0, b, en, ed⟩ := hNd _ hmem
          refine ⟨a5, dn, _, rfl, en, a5, dn, _, _, rfl, en, rfl, smL (by simp), fun t nt => ⟨smL (by simp), fun l7 n7 => ?_⟩⟩
          have st7 : Same H7 (upd H7 t (.tup [.str (pS q), .int x.k])) := same_upd nt
          have e6 := upd_old (o := .lst [.ref t]) (st7 _ _ (s7 _ _ k5)) n7
          have hlM : M0.length = x.L.length := by rw [pM0.length_eq, numsL, List.length_map]
          have has : as.length = M0.length := by rw [Paired.length k6, marksK_len]
          have hL := X1.lo.len
          refine ⟨l6, l7, _, _, rfl, rfl, e6, upd_same, smL (by rw [List.length_map]; simp; omega), fun r nr => ?_⟩
          have s7r := (st7.trans (same_upd (o := .lst [.ref t]) n7)).trans (same_upd (o := .lst (as.map V.ref ++ [.ref t])) nr)
          have et : (upd (upd (upd H7 t (.tup [.str (pS q), .int x.k])) l7 (.lst [.ref t])) r (.lst (as.map V.ref ++ [.ref t]))) t = some (.tup [kV (Sum.inr (pS q)), .int x.k]) := upd_old (upd_old upd_same n7) nr
          have prs := paired_snoc (paired_mono k6 fun t q z => SqT.of (K := c.K) (s7r _ _ (s7 _ _ z))) (y := ((Sum.inr (pS q) : Key), V.int x.k)) (SqT.of et)
          refine ⟨r, as ++ [t], marksK (M0 ++ [(q, x.k)]), rfl, ?_, ?_, fun m' nm' => ?_⟩
          · rw [List.map_append]
            exact SqL.of upd_same
          · unfold marksK
            rw [List.map_append]
            exact prs
          have hperm : (M0 ++ [(q, x.k)]).Perm (numsL (x.L ++ [(q, x.k, a5)])) := by
            unfold numsL
            rw [List.map_append]
            exact pM0.append_right _
          have em : mergeK [] (marksK (M0 ++ [(q, x.k)])) = marksK (M0 ++ [(q, x.k)]) := by
            rw [mergeK_app _ [] ?_, List.nil_append]
            have hk : ((M0 ++ [(q, x.k)]).map (·.1)).Perm ((x.L ++ [(q, x.k, a5)]).map (·.1)) := by
              rw [← numsL_keys]
              exact hperm.map _
            rw [List.map_nil, List.nil_append, marksK_keys]
            exact keys_nodup (hk.nodup_iff.mpr lo5.nd) fun q hq => lo5.okk (hk.mem_iff.mp hq)
          rw [em]
          have S5 := (s56.trans (s7.trans s7r)).trans (same_upd (o := .dK (marksK (M0 ++ [(q, x.k)]))) nm')
          exact ⟨_, _, rfl, (B5.same S5).up (by omega), .inr ⟨m', st', _, _, rfl, fun b o h1 h2 e => S5 _ _ (s5 b o h1 h2 (s4 _ _ e)), X5.same S5, _, upd_same, hperm⟩⟩
    rintro _ H4 ⟨y, dv, rfl, B4, hd⟩
    rcases hd with ⟨rfl, s4⟩ | ⟨m', st', L', k', rfl, s4, X4, M4⟩
    · exact ⟨_, rfl, rfl, _, rfl, iteY rfl ⟨_, rfl, plain H4 s4 (B4.up (by omega))⟩⟩
    refine ⟨_, rfl, rfl, _, rfl, iteN rfl ?_⟩
    have flh : fl ≠ x.h := fun z => by rw [z] at ets1; obtain ⟨dx1, e1⟩ := X1.ho; rw [e1] at ets1; cases ets1
    have e4 : H4 fl = some (.lst (ts.map V.ref)) := s4 _ _ Z.fl_bx flh ets1
    refine ⟨_, rfl, _, rfl, a, rfl, fl, _, rfl, SqL.of e4, fun p1 n1 => ?_⟩
    refine ⟨_, rfl, _, rfl, smL (by simp), fun t' nt' => ⟨smL (by simp), fun l2 n2 => ?_⟩⟩
    have S5 := ((same_upd (o := .lst (cutV (ts.map V.ref) none (some (a : Int)))) n1).trans (same_upd (o := .tup [.ref x.h, .ref m']) nt')).trans (same_upd (o := .lst [.ref t']) n2)
    have hts : ts.length ≤ 4 := by omega
    refine ⟨p1, l2, _, _, rfl, rfl, upd_old (upd_old upd_same nt') n2, upd_same, smL (by rw [cut_take, List.length_take, List.length_map]; simp; omega), fun q nq => ?_⟩
    have S6 := S5.trans (same_upd (o := .lst (cutV (ts.map V.ref) none (some (a : Int)) ++ [.ref t'])) nq)
    refine ⟨_, rfl, _, rfl, _, _, rfl, rfl, _, rfl, fl, _, rfl, SqL.of (S6 _ _ e4), fun p3 n3 => ⟨q, p3, _, _, rfl, rfl, upd_old upd_same n3, upd_same, smL (by rw [cut_take, show ((a : Int) + 1) = ((a + 1 : Nat) : Int) from rfl, cut_drop, List.length_append, List.length_take, List.length_drop, List.length_map]; simp; omega), fun r nr => ?_⟩⟩
    have S7 := S6.trans (same_upd (o := .lst (cutV (ts.map V.ref) (some ((a : Int) + 1)) none)) n3)
    have S8 := S7.trans (same_upd (o := .lst (cutV (ts.map V.ref) none (some (a : Int)) ++ [.ref t'] ++ cutV (ts.map V.ref) (some ((a : Int) + 1)) none)) nr)
    have frr := fun b o (h1 : b ≠ bx) (h2 : b ≠ kl) (h3 : b ≠ x.h) (e : H1 b = some o) => S8 _ _ (s4 _ _ h1 h3 e)
    have okx : HxOk bx x.h fam := .inr ⟨x, mx, rfl⟩
    have ekl4 : H4 kl = some (.lst (kts.map V.ref)) := s4 _ _ Z1.xkb hkh.symm ekl
    refine K' _ r (famS fam a ⟨x.h, x.j, st', m', L', k'⟩) ks (Z1.frT okx frr) (Z1.put (x' := ⟨x.h, x.j, st', m', L', k'⟩) ex rfl frr (fun o e => S8 _ _ (s4 _ _ Z1.xkb hkh.symm e)) (Nat.le_succ D) hD (X4.same S8) (M4.keep (.of S8)) ets1 (t' := t') ?_ ?_ ((B4.same S8).up (by omega)) (ne_of_none (S7 _ _ ekl4) nr))
    · exact upd_old (upd_old (upd_old (upd_old upd_same n2) nq) n3) nr
    · rw [upd_same, cut_take, show ((a : Int) + 1) = ((a + 1 : Nat) : Int) from rfl, cut_drop]
end K37
end
section
set_option Elab.async false
set_option linter.all false
set_option maxRecDepth 100000
set_option maxHeartbeats 4000000
/-! K5a: sets of texts: what they are, add, len, sorted. -/
namespace K37
open PySem PySem.Spec PyProof.Rows L2
/-- at a stands the set whose members are l -/
def TxS (P : Program) (w : World) (h : Heap) (a : Addr) (l : List Str) : Prop :=
  ∃ D : Froz.SD, h.get? a = some (Froz.sObj "set" D) ∧ Froz.TxOk P w D l ∧ l.Nodup ∧ Ris D.2.2.place.toList ∧ (w.params.followText "set-order" = true ∨ D.2.2.led = true)
def TxO (P : Program) (w : World) (a : Addr) (l : List Str) : HO := .ext fun h => TxS P w h a l
theorem TxS.stay {P : Program} {w : World} {h h' : Heap} {a : Addr} {l : List Str} (R : TxS P w h a l) (k : ∀ o, h.get? a = some o → h'.get? a = some o) : TxS P w h' a l := by
  obtain ⟨D, e, z⟩ := R
  exact ⟨D, k _ e, z⟩
theorem txo_new {w : World} {P : Program} {H : Hp} {h : Heap} {a : Addr} {l : List Str} (R : TxS P w h a l) : ObjOk P w H h a (TxO P w a l) := by
  have ⟨D, e, _⟩ := R
  exact ⟨R, ⟨_, e⟩, fun h1 h2 p k => TxS.stay p k⟩
theorem txo_get {X : Cx} {pins : List (Addr × Obj)} {σ : L2.St} {H : Hp} {s : Shared} {a : Addr} {l : List Str} (I : Inv X pins σ H s) (e : H a = some (TxO X.prog X.w a l)) : TxS X.prog X.w s.heap a l := (I.hok a _ e).1
/-- the set with one text more -/
def addT (l : List Str) (k : Str) : List Str := if k ∈ l then l else k :: l
theorem tail_ris {b : Prop} {ep : Nat} {es : Array (Int × Value)} {t : SetTable} {wd : Bool} (r : Ris t.place.toList) (hl : b ∨ t.led = true) :
    Ris (Froz.tailTx ep es t wd).2.2.place.toList ∧ (b ∨ (Froz.tailTx ep es t wd).2.2.led = true) := by
  unfold Froz.tailTx
  split
  · refine ⟨relayAll_ris _ _ _, hl.imp id fun z => ?_⟩
    show (relayAll t es (SetTable.grown es.size)).2.1.led = true
    rw [relayAll_led]
    exact z
  · exact ⟨r, hl⟩
theorem add_ris {b : Prop} {h : Int} {v : Value} {D : Froz.SD} (r : Ris D.2.2.place.toList) (hl : b ∨ D.2.2.led = true) : Ris (Froz.addTx h v D).2.2.place.toList ∧ (b ∨ (Froz.addTx h v D).2.2.led = true) := by
  have e1 := layNew_ris D.2.2 D.1 h v r
  have e2 := layNew_led D.2.2 D.1 h v
  unfold Froz.addTx
  refine tail_ris ?_ (hl.imp id fun z => ?_)
  · split <;> exact e1
  · rw [← e2] at z
    split <;> exact z
section
variable {P : Program} {w : World} {A : Around} {E : Value → Shared → Prop} {s : Shared} {a : Addr} {l : List Str}
/-- a text that is in: nothing is laid -/
theorem txs_same {D : Froz.SD} {k : Str} {u : Tok} {Q : Bool → Shared → Prop} (ho : s.heap.get? a = some (Froz.sObj "set" D)) (fx : Froz.TxOk P w D l) (hk : k ∈ l) (hb : l.length < scanBound) (h : Q false s) :
    wpAny (model P w) A (setAddHashed a (.str k u) (hashStr w k)) Q E s := by
  obtain ⟨es, ep, t⟩ := D
  have hd : (Froz.sObj "set" (es, ep, t)).data = .set es ep t := rfl
  have hf : t.fits es.size = true := fx.fit
  have hel : ElemsOf (strKind P w) es.toList := fx.el
  have hsz : es.size = l.length := fx.sz
  unfold setAddHashed setAddHashedIn
  refine wpAny_holding (wpAny_bind (wpAny_setState_of ho hd hf ?_))
  dsimp only
  rw [byScan_of rfl (by omega) hel]
  simp only [↓reduceIte]
  unfold setAddByScan
  refine wpAny_bind (wpAny_bind (wpAny_rule ?_))
  refine wpAny_bind (wpAny_setScan_of (knd := strKind P w) (k := k) (Froz.is_str k u) ho hd hf hel ?_)
  cases e : List.findIdx? (fun e => (strKind P w).is k e.2) es.toList with
  | none =>
    obtain ⟨x, hx, q⟩ := (fx.mem k).mp hk
    have := List.findIdx?_eq_none_iff.mp e x hx
    rw [q] at this
    cases this
  | some j =>
    dsimp only
    exact wpAny_pure (wpAny_pure h)
/-- x.add(k) -/
theorem txs_add {k : Str} {u : Tok} {Q : Value → Shared → Prop} (R : TxS P w s.heap a l) (room : l.length + 1 < scanBound)
    (hQ : ∀ h', Heap.SameBut a s.heap h' → TxS P w h' a (addT l k) → Q .none { s with heap := h', toks := s.toks + 1 }) :
    wpAny (model P w) A (call (.builtin "set.add") [.ref a, .str k u]) Q E s := by
  obtain ⟨D, ho, fx, nd, r, hl⟩ := R
  have hT : s.TypeIs (.ref a) "set" := ⟨_, ho, rfl⟩
  refine wpAny_call_entry F.slot_set_add hT F.entry_set_add ?_ (F.args_set_add_2 _ _)
  unfold Builtin.«set.add» Builtin.Frozenset.oneOther
  simp only [List.isEmpty_nil, bind_assoc]
  unfold Builtin.Frozenset.addrOf setAdd
  refine wpAny_bind (wpAny_pure ?_)
  try dsimp only
  refine wpAny_bind (wpAny_pure ?_)
  try dsimp only
  refine wpAny_bind (wpAny_holding ?_)
  refine wpAny_bind ((strKind P w).pyHash (Froz.is_str k u) ?_)
  by_cases hk : k ∈ l
  · refine txs_same (s := { s with toks := s.toks + 1 }) ho fx hk (by omega) ?_
    show wpAny _ _ (ret Value.none) _ _ _
    exact wpAny_pure ⟨_, rfl, hQ s.heap (Heap.SameBut.refl a s.heap) ⟨D, ho, by unfold addT; rw [if_pos hk]; exact ⟨fx, nd, r, hl⟩⟩⟩
  · refine Froz.add_x (s := { s with toks := s.toks + 1 }) ho fx hk room ?_
    show wpAny _ _ (ret Value.none) _ _ _
    obtain ⟨r', hl'⟩ := add_ris (h := hashStr w k) (v := .str k u) r hl
    refine wpAny_pure ⟨_, rfl, hQ _ (Heap.SameBut.update ..) ⟨_, Froz.get_upd _ ho rfl, ?_⟩⟩
    unfold addT
    rw [if_neg hk]
    exact ⟨Froz.add_ok u fx, List.nodup_cons.mpr ⟨hk, nd⟩, r', hl'⟩
theorem txs_fresh {h : Heap} : TxS P w (h.push { cls := .type "set", dict := none, data := .set #[] 0 (.fresh 0 0 (!w.params.followText "set-order")) }) h.objs.size [] := by
  refine ⟨(#[], 0, .fresh 0 0 (!w.params.followText "set-order")), Heap.get?_push_size _ rfl, Froz.TxOk.nil (by rfl), List.nodup_nil, List.Pairwise.nil, ?_⟩
  show _ ∨ (!w.params.followText "set-order") = true
  cases w.params.followText "set-order"
  · exact .inr rfl
  · exact .inl rfl
theorem strs_vals : ∀ vs : List Value, (∀ v ∈ vs, ∃ k t, v = Value.str k t) → ∃ ss, StrsAre vs ss
  | [], _ => ⟨[], .nil⟩
  | v :: vs, h => by
    obtain ⟨ss, z⟩ := strs_vals vs fun x hx => h x (List.mem_cons_of_mem _ hx)
    obtain ⟨k, t, rfl⟩ := h v List.mem_cons_self
    exact ⟨k :: ss, .cons k t z⟩
end
section
variable {X : Cx} {pins : List (Addr × Obj)} {σ : L2.St} {H : Hp} {s : Shared}
theorem addT_len (l : List Str) (k : Str) : (addT l k).length ≤ l.length + 1 := by
  unfold addT
  split
  · omega
  · exact Nat.le_refl _
/-- len of a set of texts -/
theorem call_lenTx : CallR X (.builtin "len") (fun xs H Q => ∃ a l, xs = [.ref a] ∧ H a = some (TxO X.prog X.w a l) ∧ l.length < 1000 ∧ Q (.int l.length) H) := by
  intro pins s σ H xs us Q I r h
  obtain ⟨a, l, rfl, ha, hz, q⟩ := h
  rw [Vals.ref1 r]
  obtain ⟨⟨es, ep, t⟩, ho, fx, _⟩ := txo_get I ha
  have hsz : es.size = l.length := fx.sz
  refine call_len_set (es := es) (ep := ep) (t := t) ho ⟨rfl, rfl, rfl⟩ rfl fx.fit (by rw [hsz]; omega) ?_
  exact ⟨.int l.length, H, (I.tok (s.toks + 1)).tok _, ⟨_, by rw [hsz]⟩, q⟩
/-- sorted of a set of texts: how many there are -/
theorem cr_sortedTx (hc : X.calm = true) : CallR X (.builtin "sorted") (fun xs H Q => ∃ a l, xs = [.ref a] ∧ H a = some (TxO X.prog X.w a l) ∧ l.length < 64 ∧ ∀ (ys : List Str) p, ys.length = l.length → H p = none → Q (.ref p) (upd H p (.lst (ys.map V.str)))) := by
  intro pins s σ H xs us Q I r h
  obtain ⟨a, l, rfl, ha, h64, q⟩ := h
  rw [Vals.ref1 r]
  obtain ⟨⟨es, ep, t⟩, ho, fx, nd, hr, hl⟩ := txo_get I ha
  have hsz : es.size = l.length := fx.sz
  have hf : t.fits es.size = true := fx.fit
  have hb : es.size < scanBound := by rw [hsz]; exact Nat.lt_trans h64 (by decide)
  refine Calls.call_function_entry kind_sorted plain_sorted entry_sorted (args_sorted1 _) ?_
  unfold Builtin.«sorted»
  refine wpAny_bind (m := checkCount "sorted" 1 1 _) (wpAny_pure ?_)
  refine wpAny_bind (collect_set (A := X.A.in1) (I.ok.hd hc) (es := es) (ep := ep) (t := t) ⟨_, ho, rfl, rfl⟩ hf hb hr hl fun s1 vs k1 hz g1 o1 pm => ?_)
  have hvl : vs.length = l.length := by rw [pm.length_eq, List.length_map, Array.length_toList, hsz]
  obtain ⟨ss, hS⟩ := strs_vals vs fun v hv => by
    obtain ⟨e, he, rfl⟩ := List.mem_map.mp (pm.mem_iff.mp hv)
    obtain ⟨⟨k, h1, _⟩, _⟩ := fx.el e he
    obtain ⟨tk, e1⟩ := Value.isStrOf_shape (x := k) (v := e.2) h1
    exact ⟨k, tk, e1⟩
  refine wpAny_bind (wpAny_newList ?_ (by rw [hvl, sizeLine_eq]; omega))
  have hoL : (s1.heap.push (seqObj "list" vs.toArray 0)).get? s1.heap.objs.size = some (seqObj "list" vs.toArray 0) := Heap.get?_push_size _ rfl
  refine wpAny_bind (wpAny_holding (wpAny_call_entry slot_list_sort ⟨_, hoL, rfl⟩ entry_list_sort (list_sort_treeK strKind_oneLt hoL hS.keysOf (fun v1 v2 rest e => keyKind_strs (by rw [← e]; exact hS)) (by rw [hvl]; exact h64) fun st' hp hs => ⟨_, rfl, ?_⟩) (args_list_sort _)))
  obtain ⟨ys, a1, a2, _⟩ := sorted_out_str hS hp hs
  generalize (arrOf st').map (·.2) = out at a1 ⊢
  obtain ⟨c, hcc⟩ := sortedHeap_at (vs := vs) (out := out) hoL
  have hyl : ys.length = l.length := by rw [a2.length_eq, ← hvl, hS.length]
  have keep : ∀ b u, s.heap.get? b = some u → (sortedHeap (s1.heap.push (seqObj "list" vs.toArray 0)) s1.heap.objs.size vs out).get? b = some u := fun b u e => by
    have z := k1 b u e
    have hlt := Heap.lt_size z
    rw [sortedHeap_old (Nat.ne_of_lt hlt) (by rw [size_push']; exact Nat.lt_succ_of_lt hlt)]
    exact Heap.get?_push_of_some _ z
  have hn : H s1.heap.objs.size = none := I.hok.fresh hz
  have hlen : (ys.map V.str).length ≤ sizeLine := by rw [List.length_map, hyl, sizeLine_eq]; omega
  refine wpAny_pure ⟨_, rfl, .ref s1.heap.objs.size, upd H s1.heap.objs.size (.lst (ys.map V.str)), ?_, rfl, q ys _ hyl hn⟩
  obtain ⟨h1, g1', d1, t1, os1⟩ := s1
  obtain rfl : os1 = s.os := o1
  obtain rfl : g1' = s.gens := g1
  have J : Inv X pins σ (upd H h1.objs.size (.lst (ys.map V.str))) { s with heap := sortedHeap (h1.push (seqObj "list" vs.toArray 0)) h1.objs.size vs out, drawn := d1, toks := t1 } :=
    I.call (ch := []) (Un.laid keep hz hn) (I.hok.laid keep hz ⟨hlen, out.toList, c, vals_of_strs a1, hcc⟩) I.bare (fun _ z => nomatch z)
  exact J
end
end K37
end
section
set_option Elab.async false
set_option linter.all false
set_option maxRecDepth 100000
set_option maxHeartbeats 4000000
/-! K5b: {e for x in xs}, {e for xs in xss for e in xs}: sets of texts. -/
namespace K37
open PySem PySem.Spec PyProof.Rows L2
section
variable {prog : Program} {w : World} {A : Around} {R : Result → Shared → Prop} {s : Shared} {env : Env}
abbrev NB (prog : Program) (w : World) (A : Around) (env : Env) (R : Result → Shared → Prop) : Value → Shared → Prop := notedBy (model prog w) A env fun e s' => R (.error e) s'
abbrev ifsOk (ifs : List Expr) (env : Env) : Sem Bool := forIn ifs true fun c r => if r = true then do let ok ← isTrue c env (eval c env); pure (ForInStep.yield ok) else pure (ForInStep.yield r)
/-- what a clause's turn is; act: what it does behind the tests, then go on -/
def turnOf (e tg iter : Expr) (ifs : List Expr) (i0 : Nat) (it acc : Value) (env : Env) (act : Sem Fin → Sem Fin) : Sem Fin :=
  standAt iter.pos >>= fun _ => pyNext it >>= fun r => match r with
    | none => pure (.done .next)
    | some v => letOwnedTupleGo tg it v >>= fun _ => assign tg env v >>= fun _ => ifsOk ifs env >>= fun ok => if ok = true then act (again (.compLoop e i0 it acc env)) else again (.compLoop e i0 it acc env)
/-- a clause's loop -/
theorem clause_loop {elt tg iter : Expr} {gs : List Comprehension} {scope : Scope} {pos : Pos} {ifs : List Expr} {i0 : Nat} {it acc : Value} {act : Sem Fin → Sem Fin}
    (ht : compTurn (.SetComp elt gs scope pos) i0 it acc env = turnOf (.SetComp elt gs scope pos) tg iter ifs i0 it acc env act) (I : Nat → Shared → Prop)
    (turn : ∀ n s, I n s → wpAny (model prog w) A (pyNext it) (fun r s1 => match r with
      | none => R (.ok .next) s1
      | some v => wpAny (model prog w) A (letOwnedTupleGo tg it v) (fun _ s2 => wpAny (model prog w) A (assign tg env v) (fun _ s3 => wpAny (model prog w) A (ifsOk ifs env) (fun ok s4 =>
          if ok = true then ∀ (k : Sem Fin) (Qk : Fin → Shared → Prop), (∀ s5, (∃ m, m < n ∧ I m s5) → wpAny (model prog w) A k Qk (NB prog w A env R) s5) → wpAny (model prog w) A (act k) Qk (NB prog w A env R) s4
          else ∃ m, m < n ∧ I m s4) (NB prog w A env R) s3) (NB prog w A env R) s2) (NB prog w A env R) s1) (NB prog w A env R) s)
    (n : Nat) (h : I n s) : codeAny (model prog w) A (.compLoop (.SetComp elt gs scope pos) i0 it acc env) R s := by
  refine codeAny_loop rfl I (fun n s hI => ?_) n h
  show wpAny _ A ((compTurn (.SetComp elt gs scope pos) i0 it acc env).onRaise (fun x => do noteFrame x env; theTreesLotGoes x)) _ _ s
  refine wpAny_noted ?_
  rw [ht]
  refine wpAny_bind (wpAny_standAt (wpAny_bind (wpAny_mono (turn n s hI) (fun r s1 h1 => ?_) fun _ _ z => z)))
  cases r with
  | none => exact wpAny_pure h1
  | some v =>
    refine wpAny_bind (wpAny_mono h1 (fun _ s2 h2 => ?_) fun _ _ z => z)
    refine wpAny_bind (wpAny_mono h2 (fun _ s3 h3 => ?_) fun _ _ z => z)
    refine wpAny_bind (wpAny_mono h3 (fun ok s4 h4 => ?_) fun _ _ z => z)
    cases ok with
    | false => exact wpAny_pure ⟨rfl, h4⟩
    | true => exact h4 _ _ fun s5 h5 => wpAny_pure ⟨rfl, h5⟩
end
/-- what a turn knows of its slots: what the block knew at its start -/
def Wk (vs : List Nat) (σ σ2 : L2.St) : Prop := σ.length = σ2.length ∧ ∀ (j : Nat) (v : V), (wipe σ vs)[j]? = some (some v) → σ2[j]? = some (some v)
abbrev TR : Type := Addr → L2.St → Hp → (Hp → Prop) → Prop
/-- a set comprehension's reading; tr: what a turn does -/
def tSg (P : Program) (w : World) (wi : TI) (g : TG) (tt : TT) (tr : TR) (vs : List Nat) : TE := fun σ H Q => wi σ H fun J H1 => ∀ D, H1 D = none → ∃ W : Nat → Nat → Hp → Prop, (∃ m, W 0 m (upd H1 D (TxO P w D []))) ∧ ∀ i m H, W i m H →
  (J.stop i H ∧ Q (.ref D) H) ∨ (J.go i H ∧ ∃ Nx : Hp → Prop, (∀ H', Nx H' → ∃ m', m' < m ∧ W (i + 1) m' H') ∧ ∀ x H', J.yld i H x H' → g x (wipe σ vs) H' fun σ2 H2 => wipe σ2 vs = wipe σ vs ∧ tt σ2 H2 fun b H3 =>
    if b = true then tr D σ2 H3 Nx else Nx H3)
/-- .. one text a turn -/
def trOne (P : Program) (w : World) (te : TE) : TR := fun D σ H Nx => te σ H fun y H4 => ∃ k l, y = .str k ∧ H4 D = some (TxO P w D l) ∧ l.length + 1 < scanBound ∧ Nx (upd H4 D (TxO P w D (addT l k)))
/-- .. the texts of a second source -/
def trTwo (P : Program) (w : World) (wi1 : TI) (g1 : TG) (te : TE) (vs1 : List Nat) : TR := fun D σ2 H3 Nx => wi1 σ2 H3 fun J1 H4 => ∃ W1 : Nat → Nat → Hp → Prop, (∃ m, W1 0 m H4) ∧ ∀ j k H, W1 j k H →
  (J1.stop j H ∧ Nx H) ∨ (J1.go j H ∧ ∃ Nx1 : Hp → Prop, (∀ H', Nx1 H' → ∃ k', k' < k ∧ W1 (j + 1) k' H') ∧ ∀ x H', J1.yld j H x H' → g1 x (wipe σ2 vs1) H' fun σ3 H5 => wipe σ3 vs1 = wipe σ2 vs1 ∧ trOne P w te D σ3 H5 Nx1)
section
variable {X : Cx}
theorem add_one {pins : List (Addr × Obj)} {σ : L2.St} {H : Hp} {s : Shared} {E : Value → Shared → Prop} {D : Addr} {l : List Str} {k : Str} {v : Value} {Q : Value → Shared → Prop} (I : Inv X pins σ H s) (hD : H D = some (TxO X.prog X.w D l)) (room : l.length + 1 < scanBound) (rv : RelV (.str k) v)
    (h : ∀ s', Inv X pins σ (upd H D (TxO X.prog X.w D (addT l k))) s' → Q .none s') : wpAny (model X.prog X.w) X.A (call (.builtin "set.add") [.ref D, v]) Q E s := by
  obtain ⟨u, rfl⟩ := rv
  refine txs_add (txo_get I hD) room fun h' sb new => ?_
  have he : ∃ o, h'.get? D = some o := by
    obtain ⟨z, e, _⟩ := new
    exact ⟨_, e⟩
  exact h _ (I.write (e := D) (t' := s.toks + 1) (by rw [hD]; trivial) (.inl rfl) (fun b o hb ho => (sb.2 b hb).trans ho) he (txo_new new))
theorem sg_core {pins : List (Addr × Obj)} {s : Shared} {σ : L2.St} {H : Hp} {Q : VK} {elt tg iter : Expr} {ifs : List Expr} {gs : List Comprehension} {scope : Scope} {own : List (Str × Nat)} {pos pos' : Pos} {wi : TI} {g : TG} {tt : TT} {tr : TR} {Qf : Value → Shared → Prop} {act : Env → Value → Sem Fin → Sem Fin}
    (he : ∀ it acc env, compTurn (.SetComp elt (⟨tg, iter, ifs, 0⟩ :: gs) scope pos) 0 it acc env = turnOf (.SetComp elt (⟨tg, iter, ifs, 0⟩ :: gs) scope pos) tg iter ifs 0 it acc env (act env acc))
    (hc : X.calm = true) (hN : X.N.Nodup) (I : Inv X pins σ H s) (hi : PI X tg iter wi) (ok : BlkOk X.N X.env.scope scope own)
    (hg : ∀ (s : Shared) (H : Hp) (C : Addr) (cl : List (Str × Addr)) (fp : List Addr), PG (X.blk s H scope (compEnvC scope cl C X.env) fp) tg g) (ht : ∀ (s : Shared) (H : Hp) (C : Addr) (cl : List (Str × Addr)) (fp : List Addr), PTs (X.blk s H scope (compEnvC scope cl C X.env) fp) ifs tt)
    (hr : ∀ (s0 : Shared) (H0 : Hp) (C : Addr) (cl : List (Str × Addr)) (fp : List Addr) (D : Addr) (pins' : List (Addr × Obj)) (σ' : L2.St) (s' : Shared) (H' : Hp) (Nx : Hp → Prop), Inv (X.blk s0 H0 scope (compEnvC scope cl C X.env) fp) pins' σ' H' s' → tr D σ' H' Nx →
      ∀ (k : Sem Fin) (Qk : Fin → Shared → Prop) (E : Value → Shared → Prop), (∀ s2 σ2 H2, Inv (X.blk s0 H0 scope (compEnvC scope cl C X.env) fp) pins' σ2 H2 s2 → Wk (own.map (·.2)) σ' σ2 → Nx H2 → wpAny (model X.prog X.w) X.A k Qk E s2) →
      wpAny (model X.prog X.w) X.A (act (compEnvC scope cl C X.env) (.ref D) k) Qk E s')
    (hs : ∀ x, foldedSetIterable iter X.env x = pure x)
    (h : tSg X.prog X.w wi g tt tr (own.map (·.2)) σ H Q)
    (hRR : ∀ D C s' m H', Inv X pins σ H' s' → Q (.ref D) H' → s'.heap.Ns C m → FpOk X pins H' C → compPost (model X.prog X.w) X.A X.xe none Qf (.ref D) C (.ok .next) s') :
    wpAny (model X.prog X.w) X.A (comprehension (.SetComp elt (⟨tg, iter, ifs, 0⟩ :: gs) scope pos) scope X.env pos' (newSet (.type "set")) false (eval iter X.env) none) Qf X.xe s := by
  have hfree : ∀ y ∈ scope.names, y.2 = .free → ∃ c, X.env.cells.lookup y.1 = some c := fun y hy e => by
    rcases ok.free y hy e with k | k
    · exact I.ok.has _ (.inl k)
    · exact I.ok.has _ (.inr k)
  refine wpAny_comprehension_free (use := none) rfl hs (closure_ok hfree) ok.kind (fun y hy e => by rw [ok.uniq y hy, e])
    (thn (hi.run pins s σ H _ I h) fun xv s1 hx => thn hx fun itv s2 h2 => ?_)
  obtain ⟨it, fp, tn, J, H2, e, I2, T, st2, f2, q⟩ := h2
  subst e
  refine PpSet.newSet_ok (newEnv_comp ?_)
  generalize hD : s2.heap.objs.size = D
  have nD : H2 D = none := I2.hok.fresh (Nat.le_of_eq hD)
  obtain ⟨W, ⟨m0, w0⟩, turn⟩ := q D nD
  generalize es3 : ({ s2 with heap := s2.heap.push { cls := .type "set", dict := none, data := .set #[] 0 (.fresh 0 0 (!X.w.params.followText "set-order")) } } : Shared) = s3
  have h3 : s3.heap = s2.heap.push { cls := .type "set", dict := none, data := .set #[] 0 (.fresh 0 0 (!X.w.params.followText "set-order")) } := by rw [← es3]
  have I3 : Inv X pins σ (upd H2 D (TxO X.prog X.w D [])) s3 := by
    rw [← es3]
    refine I2.laid (t' := s2.toks) (fun b o e => Heap.get?_push_of_some _ e) (Nat.le_of_eq hD) ?_
    rw [← hD]
    exact txo_new txs_fresh
  have f3 : ∀ b ∈ fp, FpOk X pins (upd H2 D (TxO X.prog X.w D [])) b ∧ b < s3.heap.objs.size := fun b hb => by
    obtain ⟨o, e, _⟩ := T.obj _ _ st2 b hb
    have lt := Heap.lt_size e
    refine ⟨⟨?_, (f2 b hb).2⟩, by rw [h3, Heap.size_push]; exact Nat.lt_succ_of_lt lt⟩
    rw [upd_ne (by rw [← hD]; exact Nat.ne_of_lt lt)]
    exact (f2 b hb).1
  have st3 : tn 0 s3.heap := T.keep _ _ _ st2 fun b _ o e => by rw [h3]; exact Heap.get?_push_of_some _ e
  have I4 := block_start I3 ok hN f3
  have pg := hg s3 (upd H2 D (TxO X.prog X.w D [])) s3.heap.objs.size (cellsFrom (s3.heap.objs.size + 1) scope.names (cloFrom X.env.cells scope.names [])) fp
  have pt := ht s3 (upd H2 D (TxO X.prog X.w D [])) s3.heap.objs.size (cellsFrom (s3.heap.objs.size + 1) scope.names (cloFrom X.env.cells scope.names [])) fp
  have pr := hr s3 (upd H2 D (TxO X.prog X.w D [])) s3.heap.objs.size (cellsFrom (s3.heap.objs.size + 1) scope.names (cloFrom X.env.cells scope.names [])) fp D
  show codeAny _ _ (.compStart (.SetComp elt (⟨tg, iter, ifs, 0⟩ :: gs) scope pos) 0 (.ref it) (.ref D) (compEnvC scope (cellsFrom (s3.heap.objs.size + 1) scope.names (cloFrom X.env.cells scope.names [])) s3.heap.objs.size X.env)) (compPost (model X.prog X.w) X.A X.xe none Qf (.ref D) s3.heap.objs.size) { s3 with heap := pushCells (s3.heap.push { cls := .type "dict", data := .dict #[] }) scope.names }
  have nfp : ∀ b ∈ fp, (upd H2 D (TxO X.prog X.w D [])) b = none := fun b hb => (f3 b hb).1.1
  generalize hce : compEnvC scope (cellsFrom (s3.heap.objs.size + 1) scope.names (cloFrom X.env.cells scope.names [])) s3.heap.objs.size X.env = ce at I4 pg pt pr ⊢
  have cL : ce.locals = s3.heap.objs.size := by subst hce; rfl
  generalize hH3 : upd H2 D (TxO X.prog X.w D []) = H3 at I3 I4 pg pt pr w0 nfp f3
  generalize es4 : ({ s3 with heap := pushCells (s3.heap.push { cls := .type "dict", data := .dict #[] }) scope.names } : Shared) = s4 at I4 ⊢
  have st4 : tn 0 s4.heap := T.keep _ _ _ st3 fun b _ o e => by rw [← es4]; exact pushCells_keeps _ _ _ _ (Heap.get?_push_of_some _ e)
  have stat : ∀ {σ' : L2.St} {H' : Hp} {s' : Shared}, Inv (X.blk s3 H3 scope ce fp) [] σ' H' s' → (∀ b ∈ fp, H' b = none) → ∀ b ∈ fp, FpOk (X.blk s3 H3 scope ce fp) [] H' b := fun {σ' H' s'} I' hn b hb =>
    ⟨hn b hb, (I'.ok.exf b hb).1, I'.ok.exfs b hb, .inl hb, fun x c e => (I'.ok.exf b hb).2 x c e, fun p hp => absurd (show p ∈ ([] : List (Addr × Obj)) ++ [] from hp) (by simp)⟩
  have loop : codeAny (model X.prog X.w) X.A (.compLoop (.SetComp elt (⟨tg, iter, ifs, 0⟩ :: gs) scope pos) 0 (.ref it) (.ref D) ce) (compPost (model X.prog X.w) X.A X.xe none Qf (.ref D) s3.heap.objs.size) s4 := by
    refine clause_loop (he (.ref it) (.ref D) ce) (fun n s' => ∃ i H', Inv (X.blk s3 H3 scope ce fp) [] (wipe σ (own.map (·.2))) H' s' ∧ tn i s'.heap ∧ (∀ b ∈ fp, H' b = none) ∧ W i n H') ?_ m0 ⟨0, H3, I4, st4, nfp, w0⟩
    rintro n s5 ⟨i, H5, I5, st5, n5, w5⟩
    rcases turn i n H5 w5 with ⟨stop, qq⟩ | ⟨go, Nx, hNx, step⟩
    · refine thnF (T.done (X.blk s3 H3 scope ce fp) rfl rfl rfl hc i [] s5 _ H5 (fun _ _ => False) I5 (stat I5 n5) st5 stop) fun r s6 ⟨er, I6⟩ => ?_
      subst er
      have I7 : Inv X pins σ H5 s6 := I3.call' (ch := fp) I6.os I6.base I6.hok I6.bare fun b hb => ⟨(f3 b hb).1.2.2.2.1, (f3 b hb).1.2.1, (f3 b hb).1.2.2.2.2.1, (f3 b hb).1.2.2.2.2.2⟩
      have nC : H5 s3.heap.objs.size = none := by
        have z : H5 ce.locals = none := I6.free
        rwa [cL] at z
      obtain ⟨m, hn, _⟩ := I6.loc
      have hn : s6.heap.Ns ce.locals m := hn
      rw [cL] at hn
      exact hRR D s3.heap.objs.size s6 m H5 I7 qq hn (I3.fpOk (Nat.le_refl _) nC)
    · refine thnF (T.item (X.blk s3 H3 scope ce fp) rfl rfl rfl hc i [] s5 _ H5 (fun _ _ => False) I5 (stat I5 n5) st5 go) fun r s6 ⟨u, er, h6⟩ => ?_
      subst er
      refine thnF h6 fun _ s7 ⟨x, H7, I7, r7, y7, st7, n7⟩ => ?_
      have I7' := I7.pinned (stat I7 n7) (T.obj _ _ st7)
      refine thnF (pg.run _ s7 _ H7 x u _ I7' r7 (step x H7 y7)) fun _ s8 ⟨σ8, H8, I8, hw8, q8⟩ => ?_
      refine thnF (pt.run _ s8 σ8 H8 _ I8 q8) fun b s9 ⟨H9, I9, q9⟩ => ?_
      have back : ∀ {σ9 : L2.St} {s' : Shared} {H' : Hp}, Inv (X.blk s3 H3 scope ce fp) ([] ++ pinsAt fp s7.heap) σ9 H' s' → Wk (own.map (·.2)) σ8 σ9 → Nx H' →
          ∃ m, m < n ∧ ∃ i H', Inv (X.blk s3 H3 scope ce fp) [] (wipe σ (own.map (·.2))) H' s' ∧ tn i s'.heap ∧ (∀ b ∈ fp, H' b = none) ∧ W i m H' := fun {σ9 s' H'} I' wk nx => by
        obtain ⟨m', hm, w'⟩ := hNx H' nx
        have pin' : ∀ b ∈ fp, ∀ o, s7.heap.get? b = some o → s'.heap.get? b = some o ∧ H' b = none := fun b hb o e =>
          let z := I'.pin (b, o) (List.mem_append_right _ (List.mem_append_right _ (mem_pinsAt hb e)))
          ⟨z.1, z.2.1⟩
        refine ⟨m', hm, i + 1, H', (I'.unpinned (pins := [])).weak (by rw [← hw8, wipe_length]; exact wk.1) (fun j v e => wk.2 j v (by rw [hw8]; exact e)), T.keep _ _ _ st7 fun b hb o e => (pin' b hb o e).1, fun b hb => ?_, w'⟩
        obtain ⟨o, e, _⟩ := T.obj _ _ st7 b hb
        exact (pin' b hb o e).2
      cases b with
      | false =>
        simp only [Bool.false_eq_true, if_false] at q9 ⊢
        exact back I9 ⟨rfl, fun j v e => (wipe_some e).1⟩ q9
      | true =>
        simp only [if_true] at q9 ⊢
        exact fun k Qk hk => pr _ σ8 s9 H9 Nx I9 q9 k Qk _ fun s10 σ10 H10 I10 wk nx => hk s10 (back I10 wk nx)
  exact PpSet.codeAny_compStart_set loop (T.self X.A 0 _ _ _ st4 loop)
/-- {e for x in xs if ..} as a value -/
theorem pe_sg1 {elt tg iter : Expr} {ifs : List Expr} {scope : Scope} {own : List (Str × Nat)} {pos : Pos} {wi : TI} {g : TG} {tt : TT} {te : TE} (hc : X.calm = true) (hN : X.N.Nodup) (hi : PI X tg iter wi) (ok : BlkOk X.N X.env.scope scope own)
    (hg : ∀ (s : Shared) (H : Hp) (C : Addr) (cl : List (Str × Addr)) (fp : List Addr), PG (X.blk s H scope (compEnvC scope cl C X.env) fp) tg g) (ht : ∀ (s : Shared) (H : Hp) (C : Addr) (cl : List (Str × Addr)) (fp : List Addr), PTs (X.blk s H scope (compEnvC scope cl C X.env) fp) ifs tt)
    (hx : ∀ (s : Shared) (H : Hp) (C : Addr) (cl : List (Str × Addr)) (fp : List Addr), PE (X.blk s H scope (compEnvC scope cl C X.env) fp) elt te) (hs : ∀ x, foldedSetIterable iter X.env x = pure x := by intro _; rfl) :
    PE X (.SetComp elt [⟨tg, iter, ifs, 0⟩] scope pos) (tSg X.prog X.w wi g tt (trOne X.prog X.w te) (own.map (·.2))) := by
  refine ⟨fun pins s σ H Q I h => ?_⟩
  rw [PpSet.eval_SetComp]
  refine sg_core (act := fun env acc k => (do let v ← eval elt env; standAt elt.pos; let _ ← call (.builtin "set.add") [acc, v]) >>= fun _ => k) (fun it acc env => by rfl) hc hN I hi ok hg ht ?_ hs h fun D C s' m H' I' q hn f => ⟨m, hn, fun h'' sb => ?_⟩
  · intro s0 H0 C cl fp D pins' σ' s' H' Nx I' q' k Qk E hk
    have px := hx s0 H0 C cl fp
    refine wpAny_bind (wpAny_bind (thnF (px.run _ s' σ' H' _ I' q') fun z s10 ⟨y, H10, I10, r10, kk, l, ey, hD, room, nx⟩ => ?_))
    subst ey
    exact wpAny_bind (wpAny_standAt (wpAny_bind (add_one (X := X.blk s0 H0 scope (compEnvC scope cl C X.env) fp) I10 hD room r10 fun s11 I11 => wpAny_pure (hk s11 _ _ I11 ⟨rfl, fun j v e => (wipe_some e).1⟩ nx))))
  · obtain ⟨f0, f1, f2, f3, f4, f5⟩ := f
    exact ⟨.ref D, H', I'.turned (t' := s'.toks) (fun b o hb e => (sb.2 b hb).trans e) f0 f1 f3 f4 f5, rfl, q⟩
section
variable {prog : Program} {w : World} {A : Around} {R : Result → Shared → Prop} {s : Shared} {elt t0 i0 t1 i1 : Expr} {ifs0 ifs1 : List Expr} {scope : Scope} {pos : Pos} {it acc : Value} {env : Env}
theorem second_start (h0 : codeAny (model prog w) A (.compLoop (.SetComp elt [⟨t0, i0, ifs0, 0⟩, ⟨t1, i1, ifs1, 0⟩] scope pos) 1 it acc env) R s)
    (h : wpAny (model prog w) A (pyIter it) (fun it' s' => codeAny (model prog w) A (.compLoop (.SetComp elt [⟨t0, i0, ifs0, 0⟩, ⟨t1, i1, ifs1, 0⟩] scope pos) 1 it' acc env) R s') (NB prog w A env R) s) :
    codeAny (model prog w) A (.compStart (.SetComp elt [⟨t0, i0, ifs0, 0⟩, ⟨t1, i1, ifs1, 0⟩] scope pos) 1 it acc env) R s := by
  refine codeAny_of_tree ?_
  show wpAny _ _ ((compStart (.SetComp elt [⟨t0, i0, ifs0, 0⟩, ⟨t1, i1, ifs1, 0⟩] scope pos) 1 it acc env).onRaise (fun x => do noteFrame x env; standAt theWindowsPlace)) _ _ s
  refine wpAny_notedAt ?_
  unfold compStart
  show wpAny _ _ (ask >>= _) _ _ s
  refine wpAny_bind (wpAny_askSetting (wpAny_ite ?_))
  split
  · first
      | exact wpAny_bind (wpAny_pure (wpAny_pure (And.intro rfl h0)))
      | exact wpAny_pure (And.intro rfl h0)
  · refine wpAny_bind (wpAny_rule ?_)
    show wpAny _ _ (standAt i1.pos >>= _) _ _ s
    exact wpAny_bind (wpAny_standAt (wpAny_bind (wpAny_mono h (fun it' s' h' => wpAny_pure (And.intro rfl h')) fun _ _ x => x)))
end
/-- {e for x in xs if .. for y in ys} as a value -/
theorem pe_sg2 {elt tg iter tg1 iter1 : Expr} {ifs : List Expr} {scope : Scope} {own : List (Str × Nat)} {vs1 : List Nat} {pos : Pos} {wi wi1 : TI} {g g1 : TG} {tt : TT} {te : TE} (hc : X.calm = true) (hN : X.N.Nodup) (hi : PI X tg iter wi) (ok : BlkOk X.N X.env.scope scope own) (hv : ∀ i ∈ vs1, i ∈ own.map (·.2))
    (hg : ∀ (s : Shared) (H : Hp) (C : Addr) (cl : List (Str × Addr)) (fp : List Addr), PG (X.blk s H scope (compEnvC scope cl C X.env) fp) tg g) (ht : ∀ (s : Shared) (H : Hp) (C : Addr) (cl : List (Str × Addr)) (fp : List Addr), PTs (X.blk s H scope (compEnvC scope cl C X.env) fp) ifs tt)
    (hi1 : ∀ (s : Shared) (H : Hp) (C : Addr) (cl : List (Str × Addr)) (fp : List Addr), PI (X.blk s H scope (compEnvC scope cl C X.env) fp) tg1 iter1 wi1)
    (hg1 : ∀ (s : Shared) (H : Hp) (C : Addr) (cl : List (Str × Addr)) (fp : List Addr), PG (X.blk s H scope (compEnvC scope cl C X.env) fp) tg1 g1)
    (hx : ∀ (s : Shared) (H : Hp) (C : Addr) (cl : List (Str × Addr)) (fp : List Addr), PE (X.blk s H scope (compEnvC scope cl C X.env) fp) elt te) (hs : ∀ x, foldedSetIterable iter X.env x = pure x := by intro _; rfl) (hs1 : ∀ env x, foldedSetIterable iter1 env x = pure x := by intro _ _; rfl) :
    PE X (.SetComp elt [⟨tg, iter, ifs, 0⟩, ⟨tg1, iter1, [], 0⟩] scope pos) (tSg X.prog X.w wi g tt (trTwo X.prog X.w wi1 g1 te vs1) (own.map (·.2))) := by
  refine ⟨fun pins s σ H Q I h => ?_⟩
  rw [PpSet.eval_SetComp]
  refine sg_core (act := fun env acc k => do
            let x ← eval iter1 env
            standAt iter1.pos
            let x ← foldedSetIterable iter1 env x
            let _ ← runOwn (.compStart (.SetComp elt [⟨tg, iter, ifs, 0⟩, ⟨tg1, iter1, [], 0⟩] scope pos) 1 (← holding [x] (pyIter x)) acc env) env
            k) (fun it acc env => by rfl) hc hN I hi ok hg ht ?_ hs h fun D C s' m H' I' q hn f => ⟨m, hn, fun h'' sb => ?_⟩
  · intro s0 H0 C cl fp D pins' σ' s' H' Nx I' q' k0 Qk E hk0
    have pi1 := hi1 s0 H0 C cl fp
    have pg1 := hg1 s0 H0 C cl fp
    have px := hx s0 H0 C cl fp
    generalize hce : compEnvC scope cl C X.env = ce at I' pi1 pg1 px hk0 ⊢
    refine wpAny_bind (thnF (pi1.run _ s' σ' H' _ I' q') fun xv s1 h1 => ?_)
    refine wpAny_bind (wpAny_standAt (wpAny_bind (wpAny_of_eq (hs1 ce xv) (wpAny_bind (wpAny_holding (thnF h1 fun itv s2 h2 => ?_))))))
    obtain ⟨it1, fp1, tn1, J1, H2, e1, I2, T1, st2, f2, W1, ⟨m1, w1⟩, turn1⟩ := h2
    subst e1
    have stat1 : ∀ {H' : Hp}, (∀ b ∈ fp1, H' b = none) → ∀ b ∈ fp1, FpOk (X.blk s0 H0 scope ce fp) pins' H' b := fun hn b hb => ⟨hn b hb, (f2 b hb).2⟩
    have loop1 : codeAny (model X.prog X.w) X.A (.compLoop (.SetComp elt [⟨tg, iter, ifs, 0⟩, ⟨tg1, iter1, [], 0⟩] scope pos) 1 (.ref it1) (.ref D) ce)
        (fun r s2 => match r with
          | .ok _ => ∃ σ2 H2, Inv (X.blk s0 H0 scope ce fp) pins' σ2 H2 s2 ∧ Wk (own.map (·.2)) σ' σ2 ∧ Nx H2
          | .error _ => False) s2 := by
      refine clause_loop (tg := tg1) (iter := iter1) (ifs := []) (act := fun k => (do let v ← eval elt ce; standAt elt.pos; let _ ← call (.builtin "set.add") [.ref D, v]) >>= fun _ => k) (by rfl) (fun k s2 => ∃ j H2, Inv (X.blk s0 H0 scope ce fp) pins' (wipe σ' vs1) H2 s2 ∧ tn1 j s2.heap ∧ (∀ b ∈ fp1, H2 b = none) ∧ W1 j k H2) ?_ m1 ⟨0, H2, I2.weak (wipe_length _ _) (fun j v e => (wipe_some e).1), st2, fun b hb => (f2 b hb).1, w1⟩
      rintro k s3 ⟨j, H3, I3, st3, n3, w3⟩
      rcases turn1 j k H3 w3 with ⟨stop1, nx1⟩ | ⟨go1, Nx1, hNx1, step1⟩
      · refine thnF (T1.done (X.blk s0 H0 scope ce fp) rfl rfl rfl hc j _ s3 (wipe σ' vs1) H3 (fun _ _ => False) I3 (stat1 n3) st3 stop1) fun r s4 ⟨er, I4⟩ => ?_
        subst er
        refine ⟨_, _, I4, ⟨(wipe_length σ' vs1).symm, fun j v e => ?_⟩, nx1⟩
        obtain ⟨e1, e2⟩ := wipe_some e
        rw [wipe_out fun z => e2 (hv j z)]
        exact e1
      · refine thnF (T1.item (X.blk s0 H0 scope ce fp) rfl rfl rfl hc j _ s3 (wipe σ' vs1) H3 (fun _ _ => False) I3 (stat1 n3) st3 go1) fun r s4 ⟨u1, er, h4⟩ => ?_
        subst er
        refine thnF h4 fun _ s5 ⟨x1, H5, I5, r5, y5, st5, n5⟩ => ?_
        have I5' := I5.pinned (stat1 n5) (T1.obj _ _ st5)
        refine thnF (pg1.run _ s5 (wipe σ' vs1) H5 x1 u1 _ I5' r5 (step1 x1 H5 y5)) fun _ s6 ⟨σ6, H6, I6, hw6, q6⟩ => ?_
        refine wpAny_tests_nil ?_
        simp only [if_true]
        intro k1 Qk1 hk1
        refine wpAny_bind (wpAny_bind (thnF (px.run _ s6 σ6 H6 _ I6 q6) fun z s7 ⟨y, H7, I7, r7, kk, l, ey, hD, room, nx⟩ => ?_))
        subst ey
        refine wpAny_bind (wpAny_standAt (wpAny_bind (add_one (X := X.blk s0 H0 scope ce fp) I7 hD room r7 fun s8 I8 => wpAny_pure (hk1 s8 ?_))))
        obtain ⟨m', hm, w'⟩ := hNx1 _ nx
        have pin' : ∀ b ∈ fp1, ∀ o, s5.heap.get? b = some o → s8.heap.get? b = some o ∧ (upd H7 D (TxO X.prog X.w D (addT l kk))) b = none := fun b hb o e =>
          let z := I8.pin (b, o) (List.mem_append_right _ (List.mem_append_right _ (mem_pinsAt hb e)))
          ⟨z.1, z.2.1⟩
        refine ⟨m', hm, j + 1, _, I8.unpinned.weak (by rw [← hw6, wipe_length]) (fun j v e => by rw [← hw6] at e; exact (wipe_some e).1), T1.keep _ _ _ st5 fun b hb o e => (pin' b hb o e).1, fun b hb => ?_, w'⟩
        obtain ⟨o, e, _⟩ := T1.obj _ _ st5 b hb
        exact (pin' b hb o e).2
    have start1 := second_start loop1 (T1.self X.A 0 _ _ _ st2 loop1)
    refine wpAny_bind (wpAny_runOwn ?_)
    rw [Around.mark_none]
    refine codeAny_mono start1 fun r s3 hr => ?_
    cases r with
    | ok f =>
      obtain ⟨σ2, H9, I9, wk, nx⟩ := hr
      first
        | exact hk0 s3 σ2 H9 I9 wk nx
        | exact wpAny_pure (hk0 s3 σ2 H9 I9 wk nx)
        | exact wpAny_bind (wpAny_pure (hk0 s3 σ2 H9 I9 wk nx))
    | error e => exact hr.elim
  · obtain ⟨f0, f1, f2, f3, f4, f5⟩ := f
    exact ⟨.ref D, H', I'.turned (t' := s'.toks) (fun b o hb e => (sb.2 b hb).trans e) f0 f1 f3 f4 f5, rfl, q⟩
/-- over any walk -/
theorem sg_it {P : Program} {w : World} {J : It} {n : Nat} {G : Hp → Prop} {Y : Nat → Hp → V → Hp → Prop} (wk : Walk J n G Y) {g : TG} {tt : TT} {tr : TR} {vs : List Nat} {σ : L2.St} {H1 : Hp} {D : Addr} {Qd : Hp → Prop} (Pv : Nat → Hp → Prop) (h0 : Pv 0 (upd H1 D (TxO P w D []))) (hG : ∀ i H, i ≤ n → Pv i H → G H)
    (hs : ∀ i x H H', i < n → Pv i H → Y i H x H' → g x (wipe σ vs) H' fun σ2 H2 => wipe σ2 vs = wipe σ vs ∧ tt σ2 H2 fun b H3 => if b = true then tr D σ2 H3 (Pv (i + 1)) else Pv (i + 1) H3) (hd : ∀ H, Pv n H → Qd H) :
    ∃ W : Nat → Nat → Hp → Prop, (∃ m, W 0 m (upd H1 D (TxO P w D []))) ∧ ∀ i m H, W i m H →
      (J.stop i H ∧ Qd H) ∨ (J.go i H ∧ ∃ Nx : Hp → Prop, (∀ H', Nx H' → ∃ m', m' < m ∧ W (i + 1) m' H') ∧ ∀ x H', J.yld i H x H' → g x (wipe σ vs) H' fun σ2 H2 => wipe σ2 vs = wipe σ vs ∧ tt σ2 H2 fun b H3 =>
        if b = true then tr D σ2 H3 Nx else Nx H3) := by
  refine ⟨fun i m H => i + m = n ∧ Pv i H, ⟨n, Nat.zero_add n, h0⟩, fun i m H ⟨e, p⟩ => ?_⟩
  have q := hG i H (by omega) p
  rcases Nat.lt_or_ge i n with hi | hi
  · exact .inr ⟨wk.goes i H hi q, Pv (i + 1), fun H' p' => ⟨m - 1, by omega, by omega, p'⟩, fun x H' y => hs i x H H' hi p (wk.yields i H x H' hi q y)⟩
  · obtain rfl : i = n := by omega
    exact .inl ⟨wk.stops H q, hd H p⟩
/-- the second source, over any walk -/
theorem two_it {J : It} {n : Nat} {G : Hp → Prop} {Y : Nat → Hp → V → Hp → Prop} (wk : Walk J n G Y) {g1 : TG} {body : L2.St → Hp → (Hp → Prop) → Prop} {vs1 : List Nat} {σ2 : L2.St} {H4 : Hp} {Nx : Hp → Prop} (Pv : Nat → Hp → Prop) (h0 : Pv 0 H4) (hG : ∀ i H, i ≤ n → Pv i H → G H)
    (hs : ∀ i x H H', i < n → Pv i H → Y i H x H' → g1 x (wipe σ2 vs1) H' fun σ3 H5 => wipe σ3 vs1 = wipe σ2 vs1 ∧ body σ3 H5 (Pv (i + 1))) (hd : ∀ H, Pv n H → Nx H) :
    ∃ W1 : Nat → Nat → Hp → Prop, (∃ m, W1 0 m H4) ∧ ∀ j k H, W1 j k H →
      (J.stop j H ∧ Nx H) ∨ (J.go j H ∧ ∃ Nx1 : Hp → Prop, (∀ H', Nx1 H' → ∃ k', k' < k ∧ W1 (j + 1) k' H') ∧ ∀ x H', J.yld j H x H' → g1 x (wipe σ2 vs1) H' fun σ3 H5 => wipe σ3 vs1 = wipe σ2 vs1 ∧ body σ3 H5 Nx1) := by
  refine ⟨fun i m H => i + m = n ∧ Pv i H, ⟨n, Nat.zero_add n, h0⟩, fun i m H ⟨e, p⟩ => ?_⟩
  have q := hG i H (by omega) p
  rcases Nat.lt_or_ge i n with hi | hi
  · exact .inr ⟨wk.goes i H hi q, Pv (i + 1), fun H' p' => ⟨m - 1, by omega, by omega, p'⟩, fun x H' y => hs i x H H' hi p (wk.yields i H x H' hi q y)⟩
  · obtain rfl : i = n := by omega
    exact .inl ⟨wk.stops H q, hd H p⟩
end
end K37
end
section
set_option Elab.async false
set_option linter.all false
set_option maxRecDepth 100000
set_option maxHeartbeats 4000000
/-! K5c: groups, people. -/
namespace K37
open PySem PySem.Spec PyProof.Rows L2 StX ClX SX
open C8 (sl_txt rSlX pss_cut tCut)
def spIsList : Sp := fun vs H Q _ => ∃ l xs, vs = [.ref l] ∧ H l = some (.lst xs) ∧ ∀ H', Same H H' → Q (.bl true) H'
theorem ok_is_list {c : Ct} (T : TxP c) : Has c "is_list" 1 spIsList := by
  obtain ⟨f, fd, m, F⟩ := T.is_list
  refine Has.mk m F (ps := ["value"]) (okD F sc_is_list ?_ ?_) (fun _ _ _ _ _ _ us hl => match us, hl with | [_], _ => rfl)
  · rintro vs H Q E ⟨_, _, rfl, _⟩
    rfl
  · rintro cdv A outer s H vs Q E hr ⟨l, xs, rfl, e, K⟩
    refine ⟨_, pss_one (ps_ret (pe_callB call_isiT rfl T.isin boot_isinstance (pa_cons (pv 0) (pa_cons (pe_tup (pa_cons (pe_bltn (v := .ty "list") rfl T.list boot_list rfl) (pa_cons (pe_bltn (v := .ty "tuple") rfl T.tuple boot_tuple rfl) pa_nil))) pa_nil)))), ?_⟩
    refine ⟨_, rfl, smL (by simp), fun t nt => ?_⟩
    exact ⟨_, t, _, _, _, true, rfl, upd_same, .cons (.ty _) (.cons (.ty _) .nil), .base (.lst (upd_old e nt)), kitAny_cons (b := true) (kit_ty (by decide +kernel)) (fun z => nomatch z) (fun _ => rfl), K _ (same_upd nt)⟩
def staff : List Nat := [115, 116, 97, 102, 102]
def chess : List Nat := [99, 104, 101, 115, 115]
theorem grp_facts {gs : List Str} (h : GrpOk gs) : 1 ≤ gs.length ∧ gs.length ≤ 2 ∧ gs.Nodup ∧ ∀ g ∈ gs, ∃ n, g = S n ∧ okN n ∧ n ≠ root ∧ (n = staff ∨ n = chess) := by
  have h1 : okN staff := ⟨by decide, by decide, by decide⟩
  have h2 : okN chess := ⟨by decide, by decide, by decide⟩
  have f1 : Str.ofString "staff" = S staff := rfl
  have f2 : Str.ofString "chess" = S chess := rfl
  have hs : ∃ n, Str.ofString "staff" = S n ∧ okN n ∧ n ≠ root ∧ (n = staff ∨ n = chess) := ⟨staff, f1, h1, by decide, .inl rfl⟩
  have hc : ∃ n, Str.ofString "chess" = S n ∧ okN n ∧ n ≠ root ∧ (n = staff ∨ n = chess) := ⟨chess, f2, h2, by decide, .inr rfl⟩
  rcases h with rfl | rfl
  · refine ⟨Nat.le_refl _, by decide, by simp, fun g hg => ?_⟩
    rw [List.mem_singleton.mp hg]
    exact hs
  · refine ⟨by decide, Nat.le_refl _, by decide +kernel, fun g hg => ?_⟩
    rcases List.mem_cons.mp hg with rfl | hg
    · exact hc
    · rw [List.mem_singleton.mp hg]
      exact hs
def spAre : Sp := fun vs H Q _ => ∃ l gs, vs = [.ref l] ∧ H l = some (.lst (gs.map V.str)) ∧ GrpOk gs ∧ ∀ H', Same H H' → Q (.bl true) H'
abbrev N_are_groups : List Str := ["value", "name"]
theorem ok_are_groups {c : Ct} (T : TxP c) : Has c "are_groups" 3 spAre := by
  obtain ⟨f, fd, m, F⟩ := T.are_groups
  obtain ⟨fL, mL, kL, GL⟩ := ok_is_list T
  obtain ⟨fF, mF, kF, GF⟩ := ok_folk T
  obtain ⟨tG, eG⟩ := T.mostG
  refine Has.mk m F (ps := ["value"]) (okD F sc_are_groups ?_ ?_) (fun _ _ _ _ _ _ us hl => match us, hl with | [_], _ => rfl)
  · rintro vs H Q E ⟨_, _, rfl, _⟩
    rfl
  · rintro cdv A outer s H vs Q E hr ⟨l, gs, rfl, e, hg, K⟩
    obtain ⟨g1, g2, g3, g4⟩ := grp_facts hg
    refine ⟨_, pss_cons (ps_if (PW.pt (pw_or (pt_not (pt_val (pe_cR GL hr (by decide) kL rfl mL (pa_cons (pv 0) pa_nil)))) (pw_or (pt_not (pt_chain op_le op_le pe_int (pe_callB call_len_seq rfl T.len PySem.boot_len (pa_cons (pv 0) pa_nil)) (pe_glob (v := .int 6) rfl eG ⟨_, rfl⟩))) (pw_or1 (pt_not (pt_val (pe_callB (cr_all rfl) rfl T.all (by decide +kernel) (pa_cons (pe_lc (own := [("name", 1)]) (g := gName 1) (tt := tYes) rfl sc_are_groups.nd (pi_list (pv 0)) (blkOk_by (N := N_are_groups) (sc := defScope s_are_groups) (by decide +kernel)) (fun _ _ _ _ _ => pg_name (i := 1) sc_are_groups.nd rfl (Or.inl rfl)) (fun _ _ _ _ _ => pts_nil) (fun _ _ _ _ _ => pe_cR GF hr (by decide) kF rfl mF (pa_cons (pv 1) pa_nil))) pa_nil)))))))) pss_never pss_nil) (pss_one (ps_ret (pe_cmpR op_eq (pe_callB call_lenTx rfl T.len PySem.boot_len (pa_cons (pe_sg1 (own := [("name", 1)]) (g := gName 1) (tt := tYes) rfl sc_are_groups.nd (pi_list (pv 0)) (blkOk_by (N := N_are_groups) (sc := defScope s_are_groups) (by decide +kernel)) (fun _ _ _ _ _ => pg_name (i := 1) sc_are_groups.nd rfl (Or.inl rfl)) (fun _ _ _ _ _ => pts_nil) (fun _ _ _ _ _ => pv 1)) pa_nil)) (pe_callB call_len_seq rfl T.len PySem.boot_len (pa_cons (pv 0) pa_nil)) (nomark _)))), ?_⟩
    have hlen : (gs.map V.str).length = gs.length := List.length_map _
    refine ⟨_, rfl, l, _, rfl, e, fun H1 s1 => ⟨_, rfl, iteN rfl ?_⟩⟩
    refine ⟨_, rfl, l, _, rfl, .inl (SqL.of (s1 _ _ e)), 1, _, rfl, rfl, _, rfl, iteY (decide_eq_true (by rw [hlen]; omega)) ⟨_, 6, rfl, rfl, _, rfl, ?_⟩⟩
    refine iteN (by rw [decide_eq_true (by rw [hlen]; omega)]; rfl) ?_
    refine ⟨_, rfl, l, rfl, ⟨_, SqL.of (s1 _ _ e)⟩, fun D nD => ?_⟩
    refine lc_it (walk_list (xs := gs.map V.str)) (fun i H2 => Same H1 H2 ∧ H2 D = some (.lst (List.replicate i (.bl true)))) ⟨same_upd nD, upd_same⟩ (fun _ _ _ z => SqL.of (z.1 _ _ (s1 _ _ e))) ?_ ?_
    · rintro i x H2 H3 hi ⟨sm, eD⟩ ⟨rfl, ex⟩
      rw [List.getElem?_map] at ex
      obtain ⟨g, eg, rfl⟩ : ∃ g, gs[i]? = some g ∧ V.str g = x := Option.map_eq_some_iff.mp ex
      obtain ⟨n, rfl, hn, hr0, _⟩ := g4 g (List.mem_of_getElem? eg)
      refine ⟨rfl, _, rfl, n, rfl, hn, hr0, fun H4 s4 => ⟨_, s4 _ _ eD, smT (by rw [List.length_replicate]; omega), same_new (sm.trans s4) nD, ?_⟩⟩
      rw [upd_same, ← List.replicate_succ']
    · rintro H2 ⟨sm, eD⟩
      have s2 := s1.trans sm
      refine ⟨D, _, rfl, SqL.of (by rw [← rep_map]; exact eD), _, rfl, iteN (by rw [all_rep]; rfl) ?_⟩
      refine ⟨_, rfl, l, rfl, ⟨_, SqL.of (s2 _ _ e)⟩, fun D1 nD1 => ?_⟩
      refine sg_it (walk_list (xs := gs.map V.str)) (fun i H5 => Same H2 H5 ∧ ∃ ls, H5 D1 = some (TxO c.P c.w D1 ls) ∧ ls.length = i ∧ ∀ g, g ∈ ls ↔ g ∈ gs.take i) ⟨same_upd nD1, [], upd_same, rfl, by simp⟩ (fun _ _ _ z => SqL.of (z.1 _ _ (s2 _ _ e))) ?_ ?_
      · rintro i x H5 H6 hi ⟨sm5, ls, eD5, hl5, hm5⟩ ⟨rfl, ex⟩
        rw [List.getElem?_map] at ex
        obtain ⟨g, eg, rfl⟩ : ∃ g, gs[i]? = some g ∧ V.str g = x := Option.map_eq_some_iff.mp ex
        have hng : g ∉ ls := fun z => by
          have z := (hm5 g).mp z
          have es := split_at eg
          have nd := g3
          rw [es, List.nodup_append] at nd
          exact nd.2.2 g z g List.mem_cons_self rfl
        have hadd : addT ls g = g :: ls := if_neg hng
        refine ⟨rfl, _, rfl, g, ls, rfl, eD5, Nat.lt_trans (show ls.length + 1 < 100 by omega) (by decide), same_new sm5 nD1, _, upd_same, ?_, fun y => ?_⟩
        · rw [hadd, List.length_cons, hl5]
        · rw [hadd, List.mem_cons, hm5, List.take_add_one, eg]
          simp [or_comm]
      · rintro H5 ⟨sm5, ls, eD5, hl5, _⟩
        rw [hlen] at hl5
        refine ⟨D1, ls, rfl, eD5, by omega, _, rfl, l, _, rfl, .inl (SqL.of ((s2.trans sm5) _ _ e)), rfl, ?_⟩
        rw [hlen, hl5, decide_eq_true rfl]
        exact K _ (s2.trans sm5)
/-- what People is given -/
def MemAt (H : Hp) (d : Addr) (us : List (List Nat)) : Prop := ∃ kvs, H d = some (.dK kvs) ∧ kvs.map (·.1) = us.map (fun u => (Sum.inr (S u) : Key)) ∧ ∀ q ∈ kvs, ∃ l gs, q.2 = .ref l ∧ H l = some (.lst (gs.map V.str)) ∧ GrpOk gs
def spPInit (c : Ct) : Sp := fun vs H Q _ => ∃ a d dx us, vs = [.ref a, .ref d] ∧ H a = some (.ins c.cP dx []) ∧ MemAt H d us ∧ UsOk us ∧ 1 ≤ us.length ∧ ∀ H' us', SameX a H H' → PeAt c H' a us' → us'.Perm us → Q .non H'
theorem key_at {kvs : List (Key × V)} {us : List (List Nat)} {i : Nat} {k : Key} {v : V} (e : kvs.map (·.1) = us.map (fun u => (Sum.inr (S u) : Key))) (h : kvs[i]? = some (k, v)) : ∃ u, us[i]? = some u ∧ k = Sum.inr (S u) := by
  have z : (kvs.map (·.1))[i]? = some k := by rw [List.getElem?_map, h]; rfl
  rw [e, List.getElem?_map] at z
  obtain ⟨u, h1, h2⟩ := Option.map_eq_some_iff.mp z
  exact ⟨u, h1, h2.symm⟩
theorem keys_usV {kvs : List (Key × V)} {us : List (List Nat)} (e : kvs.map (·.1) = us.map (fun u => (Sum.inr (S u) : Key))) : kvs.map (fun kv => kV kv.1) = (us.map S).map V.str := by
  have : kvs.map (fun kv => kV kv.1) = (kvs.map (·.1)).map kV := by rw [List.map_map]; rfl
  rw [this, e, List.map_map, List.map_map]
  rfl
def gsetB (l : List Str) : Bool := decide (l = [] ∨ l = [S staff] ∨ l = [S chess] ∨ l = [S staff, S chess] ∨ l = [S chess, S staff])
theorem gset_add {l : List Str} {n : List Nat} (h : gsetB l = true) (hn : n = staff ∨ n = chess) : gsetB (addT l (S n)) = true := by
  rcases of_decide_eq_true h with rfl | rfl | rfl | rfl | rfl <;> rcases hn with rfl | rfl <;> decide +kernel
theorem gset_len {l : List Str} (h : gsetB l = true) : l.length ≤ 2 := by
  rcases of_decide_eq_true h with rfl | rfl | rfl | rfl | rfl <;> decide
abbrev N_P_init : List Str := ["self", "members", "user", "groups", "group"]
theorem mk_P {c : Ct} (T : TxP c) : HasMk c c.cP 4 (spPInit c) := by
  obtain ⟨f, fd, M, F⟩ := T.mkP
  obtain ⟨fA, mA, kA, GA⟩ := ok_are_groups T
  obtain ⟨fF, mF, kF, GF⟩ := ok_folk T
  obtain ⟨tG, eG⟩ := T.mostG
  obtain ⟨tU, eU⟩ := T.mostU
  have C := T.clP
  refine ⟨f, M, rawN (ps := ["self", "members"]) F (okD F sc_P_init ?_ ?_) (fun _ _ _ _ _ _ us hl => match us, hl with | [_, _], _ => rfl)⟩
  · rintro vs H Q E ⟨_, _, _, _, rfl, _⟩
    rfl
  · rintro cdv A outer s H vs Q E hr ⟨a, d, dx, us, rfl, eh, ⟨kvs, ed, hkeys, hval⟩, hus, h1, K⟩
    refine ⟨_, pss_cons (ps_if (PW.pt (pw_or (pt_not (pt_val (pe_callB call_isi rfl T.isin boot_isinstance (pa_cons (pv 1) (pa_cons (pe_bltn (v := .ty "dict") rfl T.dict boot_dict rfl) pa_nil))))) (pw_or1 (pt_not (pt_chain op_le op_le pe_int (pe_callB call_lenD rfl T.len PySem.boot_len (pa_cons (pv 1) pa_nil)) (pe_glob (v := .int 6) rfl eU ⟨_, rfl⟩)))))) pss_never pss_nil) (pss_cut (ps_if (pt_not (pt_val (pe_callB (cr_all rfl) rfl T.all (by decide +kernel) (pa_cons (pe_lock (pe_lc (own := [("user", 2)]) (g := gName 2) (tt := tYes) rfl sc_P_init.nd (pi_keys (pv 1)) (blkOk_by (N := N_P_init) (sc := defScope s_P_init) (by decide +kernel)) (fun _ _ _ _ _ => pg_name (i := 2) sc_P_init.nd rfl (Or.inl rfl)) (fun _ _ _ _ _ => pts_nil) (fun _ _ _ _ _ => pe_cR GF hr (by decide) kF rfl mF (pa_cons (pv 2) pa_nil)))) pa_nil)))) pss_never pss_nil) (pss_cut (ps_fld (pv 0) (pe_dnewK) rfl) (pss_cut (ps_for PassesOwn.never rfl (pi_list (pe_callB cr_sortedS rfl T.sorted (by decide +kernel) (pa_cons (pe_callTy (call_listD rfl) rfl T.list (by decide +kernel) (pa_cons (pv 1) pa_nil)) pa_nil))) (pg_name (i := 2) sc_P_init.nd rfl (Or.inl rfl)) (pss_cons (ps_if (pt_not (pt_val (pe_cR GA hr (by decide) kA rfl mA (pa_cons (pe_dget (hu_of hr) (pv 1) (pv 2) (fun _ _ => rfl)) pa_nil)))) pss_never pss_nil) (pss_one (ps_dput (hu_of hr) (pe_fld (pv 0) rfl) (pv 2) (pe_callTy (call_tuple_of) rfl T.tuple (by decide +kernel) (pa_cons (pe_dget (hu_of hr) (pv 1) (pv 2) (fun _ _ => rfl)) pa_nil)) rfl)))) (pss_cut (ps_fld (pv 0) (pe_callB (cr_sortedTx rfl) rfl T.sorted (by decide +kernel) (pa_cons (pe_lock (pe_sg2 (own := [("groups", 3), ("group", 4)]) (vs1 := [4]) (g := gName 3) (g1 := gName 4) (tt := tYes) (wi1 := iTup c.K (tVar 3)) rfl sc_P_init.nd (pi_values (pe_fld (pv 0) rfl)) (blkOk_by (N := N_P_init) (sc := defScope s_P_init) (by decide +kernel)) (by decide) (fun _ _ _ _ _ => pg_name (i := 3) sc_P_init.nd rfl (Or.inl rfl)) (fun _ _ _ _ _ => pts_nil) (fun _ _ _ _ _ => pi_tup (pv 3)) (fun _ _ _ _ _ => pg_name (i := 4) sc_P_init.nd rfl (Or.inl rfl)) (fun _ _ _ _ _ => pv 4))) pa_nil)) rfl) (pss_one (ps_if (pt_cmpR op_gt (pe_callB call_len_seq rfl T.len PySem.boot_len (pa_cons (pe_fld (pv 0) rfl) pa_nil)) (pe_glob (v := .int 6) rfl eG ⟨_, rfl⟩) (nomark _)) pss_never pss_nil)))))), ?_⟩
    have hlk : kvs.length = us.length := by
      have := congrArg List.length hkeys
      rwa [List.length_map, List.length_map] at this
    have hu6 := hus.1
    refine ⟨_, rfl, _, _, _, _, true, rfl, .ty _, .base (.dK ed), kit_ty (by decide +kernel), true, rfl, iteN rfl ?_⟩
    refine ⟨_, rfl, d, _, rfl, ed, 1, _, rfl, rfl, _, rfl, iteY (decide_eq_true (by omega)) ⟨_, 6, rfl, rfl, _, rfl, ?_⟩⟩
    refine iteN (by rw [decide_eq_true (by omega)]; rfl) ?_
    -- all are folk
    refine ⟨fun σ' H' => σ' = [some (.ref a), some (.ref d), none, none, none] ∧ Same H H', ?_, ?_⟩
    · refine ⟨d, _, ed, trivial, fun od => ?_⟩
      refine ⟨_, rfl, d, od, rfl, .inl ⟨_, upd_same, fun D0 nD => ?_⟩⟩
      refine lc_it (walk_keys (kvs := kvs)) (fun i H5 => Same (upd H d (.frz od (.dK kvs))) H5 ∧ H5 D0 = some (.lst (List.replicate i (.bl true)))) ⟨same_upd nD, upd_same⟩ (fun i H5 _ z => z.1 _ _ upd_same) ?_ ?_
      · rintro i x H5 H6 hi ⟨sm, eD⟩ ⟨rfl, k, y, exy, rfl⟩
        obtain ⟨u, eu, rfl⟩ := key_at hkeys exy
        obtain ⟨hu1, hu2⟩ := hus.2.2 u (List.mem_of_getElem? eu)
        refine ⟨rfl, _, rfl, u, rfl, hu1, hu2, fun H7 s7 => ⟨_, s7 _ _ eD, smT (by rw [List.length_replicate]; omega), same_new (sm.trans s7) nD, ?_⟩⟩
        rw [upd_same, ← List.replicate_succ']
      · rintro H5 ⟨sm, eD⟩
        have hDn : D0 ≠ d := fun z => by subst z; rw [upd_same] at nD; cases nD
        refine ⟨sm _ _ upd_same, D0, _, rfl, SqL.of (by rw [upd_ne hDn, ← rep_map]; exact eD), _, rfl, iteN (by rw [all_rep]; rfl) ⟨rfl, lock_same ed sm⟩⟩
    rintro _ H1 ⟨rfl, s1⟩
    -- own_members
    refine ⟨fun σ' H' => σ' = [some (.ref a), some (.ref d), none, none, none] ∧ ∃ m, SameX a H H' ∧ H m = none ∧ H' a = some (.ins c.cP dx [("own_members", .ref m)]) ∧ H' m = some (.dK []), ?_, ?_⟩
    · refine fun m nm => ⟨_, rfl, a, c.cP, dx, [], rfl, upd_old (s1 _ _ eh) nm, C.cl, C.nf _ (by decide), by simp, rfl, m, (s1.toX.new nm).put, s1.none nm, upd_same, ?_⟩
      rw [upd_ne (fun z => by rw [z, s1 _ _ eh] at nm; cases nm)]
      exact upd_same
    rintro _ H2 ⟨rfl, m, s2, nm, ea2, em2⟩
    have nma : m ≠ a := fun z => by rw [z, eh] at nm; cases nm
    have nda : d ≠ a := ne_of ed eh fun z => nomatch z
    have ed2 := s2 _ _ nda ed
    have old : ∀ {H' : Hp}, SameX a H H' → ∀ q ∈ kvs, ∃ l gs, q.2 = .ref l ∧ H' l = some (.lst (gs.map V.str)) ∧ GrpOk gs := fun {H'} sx q hq => by
      obtain ⟨l, gs, e1, e2, e3⟩ := hval q hq
      exact ⟨l, gs, e1, sx _ _ (ne_of e2 eh fun z => nomatch z) e2, e3⟩
    -- the users, one by one
    refine ⟨fun σ' H' => ∃ y kv2, ∃ qs : List (List Nat), σ' = [some (.ref a), some (.ref d), y, none, none] ∧ SameX a H H' ∧ H' a = some (.ins c.cP dx [("own_members", .ref m)]) ∧ H' m = some (.dK kv2) ∧ kv2.map (·.1) = qs.map (fun u => (Sum.inr (S u) : Key)) ∧ qs.Perm us ∧ ∀ x ∈ kv2, ∃ t gs, x.2 = .ref t ∧ H' t = some (.tup (gs.map V.str)) ∧ GrpOk gs, ?_, ?_⟩
    · refine ⟨_, rfl, d, kvs, rfl, .inl ed2, fun p np => ?_⟩
      have ep : (upd H2 p (.lst (kvs.map fun kv => kV kv.1))) p = some (.lst ((us.map S).map V.str)) := by rw [upd_same, keys_usV hkeys]
      refine ⟨p, us.map S, rfl, SqL.of ep, by rw [List.length_map]; omega, fun ys q pm _ nq => ?_⟩
      obtain ⟨qs, pq, rfl⟩ := perm_pull pm rfl
      have sp : SameX a H (upd (upd H2 p (.lst (kvs.map fun kv => kV kv.1))) q (.lst ((qs.map S).map V.str))) := (s2.new np).new nq
      have nd : qs.Nodup := pq.nodup_iff.mpr hus.2.1
      have hql : qs.length = us.length := pq.length_eq
      have eqq : (upd (upd H2 p (.lst (kvs.map fun kv => kV kv.1))) q (.lst ((qs.map S).map V.str))) q = some (.lst ((qs.map S).map V.str)) := upd_same
      refine ⟨q, rfl, ⟨_, SqL.of eqq⟩, for_it (walk_list (xs := (qs.map S).map V.str)) (fun i σ' H' => ∃ y kv2, σ' = [some (.ref a), some (.ref d), y, none, none] ∧ SameX a H H' ∧ H' a = some (.ins c.cP dx [("own_members", .ref m)]) ∧ H' m = some (.dK kv2) ∧ kv2.map (·.1) = (qs.take i).map (fun u => (Sum.inr (S u) : Key)) ∧ (∀ x ∈ kv2, ∃ t gs, x.2 = .ref t ∧ H' t = some (.tup (gs.map V.str)) ∧ GrpOk gs) ∧ H' q = some (.lst ((qs.map S).map V.str)))
        ⟨none, [], rfl, sp, upd_old (upd_old ea2 np) nq, upd_old (upd_old em2 np) nq, rfl, fun _ z => by simp at z, eqq⟩ (fun i σ' H' _ ⟨_, _, _, _, _, _, _, _, z⟩ => SqL.of z) ?_ ?_⟩
      · rintro i v σ' H3 H4 hi ⟨y, kv2, rfl, sx, ea3, em3, hk3, ht3, eq3⟩ ⟨rfl, ev⟩
        rw [List.map_map, List.getElem?_map] at ev
        obtain ⟨u, eu, rfl⟩ : ∃ u, qs[i]? = some u ∧ (V.str ∘ S) u = v := Option.map_eq_some_iff.mp ev
        have hu : u ∈ us := pq.mem_iff.mp (List.mem_of_getElem? eu)
        obtain ⟨w, hw, hmem⟩ := val_at (kvs := kvs) (k := Sum.inr (S u)) (by rw [hkeys]; exact List.mem_map.mpr ⟨u, hu, rfl⟩)
        obtain ⟨l, gs, ew, el, hg⟩ := old sx _ hmem
        have ew : w = .ref l := ew
        subst ew
        have ed3 := sx _ _ nda ed
        refine ⟨_, rfl, _, rfl, d, _, rfl, by rw [← hw]; exact DGet.k (k := Sum.inr (S u)) ed3, l, gs, rfl, el, hg, fun H5 s5 => ⟨_, rfl, iteN rfl ?_⟩⟩
        refine ⟨_, rfl, _, rfl, d, _, rfl, by rw [← hw]; exact DGet.k (k := Sum.inr (S u)) (s5 _ _ ed3), l, _, rfl, .inl ⟨SqL.of (s5 _ _ el), fun t nt => ?_⟩⟩
        have s6 : Same H4 (upd H5 t (.tup (gs.map V.str))) := s5.trans (same_upd nt)
        have hnu : u ∉ qs.take i := fun z => by
          have es := split_at eu
          rw [es, List.nodup_append] at nd
          exact nd.2.2 u z u List.mem_cons_self rfl
        have hnew : valV kv2 (Sum.inr (S u)) = none := val_not fun z => by
          rw [hk3] at z
          obtain ⟨u', h1, h2⟩ := List.mem_map.mp z
          exact hnu (S_inj (Sum.inr.inj h2) ▸ h1)
        have hkl : kv2.length = i := by
          have := congrArg List.length hk3
          rw [List.length_map, List.length_map, List.length_take] at this
          have := (List.getElem?_eq_some_iff.mp eu).1
          omega
        have hiq := (List.getElem?_eq_some_iff.mp eu).1
        have ntm : t ≠ m := fun z => by rw [z, s5 _ _ em3] at nt; cases nt
        refine ⟨_, rfl, a, c.cP, dx, _, _, rfl, s6 _ _ ea3, C.cl, C.nf _ (by decide), rfl, _, rfl, m, _, rfl, DPut.k (k := Sum.inr (S u)) (s6 _ _ em3) (smT (by omega)), ?_⟩
        rw [putK_new _ hnew]
        have z := sx.step s6
        refine ⟨_, _, rfl, fun b o hb e => ?_, ?_, upd_same, ?_, fun x hx => ?_, ?_⟩
        · rw [upd_ne (fun w => by rw [w, nm] at e; cases e)]
          exact z b o hb e
        · rw [upd_ne nma.symm]
          exact s6 _ _ ea3
        · rw [List.map_append, hk3, List.take_add_one, eu, List.map_append]
          rfl
        · rcases List.mem_append.mp hx with hx | hx
          · obtain ⟨t', gs', e1, e2, e3⟩ := ht3 x hx
            refine ⟨t', gs', e1, ?_, e3⟩
            rw [upd_ne (ne_of e2 em3 fun z => nomatch z)]
            exact s6 _ _ e2
          · rw [List.mem_singleton.mp hx]
            refine ⟨t, gs, rfl, ?_, hg⟩
            rw [upd_ne ntm]
            exact upd_same
        · rw [upd_ne (ne_of eq3 em3 fun z => nomatch z)]
          exact s6 _ _ eq3
      · rintro σ' H' ⟨y, kv2, rfl, sx, ea3, em3, hk3, ht3, _⟩
        rw [List.length_map, List.length_map, List.take_length] at hk3
        exact ⟨y, kv2, qs, rfl, sx, ea3, em3, hk3, pq, ht3⟩
    rintro _ H3 ⟨y, kv2, qs, rfl, s3, ea3, em3, hk3, pq, ht3⟩
    -- own_groups
    refine ⟨fun σ' H' => ∃ g ys, σ' = [some (.ref a), some (.ref d), y, none, none] ∧ SameX a H H' ∧ H' a = some (.ins c.cP dx [("own_members", .ref m), ("own_groups", .ref g)]) ∧ H' g = some (.lst ((ys : List Str).map V.str)) ∧ ys.length ≤ 2 ∧ H' m = some (.dK kv2) ∧ ∀ x ∈ kv2, ∃ t gs, x.2 = .ref t ∧ H' t = some (.tup (gs.map V.str)) ∧ GrpOk gs, ?_, ?_⟩
    · refine ⟨m, _, em3, trivial, fun od => ?_⟩
      refine ⟨_, rfl, a, c.cP, dx, _, _, rfl, (by rw [upd_ne nma.symm]; exact ea3), C.cl, C.nf _ (by decide), rfl, m, od, kv2, rfl, upd_same, fun D nD => ?_⟩
      have hDm : D ≠ m := fun z => by rw [z, upd_same] at nD; cases nD
      refine sg_it (walk_values (kvs := kv2)) (fun i H5 => Same (upd H3 m (.frz od (.dK kv2))) H5 ∧ ∃ ls, H5 D = some (TxO c.P c.w D ls) ∧ gsetB ls = true) ⟨same_upd nD, [], upd_same, by decide +kernel⟩ (fun i H5 _ z => z.1 _ _ upd_same) ?_ ?_
      · rintro i v H5 H6 hi ⟨sm, ls, eD, gl⟩ ⟨rfl, k, ex⟩
        obtain ⟨t, gs, et, ett, hg⟩ := ht3 (k, v) (List.mem_of_getElem? ex)
        have et : v = .ref t := et
        subst et
        have ntm : t ≠ m := ne_of ett em3 fun z => nomatch z
        have ett5 := sm _ _ (show (upd H3 m (.frz od (.dK kv2))) t = _ by rw [upd_ne ntm]; exact ett)
        refine ⟨rfl, _, rfl, t, rfl, ⟨_, SqT.of ett5⟩, ?_⟩
        refine two_it (walk_tup (xs := gs.map V.str)) (fun j H7 => Same (upd H3 m (.frz od (.dK kv2))) H7 ∧ ∃ ls, H7 D = some (TxO c.P c.w D ls) ∧ gsetB ls = true) ⟨sm, ls, eD, gl⟩ (fun j H7 _ z => SqT.of (z.1 _ _ (show (upd H3 m (.frz od (.dK kv2))) t = _ by rw [upd_ne ntm]; exact ett))) ?_ fun H7 z => z
        rintro j v H7 H8 hj ⟨sm7, l7, eD7, gl7⟩ ⟨rfl, ev⟩
        rw [List.getElem?_map] at ev
        obtain ⟨g, eg, rfl⟩ : ∃ g, gs[j]? = some g ∧ V.str g = v := Option.map_eq_some_iff.mp ev
        obtain ⟨n, rfl, _, _, hn⟩ := (grp_facts hg).2.2.2 g (List.mem_of_getElem? eg)
        refine ⟨rfl, _, rfl, S n, l7, rfl, eD7, Nat.lt_trans (show l7.length + 1 < 100 by have := gset_len gl7; omega) (by decide), same_new sm7 nD, _, upd_same, gset_add gl7 hn⟩
      · rintro H5 ⟨sm, ls, eD, gl⟩
        have hl2 := gset_len gl
        have sL : Same H3 (upd H5 m (.dK kv2)) := lock_same em3 sm
        refine ⟨sm _ _ upd_same, D, ls, rfl, (by rw [upd_ne hDm]; exact eD), by omega, fun ys p hy np => ?_⟩
        have s6 : Same H3 (upd (upd H5 m (.dK kv2)) p (.lst (ys.map V.str))) := sL.trans (same_upd np)
        have npa : p ≠ a := fun z => by rw [z, sL _ _ ea3] at np; cases np
        refine ⟨_, rfl, a, c.cP, dx, _, rfl, s6 _ _ ea3, C.cl, C.nf _ (by decide), by simp, p, ys, rfl, (s3.step s6).put, upd_same, ?_, by omega, ?_, fun x hx => ?_⟩
        · rw [upd_ne npa]
          exact upd_same
        · rw [upd_ne nma]
          exact s6 _ _ em3
        · obtain ⟨t, gs, e1, e2, e3⟩ := ht3 x hx
          refine ⟨t, gs, e1, ?_, e3⟩
          rw [upd_ne (ne_of e2 ea3 fun z => nomatch z)]
          exact s6 _ _ e2
    rintro _ H4 ⟨g, ys, rfl, s4, ea4, eg4, hy2, em4, ht4⟩
    refine ⟨_, rfl, a, c.cP, dx, _, _, rfl, ea4, C.cl, C.nf _ (by decide), rfl, g, _, rfl, .inl (SqL.of eg4), _, 6, rfl, rfl, _, rfl, iteN (decide_eq_false (by rw [List.length_map]; omega)) ?_⟩
    exact K _ qs s4 ⟨dx, m, g, kv2, ea4, em4, hk3, ht4⟩ pq
end K37
end
section
set_option Elab.async false
set_option linter.all false
set_option maxRecDepth 100000
set_option maxHeartbeats 4000000
/-! L8: the law. -/
namespace K37
open PySem PySem.Spec PyProof.Rows L2 StX ClX SX
open C8 (sl_txt rSlX pss_cut tCut)
def folkL : List (List Nat) := [[97, 98], [98], [97], [101, 118, 101], [122], [116, 111, 111, 114]]
theorem folk_ok : UsOk folkL := ⟨by decide, by decide, by
  intro u hu
  have : ∀ u ∈ folkL, (1 ≤ u.length ∧ u.length ≤ 8 ∧ ∀ x ∈ u, 97 ≤ x ∧ x ≤ 122) ∧ u ≠ root := by decide
  exact this u hu⟩
theorem folk_take (k : Nat) : UsOk (folkL.take k) := ⟨by
  rw [List.length_take]
  exact Nat.le_trans (Nat.min_le_right _ _) (by decide), folk_ok.2.1.sublist (List.take_sublist _ _), fun u hu => folk_ok.2.2 u (List.mem_of_mem_take hu)⟩
theorem usV_take (us : List (List Nat)) (k : Nat) : (usV us).take k = usV (us.take k) := by
  unfold usV
  rw [← List.map_take, ← List.map_take]
theorem grp_staff : GrpOk [Str.ofString "staff"] := .inl rfl
theorem grp_chess : GrpOk [Str.ofString "chess", Str.ofString "staff"] := .inr rfl
def spLaw (c : Ct) : Sp := fun vs H Q _ => ∃ (a : Addr) (ns : List Int), vs = [.ref a] ∧ SqL c.K H a (ns.map V.int) ∧ ns.length ≤ 63 ∧ (∀ b C dx l, H b ≠ some (.ins C dx l)) ∧ ∀ H', Q (.bl true) H'
abbrev N_law : List Str := ["_law_script", "_law_k", "_law_box_here", "_law_users", "_law_house", "_law_family", "_law_kept", "_law_turn_here", "_law_at", "_law_user"]
theorem sqL_same {K : PySem.W.Frag} {H H' : Hp} {a : Addr} {xs : List V} (h : SqL K H a xs) (s : Same H H') : SqL K H' a xs := h.elim (fun h => .inl (h.elim (fun h => .inl (s _ _ h)) fun ⟨o, h⟩ => .inr ⟨o, s _ _ h⟩)) fun h => .inr h
theorem ne_of_none_r {H : Hp} {a b : Addr} {o : HO} (e : H b = some o) (n : H a = none) : b ≠ a := fun z => by rw [z, n] at e; cases e
theorem lst_ne {H : Hp} {D : Addr} {i : Nat} {gs : List Str} (prs : List Addr) (hlp : prs.length = i) (e : some (HO.lst (prs.map V.ref)) = some (HO.lst (gs.map V.str))) (h : GrpOk gs) : False := by
  injection e with e
  injection e with e
  obtain ⟨h1, _⟩ := grp_facts h
  cases gs with
  | nil => exact absurd h1 (by decide)
  | cons g gs =>
    cases prs with
    | nil => cases e
    | cons p prs => injection e with e _; cases e
theorem hl12 {l1 l2 lx : Addr} {i : Int} (e : atI [V.ref l1, V.ref l2] i = some (.ref lx)) : lx = l1 ∨ lx = l2 := by
  have h : V.ref lx ∈ [V.ref l1, V.ref l2] := by
    unfold atI at e
    obtain ⟨j, _, h⟩ := Option.bind_eq_some_iff.mp e
    exact List.mem_of_getElem? h
  rcases List.mem_cons.mp h with h | h
  · exact .inl (V.ref.inj h)
  · exact .inr (V.ref.inj (List.mem_singleton.mp h))
theorem law_ok {c : Ct} (T : TxZ c) {f : Addr} {fd : FuncData} (F : FunD c.K "law" "law" (defArgs s_law) (defBody s_law) (defScope s_law) [] [] f fd) : FnOk c.P c.w c.K c.mg c.base CX0 15 f fd ["_law_script"] (spLaw c) := by
  obtain ⟨fC, mC, kC, GC⟩ := ok_cell T
  obtain ⟨fB, mB, kB, GB⟩ := ok_box T
  obtain ⟨fK, mK, kK, GK⟩ := ok_take T
  obtain ⟨fM, mM, kM, GM⟩ := ok_lmarks T
  obtain ⟨fU, mU, kU, GU⟩ := ok_turn T
  obtain ⟨fR, mR, kR, GR⟩ := ok_right T
  obtain ⟨fP, MP, GP⟩ := mk_P T.toTxP
  obtain ⟨fH, MH, GH⟩ := mk_H T.toTxH
  refine okD F sc_law ?_ ?_
  · rintro vs H Q E ⟨_, _, rfl, _⟩
    rfl
  · rintro cdv A outer s H vs Q E hr ⟨a, ns, rfl, hS, hns, hno, K⟩
    refine ⟨_, pss_cons (ps_for PassesOwn.never rfl (pi_range1 rfl T.range (pa_cons (pe_callB (call_max2 rfl) rfl T.max (by decide +kernel) (pa_cons (pe_int) (pa_cons (pe_callB (call_min2 rfl) rfl T.min (by decide +kernel) (pa_cons (pe_int) (pa_cons (pe_callB call_len_seq rfl T.len PySem.boot_len (pa_cons (pv 0) pa_nil)) pa_nil))) pa_nil))) pa_nil)) (pg_name (i := 1) sc_law.nd rfl (Or.inl rfl)) (pss_cut (ps_set (i := 2) sc_law.nd rfl (Or.inl rfl) (pe_cR GB hr (by decide) kB rfl mB (pa_cons (pe_cR GC hr (by decide) kC rfl mC (pa_cons (pv 0) (pa_cons (pv 1) pa_nil))) pa_nil))) (pss_cut (ps_set (i := 3) sc_law.nd rfl (Or.inl rfl) (pe_slice sl_list (pe_lst (pa_cons (pe_str) (pa_cons (pe_str) (pa_cons (pe_str) (pa_cons (pe_str) (pa_cons (pe_str) (pa_cons (pe_str) pa_nil))))))) po_none (po_some (pe_op op_add pe_int (pe_cR GK hr (by decide) kK rfl mK (pa_cons (pv 2) (pa_cons (pe_int) pa_nil))))))) (pss_cut (ps_set (i := 4) sc_law.nd rfl (Or.inl rfl) (pe_makeR MH GH (hr.mono (by decide)) rfl T.clH.mg pass0 (pa_cons (pe_makeR MP GP (hr.mono (by decide)) rfl T.clP.mg pass0 (pa_cons (pe_callTy (call_dictP rfl) rfl T.dict (by decide +kernel) (pa_cons (pe_lc (own := [("_law_at", 8), ("_law_user", 9)]) (g := gTup c.K 2 (gCons (gName 8) (gCons (gName 9) gNil))) (tt := tYes) rfl sc_law.nd (pi_enum rfl T.enumerate (pa_cons (pv 3) pa_nil)) (blkOk_by (N := N_law) (sc := defScope s_law) (by decide +kernel)) (fun _ _ _ _ _ => pg_tup rfl (pgs_cons (pg_name (i := 8) sc_law.nd rfl (Or.inl rfl)) (pgs_cons (pg_name (i := 9) sc_law.nd rfl (Or.inl rfl)) pgs_nil))) (fun _ _ _ _ _ => pts_nil) (fun _ _ _ _ _ => pe_tup (pa_cons (pv 9) (pa_cons (pe_ix (ix_listK c.K) (pe_lst (pa_cons (pe_lst (pa_cons (pe_str) pa_nil)) (pa_cons (pe_lst (pa_cons (pe_str) (pa_cons (pe_str) pa_nil))) pa_nil))) (pe_op op_mod (pv 8) pe_int) (fun _ _ => rfl)) pa_nil)))) pa_nil)) pa_nil)) pa_nil))) (pss_cut (ps_par (i := 5) (j := 6) rfl sc_law.nd rfl rfl (by decide) rfl rfl (pa_cons (pe_lst (pa_cons (pe_tup (pa_cons (pv 4) (pa_cons (pe_cR GM hr (by decide) kM rfl mM (pa_cons (pv 4) pa_nil)) pa_nil))) pa_nil)) (pa_cons (pe_lst pa_nil) pa_nil)) (by rfl)) (pss_one (ps_for PassesOwn.never rfl (pi_range1 rfl T.range (pa_cons (pe_op op_add pe_int (pe_cR GK hr (by decide) kK rfl mK (pa_cons (pv 2) (pa_cons (pe_int) pa_nil)))) pa_nil)) (pg_name (i := 7) sc_law.nd rfl (Or.inl rfl)) (pss_cons (ps_set (i := 5) sc_law.nd rfl (Or.inl rfl) (pe_cR GU hr (by decide) kU rfl mU (pa_cons (pv 2) (pa_cons (pv 5) (pa_cons (pv 6) (pa_cons (pv 3) pa_nil)))))) (pss_one (ps_if (pt_not (pt_val (pe_cR GR hr (by decide) kR rfl mR (pa_cons (pv 5) pa_nil)))) pss_never pss_nil)))))))))) (pss_one (ps_ret pe_bl)), ?_⟩
    have hz : ∀ n : Int, 0 ≤ n → n ≤ 63 → -(2 ^ 62) ≤ (if (if n < 4 then n else 4) > 2 then (if n < 4 then n else 4) else 2) ∧ (if (if n < 4 then n else 4) > 2 then (if n < 4 then n else 4) else 2) < 2 ^ 62 := fun n h0 h1 => by
      constructor <;> (split <;> (try split) <;> omega)
    obtain ⟨z1, z2⟩ := hz ((ns.map V.int).length : Nat) (by omega) (by rw [List.length_map]; omega)
    refine ⟨_, rfl, a, _, rfl, .inl hS, _, _, rfl, _, _, rfl, _, rfl, z1, z2, ?_⟩
    refine for_it walk_range (fun i σ' H' => ∃ y1 y2 y3 y4 y5 y6 y7 y8 y9, σ' = [some (.ref a), y1, y2, y3, y4, y5, y6, y7, y8, y9] ∧ Same H H') ⟨_, _, _, _, _, _, _, _, _, rfl, fun _ _ e => e⟩ (fun _ _ _ _ _ => trivial) ?_ ?_
    · rintro i v σ' H1 H2 hi ⟨y1, y2, y3, y4, y5, y6, y7, y8, y9, rfl, s1⟩ ⟨rfl, rfl⟩
      -- the box
      refine ⟨fun σ' H' => ∃ bx, σ' = [some (.ref a), some (.int (0 + (i : Nat))), some (.ref bx), y3, y4, y5, y6, y7, y8, y9] ∧ Same H H' ∧ H bx = none ∧ BoxAt H' bx 0, ?_, ?_⟩
      · refine ⟨_, rfl, _, rfl, a, ns, i, by show [V.ref a, V.int (0 + (i : Int))] = _; rw [Int.zero_add], sqL_same hS s1, fun x => ⟨x, rfl, fun H3 bx s3 nb B => ?_⟩⟩
        exact ⟨bx, rfl, s1.trans s3, s1.none nb, B⟩
      rintro _ H3 ⟨bx, rfl, s3, nbx, B3⟩
      -- the users
      refine ⟨fun σ' H' => ∃ ul k, σ' = [some (.ref a), some (.int (0 + (i : Nat))), some (.ref bx), some (.ref ul), y4, y5, y6, y7, y8, y9] ∧ Same H H' ∧ BoxAt H' bx 1 ∧ 2 ≤ k ∧ H' ul = some (.lst (usV (folkL.take k))), ?_, ?_⟩
      · refine ⟨smL (by simp), fun l nl => ?_⟩
        have s34 : Same H (upd H3 l (.lst (usV folkL))) := s3.trans (same_upd nl)
        refine ⟨_, rfl, bx, 5, 0, rfl, by decide, by decide, B3.same (same_upd nl), by decide, fun H4 d s4 B4 hd => ?_⟩
        have nlb : l ≠ bx := by
          obtain ⟨b1, b2, b3, eb, _⟩ := B3
          exact fun z => by rw [z, eb] at nl; cases nl
        have el4 : H4 l = some (.lst (usV folkL)) := s4 _ _ nlb upd_same
        refine ⟨_, _, rfl, rfl, _, rfl, l, _, rfl, SqL.of el4, fun p np => ⟨p, 2 + d, rfl, ?_, B4.same (same_upd np), by omega, ?_⟩⟩
        · intro b o e
          exact upd_old (s4 _ _ (ne_of_none_r e nbx) (s34 _ _ e)) np
        · rw [upd_same, show ((2 : Int) + (d : Nat)) = ((2 + d : Nat) : Int) by omega, cut_take, usV_take]
      rintro _ H4 ⟨ul, k, rfl, s4, B4, hk, eul⟩
      have hus := folk_take k
      have hul1 : 1 ≤ (folkL.take k).length := by
        rw [List.length_take]
        have : folkL.length = 6 := rfl
        omega
      -- the house
      refine ⟨fun σ' H' => ∃ h p j us st a0 a1, σ' = [some (.ref a), some (.int (0 + (i : Nat))), some (.ref bx), some (.ref ul), some (.ref h), y5, y6, y7, y8, y9] ∧ Same H4 H' ∧ HSt c H' h p j us st (L0 a0 a1) 2 1 ∧ us.Perm (folkL.take k), ?_, ?_⟩
      · refine ⟨_, rfl, ul, _, rfl, SqL.of eul, fun D nD => ?_⟩
        refine lc_it (walk_enum (xs := usV (folkL.take k))) (fun i H5 => Same H4 H5 ∧ ∃ prs, ∃ kv : List (Key × V), H5 D = some (.lst (prs.map V.ref)) ∧ prs.length = i ∧ Paired (fun t q => H5 t = some (.tup [kV q.1, q.2])) prs kv ∧ kv.map (·.1) = ((folkL.take k).take i).map (fun u => (Sum.inr (S u) : Key)) ∧ ∀ q ∈ kv, ∃ l gs, q.2 = .ref l ∧ H5 l = some (.lst (gs.map V.str)) ∧ GrpOk gs)
          ⟨same_upd nD, [], [], upd_same, rfl, .nil, rfl, fun _ z => by cases z⟩ (fun i H5 _ z => SqL.of (z.1 _ _ eul)) ?_ ?_
        · rintro i2 v H5 H6 hi2 ⟨sm, prs, kv, eD, hlp, hp, hk2, hv⟩ ⟨t, x, y, rfl, nt, rfl, ex, ey⟩
          cases ex
          have hl6 := hus.1
          obtain ⟨u, eu, rfl⟩ : ∃ u, (folkL.take k)[i2]? = some u ∧ y = .str (S u) := by
            have ey : (usV (folkL.take k))[i2]? = some y := ey
            unfold usV at ey
            rw [List.map_map, List.getElem?_map] at ey
            obtain ⟨u, h1, h2⟩ := Option.map_eq_some_iff.mp ey
            exact ⟨u, h1, h2.symm⟩
          have hil := (List.getElem?_eq_some_iff.mp eu).1
          refine ⟨t, _, rfl, SqT.of upd_same, rfl, _, _, rfl, _, _, rfl, rfl, rfl, ?_⟩
          have sT : Same H5 (upd H5 t (.tup [.int i2, .str (S u)])) := same_upd nt
          refine ⟨_, rfl, smL (by simp), fun l1 n1 => ⟨smL (by simp), fun l2 n2 => ⟨smL (by simp), fun l3 n3 => ?_⟩⟩⟩
          have s3' := ((sT.trans (same_upd (o := .lst [.str "staff"]) n1)).trans (same_upd (o := .lst [.str "chess", .str "staff"]) n2)).trans (same_upd (o := .lst [.ref l1, .ref l2]) n3)
          obtain ⟨lx, gs, ea, el, hg⟩ : ∃ lx gs, atI [V.ref l1, V.ref l2] ((i2 : Int) % 2) = some (.ref lx) ∧ (upd (upd (upd (upd H5 t (.tup [.int i2, .str (S u)])) l1 (.lst [.str "staff"])) l2 (.lst [.str "chess", .str "staff"])) l3 (.lst [.ref l1, .ref l2])) lx = some (.lst ((gs : List Str).map V.str)) ∧ GrpOk gs := by
            have e2 : ((i2 : Int) % 2) = ((i2 % 2 : Nat) : Int) := by omega
            rw [e2]
            rcases Nat.mod_two_eq_zero_or_one i2 with z | z
            · rw [z]
              exact ⟨l1, _, atI_nat (j := 0) rfl, upd_old (upd_old upd_same n2) n3, grp_staff⟩
            · rw [z]
              exact ⟨l2, _, atI_nat (j := 1) rfl, upd_old upd_same n3, grp_chess⟩
          refine ⟨_, rfl, _, _, rfl, rfl, (by show (0 : Int) < 2; decide), l3, _, _, _, rfl, rfl, SqL.of upd_same, ea, smL (by simp), fun tn ntn => ?_⟩
          have s4' := s3'.trans (same_upd (o := .tup [.str (S u), .ref lx]) ntn)
          have eD' := s4' _ _ eD
          have ntD : tn ≠ D := fun z => by rw [z, s3' _ _ eD] at ntn; cases ntn
          refine ⟨prs.map V.ref, eD', smT (by rw [List.length_map]; omega), same_new (sm.trans s4') nD, prs ++ [tn], kv ++ [((Sum.inr (S u) : Key), .ref lx)], by rw [upd_same]; simp, by simp [hlp], paired_snoc (paired_mono hp fun b q z => ?_) ?_, ?_, fun q hq => ?_⟩
          · rw [upd_ne (ne_of z eD fun w => nomatch w)]
            exact s4' _ _ z
          · rw [upd_ne ntD]
            exact upd_same
          · rw [List.map_append, hk2, List.take_add_one, eu, List.map_append]
            rfl
          · rcases List.mem_append.mp hq with hq | hq
            · obtain ⟨l, gs', e1, e2, e3⟩ := hv q hq
              refine ⟨l, gs', e1, ?_, e3⟩
              rw [upd_ne (fun z => by rw [z, eD] at e2; exact lst_ne (H := H5) (D := D) prs hlp e2 e3)]
              exact s4' _ _ e2
            · rw [List.mem_singleton.mp hq]
              refine ⟨lx, gs, rfl, ?_, hg⟩
              have nlx : lx ≠ D := by
                rcases hl12 ea with rfl | rfl
                · exact fun z => by rw [z, sT _ _ eD] at n1; cases n1
                · exact fun z => by rw [z, (sT.trans (same_upd n1)) _ _ eD] at n2; cases n2
              rw [upd_ne nlx]
              exact upd_old el ntn
        · rintro H5 ⟨sm, prs, kv, eD, hlp, hp, hk2, hv⟩
          have hlen : (usV (folkL.take k)).length = (folkL.take k).length := by simp [usV]
          rw [hlen, List.take_length] at hk2
          refine ⟨D, prs, kv, rfl, SqL.of eD, paired_mono hp fun b q z => SqT.of z, fun d nd => ?_⟩
          have em : mergeK [] kv = kv := by
            rw [mergeK_app kv [] ?_, List.nil_append]
            rw [List.map_nil, List.nil_append, hk2]
            exact nodup_map_on hus.2.1 fun x _ y _ e => S_inj (Sum.inr.inj e)
          rw [em]
          -- People
          refine fun p dp np ndp nep => ?_
          have sd : Same H5 (upd H5 d (.dK kv)) := same_upd nd
          have sN : Same (upd H5 d (.dK kv)) (upd (upd (upd H5 d (.dK kv)) dp (.own p)) p (.ins c.cP dp [])) := same_new (same_upd ndp) np
          refine ⟨p, d, dp, folkL.take k, rfl, upd_same, ⟨kv, sN _ _ upd_same, hk2, fun q hq => ?_⟩, hus, hul1, fun H6 us s6 hP pm => ⟨rfl, ?_⟩⟩
          · obtain ⟨l, gs, e1, e2, e3⟩ := hv q hq
            exact ⟨l, gs, e1, (sd.trans sN) _ _ e2, e3⟩
          have s56 : Same H5 H6 := sd.trans (s6.made np ndp)
          -- House
          refine fun h dh nh ndh neh => ?_
          have sN2 : Same H6 (upd (upd H6 dh (.own h)) h (.ins c.cH dh [])) := same_new (same_upd ndh) nh
          have hus' : UsOk us := ⟨by rw [pm.length_eq]; exact hus.1, pm.nodup_iff.mpr hus.2.1, fun u hu => hus.2.2 u (pm.mem_iff.mp hu)⟩
          refine ⟨h, p, us, dh, rfl, upd_same, hP.same sN2, hus', fun H7 j st a0 a1 s7 X => ⟨rfl, ?_⟩⟩
          exact ⟨h, p, j, us, st, a0, a1, rfl, sm.trans (s56.trans (s7.made nh ndh)), X, pm⟩
      rintro _ H5 ⟨h, p, j, us, st, a0, a1, rfl, s5, X5, pus⟩
      have B5 := B4.same s5
      have s05 := s4.trans s5
      -- the family, the kept ones
      refine ⟨fun σ' H' => ∃ fl kl fam, σ' = [some (.ref a), some (.int (0 + (i : Nat))), some (.ref bx), some (.ref ul), some (.ref h), some (.ref fl), some (.ref kl), y7, y8, y9] ∧ Same H H' ∧ H kl = none ∧ Tn c H' bx fl kl ul p us (folkL.take k) 1 1 0 fam [], ?_, ?_⟩
      · obtain ⟨dx, eh⟩ := X5.ho
        refine ⟨_, rfl, _, rfl, h, p, j, us, st, _, _, _, _, rfl, X5, rfl, fun H6 m6 s6 n6 M6 => ⟨smL (by simp), fun t nt => ⟨smL (by simp), fun fl nfl => ⟨smL (by simp), fun kl nkl => ?_⟩⟩⟩⟩
        have s7 : Same H6 (upd H6 t (.tup [.ref h, .ref m6])) := same_upd nt
        have s8 := s7.trans (same_upd (o := .lst [.ref t]) nfl)
        have s9 := s8.trans (same_upd (o := .lst []) nkl)
        have s59 := s6.trans s9
        have s09 := s05.trans s59
        refine ⟨_, _, rfl, fl, kl, [⟨h, j, st, m6, L0 a0 a1, 2⟩], rfl, s09, (s05.trans (s6.trans s8)).none nkl, ⟨⟨[t], upd_old upd_same nkl, .cons (upd_old (upd_old upd_same nfl) nkl) .nil⟩, fun x hx => ?_, Nat.le_refl _, by simp, by simp, ⟨[], upd_same, .nil⟩, (fun x hx => by cases hx), Nat.le_refl _, B5.same s59, s59 _ _ (s5 _ _ eul), hul1, hus.1, fun u hu => pus.mem_iff.mpr hu, ?_, ?_, ?_⟩⟩
        · rw [List.mem_singleton.mp hx]
          exact ⟨X5.same s59, M6.keep (.of s9)⟩
        · obtain ⟨b1, b2, b3, eb, _⟩ := B5
          exact (ne_of_none ((s6.trans s8) _ _ eb) nkl).symm
        · exact (ne_of_none ((s6.trans s8) _ _ (s5 _ _ eul)) nkl).symm
        · exact fun z => by rw [z, upd_same] at nkl; cases nkl
      rintro _ H6 ⟨fl, kl, fam, rfl, s6, nkl, Z⟩
      -- the turns
      refine ⟨_, rfl, bx, 25, 1, rfl, by decide, by decide, Z.xbx, by decide, fun H7 d s7 B7 hd => ?_⟩
      have Z7 := Z.draw s7 B7
      have s07 : Same H H7 := fun b o e => s7 _ _ (ne_of_none_r e nbx) (s6 _ _ e)
      refine ⟨_, _, rfl, rfl, _, rfl, by omega, by omega, ?_⟩
      refine for_it walk_range (fun i2 σ' H' => ∃ fl fam ks y7, σ' = [some (.ref a), some (.int (0 + (i : Nat))), some (.ref bx), some (.ref ul), some (.ref h), some (.ref fl), some (.ref kl), y7, y8, y9] ∧ Same H H' ∧ Tn c H' bx fl kl ul p us (folkL.take k) (1 + i2) (2 + 10 * i2) i2 fam ks) ⟨fl, fam, [], _, rfl, s07, Z7⟩ (fun _ _ _ _ _ => trivial) ?_ ?_
      · rintro i2 v σ' H8 H9 hi2 ⟨fl2, fam2, ks2, y7', rfl, s8, Z8⟩ ⟨rfl, rfl⟩
        have hi30 : i2 < 31 := by omega
        refine ⟨_, rfl, _, rfl, _, rfl, _, rfl, bx, fl2, kl, ul, p, us, _, _, _, _, fam2, ks2, rfl, Z8, by omega, by omega, by omega, fun H10 fl3 fam3 ks3 fr Z9 => ?_⟩
        have s10 : Same H H10 := fun b o e => fr b o (ne_of_none_r e nbx) (ne_of_none_r e nkl) (fun C dx l z => hno b C dx l (by rw [e, z])) (s8 _ _ e)
        refine ⟨_, rfl, fl3, p, us, _, fam3, rfl, Z9.xfl, Z9.xfa, fun H11 s11 => ⟨_, rfl, iteN rfl ?_⟩⟩
        refine ⟨fl3, fam3, ks3, _, rfl, s10.trans s11, ?_⟩
        have Z11 := Z9.draw (s11.toX) (Z9.xbx.same s11)
        rw [show 1 + (i2 + 1) = 1 + i2 + 1 by omega, show 2 + 10 * (i2 + 1) = 2 + 10 * i2 + 10 by omega]
        exact Z11
      · rintro σ' H8 ⟨fl2, fam2, ks2, y7', rfl, s8, _⟩
        exact ⟨_, _, _, _, _, _, _, _, _, rfl, s8⟩
    · rintro σ' H1 ⟨y1, y2, y3, y4, y5, y6, y7, y8, y9, rfl, s1⟩
      exact K _
end K37
end
section
set_option Elab.async false
set_option linter.all false
set_option maxRecDepth 100000
set_option maxHeartbeats 4000000
/-! H5b: the walk's facts from the looks. -/
noncomputable section
namespace K37H
open PySem PySem.Spec PyProof.Rows L2 ClX StX K37
theorem sm_ok {K : PySem.W.Frag} {C : Addr} {m : PySem.Str} (h : smB K C m = true) : StMet K C (.type "type") m (He.ma K C m) (recA K (He.ma K C m) "staticmethod") := by
  obtain ⟨h1, h⟩ := ba h
  obtain ⟨h2, h3⟩ := ba h
  exact ⟨found_ok h1, rec_ok h2, h3⟩
/-! ### from looks to facts -/
def ctOf (w : World) (K : PySem.W.Frag) (mg : PySem.Str → Option Value) (base : Heap) : Ct := ⟨PR, w, K, mg, base, He.ga K "Rights", He.ga K "AccessList", He.ga K "People", He.ga K "Judge", He.ga K "Node", He.ga K "House"⟩
section
variable {w : World} {mg : PySem.Str → Option Value} {h base : Heap} {K : PySem.W.Frag} {C : Addr} {x m name qual : PySem.Str} {st : Stmt} {dvs : List V} {kws : List (PySem.Str × V)} {fs : List PySem.Str}
theorem mkG (X : K.In h) (G : h.Ns mainGlobals mg) (g : (He.Fa.glo x).ok K = true) (F : ∃ fd, FunD K name name (defArgs st) (defBody st) (defScope st) [] [] (He.ga K x) fd) : DefG (ctOf w K mg base) x name st := F.elim fun fd z => ⟨_, fd, He.glo_ok X G g, z⟩
theorem mkC (X : K.In h) (G : h.Ns mainGlobals mg) (g : (He.Fa.glo x).ok K = true) (c : (He.Fa.cls x).ok K = true) (n : noB K x fs = true) (h4 : He.eqO (PySem.W.findIn K (.ref (He.ga K x)) "__class__") (some (some (.builtin "object.__class__"))) = true)
    (h5 : He.eqO (PySem.W.specialIn K (.builtin "object.__class__") "__get__") (some (some (.builtin "getset_descriptor.__get__"))) = true) (h6 : decide (PySem.W.takesIn K (.builtin "object.__class__") = some true) = true) (h7 : decide (PySem.W.mroIn K (He.ga K x) (.type "object") = some true) = true) : Cla (ctOf w K mg base) x (He.ga K x) fs :=
  ⟨He.glo_ok X G g, He.cls_ok c, fun f hf => He.noat_ok (List.all_eq_true.mp n f hf), He.eqO_ok h4, He.eqO_ok h5, of_decide_eq_true h6, of_decide_eq_true h7⟩
theorem mkM (g : (He.Fa.meth x m).ok K = true) (F : ∃ fd, FunD K m qual (defArgs st) (defBody st) (defScope st) [] [] (He.ma K (He.ga K x) m) fd) : MetD (ctOf w K mg base) (He.ga K x) m qual st := F.elim fun fd z => ⟨_, fd, He.meth_ok g, z⟩
theorem mkI (g : (He.Fa.mkr x).ok K = true) (F : ∃ fd, FunD K "__init__" qual (defArgs st) (defBody st) (defScope st) dvs kws (He.ma K (He.ga K x) "__init__") fd) : MkD (ctOf w K mg base) (He.ga K x) qual st dvs kws := F.elim fun fd z => ⟨_, fd, He.mkr_ok g, z⟩
theorem mkP (g : proB K C m = true) (F : ∃ fd, FunD K m qual (defArgs st) (defBody st) (defScope st) [] [] (recA K (He.ma K C m) "property") fd) : ProD (ctOf w K mg base) C m qual st := F.elim fun fd z => ⟨_, _, fd, pro_ok g, z⟩
theorem mkK (c : clsB K C = true) (g : cmB K C m = true) (F : ∃ fd, FunD K m qual (defArgs st) (defBody st) (defScope st) [] [] (recA K (He.ma K C m) "classmethod") fd) : CmD (ctOf w K mg base) C m qual st := F.elim fun fd z => ⟨_, _, _, fd, cls_ok c, cm_ok g, z⟩
theorem mkS (c : clsB K C = true) (g : smB K C m = true) (F : ∃ fd, FunD K m qual (defArgs st) (defBody st) (defScope st) [] [] (recA K (He.ma K C m) "staticmethod") fd) :
    ∃ mc p g fd, CRead K C mc ∧ StMet K C mc m p g ∧ FunD K m qual (defArgs st) (defBody st) (defScope st) [] [] g fd := F.elim fun fd z => ⟨_, _, _, fd, cls_ok c, sm_ok g, z⟩
theorem mkBits (X : K.In h) (G : h.Ns mainGlobals mg) (g : (He.Fa.glo "BITS").ok K = true) (T : ∃ es n, KDict K w (He.ga K "BITS") es n) (b : bitsB K = true) :
    ∃ d es n, mg "BITS" = some (.ref d) ∧ KDict K w d es n ∧ ∀ x, (x = 114 ∨ x = 119 ∨ x = 120) → ∃ t, PySem.W.nsIn K d ⟨#[x]⟩ = some (some (.int (bitC x) t)) := by
  obtain ⟨es, n, T⟩ := T
  refine ⟨_, es, n, He.glo_ok X G g, T, fun x hx => ?_⟩
  rcases hx with rfl | rfl | rfl
  · obtain ⟨u, h1, t, rfl⟩ := He.valsB_ok b (q := (⟨#[114]⟩, .int 4)) List.mem_cons_self
    exact ⟨t, h1⟩
  · obtain ⟨u, h1, t, rfl⟩ := He.valsB_ok b (q := (⟨#[119]⟩, .int 2)) (List.mem_cons_of_mem _ List.mem_cons_self)
    exact ⟨t, h1⟩
  · obtain ⟨u, h1, t, rfl⟩ := He.valsB_ok b (q := (⟨#[120]⟩, .int 1)) (List.mem_cons_of_mem _ (List.mem_cons_of_mem _ List.mem_cons_self))
    exact ⟨t, h1⟩
theorem mkPlain (X : K.In h) (G : h.Ns mainGlobals mg) (g : (He.Fa.glo "PLAIN").ok K = true) (T : ∃ es n, KDict K w (He.ga K "PLAIN") es n) (b : plainB K = true) :
    ∃ d es n, mg "PLAIN" = some (.ref d) ∧ KDict K w d es n ∧ ∀ f : Bool, ∃ t, PySem.W.nsIn K d (kT f) = some (some (.str (if f then Str.ofString "644" else Str.ofString "755") t)) := by
  obtain ⟨es, n, T⟩ := T
  refine ⟨_, es, n, He.glo_ok X G g, T, fun f => ?_⟩
  cases f with
  | true =>
    obtain ⟨u, h1, t, rfl⟩ := He.valsB_ok b (q := (kT true, .str "644")) List.mem_cons_self
    exact ⟨t, h1⟩
  | false =>
    obtain ⟨u, h1, t, rfl⟩ := He.valsB_ok b (q := (kT false, .str "755")) (List.mem_cons_of_mem _ List.mem_cons_self)
    exact ⟨t, h1⟩
theorem mkForms (X : K.In h) (G : h.Ns mainGlobals mg) (g : (He.Fa.glo "FORMS").ok K = true) (T : ∃ es n, KDict K w (He.ga K "FORMS") es n) (b : formsB K = true) (g1 : (He.Fa.glo "is_path").ok K = true) (g2 : (He.Fa.glo "is_digits").ok K = true) :
    ∃ d es n, mg "FORMS" = some (.ref d) ∧ KDict K w d es n ∧ ∀ f : Bool, ∃ t fp fg, PySem.W.nsIn K d (kT f) = some (some (.ref t)) ∧ (∀ H, SqT K H t [.ref fp, .ref fg]) ∧ mg "is_path" = some (.ref fp) ∧ mg "is_digits" = some (.ref fg) := by
  obtain ⟨es, n, T⟩ := T
  refine ⟨_, es, n, He.glo_ok X G g, T, fun f => ?_⟩
  have hb : formB K f = true := by
    obtain ⟨b1, b2⟩ := ba b
    cases f with
    | true => exact b1
    | false => exact b2
  unfold formB at hb
  split at hb
  · rename_i t e
    exact ⟨t, _, _, e, tupAt_ok hb, He.glo_ok X G g1, He.glo_ok X G g2⟩
  · cases hb
theorem mkDeeds (X : K.In h) (G : h.Ns mainGlobals mg) (g : (He.Fa.glo "DEEDS").ok K = true) (T : ∃ es n, KDict K w (He.ga K "DEEDS") es n) (b : deedsB K = true) (g1 : (He.Fa.glo "do_file").ok K = true) (g2 : (He.Fa.glo "do_folder").ok K = true) :
    ∃ d es n, mg "DEEDS" = some (.ref d) ∧ KDict K w d es n ∧ ∀ f : Bool, ∃ g, PySem.W.nsIn K d (kT f) = some (some (.ref g)) ∧ mg (if f then Str.ofString "do_file" else Str.ofString "do_folder") = some (.ref g) := by
  obtain ⟨es, n, T⟩ := T
  obtain ⟨b1, b2⟩ := ba b
  refine ⟨_, es, n, He.glo_ok X G g, T, fun f => ?_⟩
  cases f with
  | true => exact ⟨_, He.eqO_ok b1, He.glo_ok X G g1⟩
  | false => exact ⟨_, He.eqO_ok b2, He.glo_ok X G g2⟩
end

/-- the facts that the walk stands on -/
theorem txz {w : World} {mg : PySem.Str → Option Value} {h : Heap} {K : PySem.W.Frag} (X : K.In h) (G : h.Ns mainGlobals mg) (e : Says w K) (base : Heap) : TxZ (ctOf w K mg base) where
  isin := He.free_ok X G (x := "isinstance") (ck e 0)
  str := He.free_ok X G (x := "str") (ck e 1)
  int := He.free_ok X G (x := "int") (ck e 2)
  bool := He.free_ok X G (x := "bool") (ck e 3)
  list := He.free_ok X G (x := "list") (ck e 4)
  dict := He.free_ok X G (x := "dict") (ck e 5)
  tuple := He.free_ok X G (x := "tuple") (ck e 6)
  len := He.free_ok X G (x := "len") (ck e 7)
  all := He.free_ok X G (x := "all") (ck e 8)
  any := He.free_ok X G (x := "any") (ck e 9)
  sorted := He.free_ok X G (x := "sorted") (ck e 10)
  enumerate := He.free_ok X G (x := "enumerate") (ck e 11)
  range := He.free_ok X G (x := "range") (ck e 12)
  set := He.free_ok X G (x := "set") (ck e 13)
  max := He.free_ok X G (x := "max") (ck e 14)
  min := He.free_ok X G (x := "min") (ck e 15)
  zip := He.free_ok X G (x := "zip") (ck e 16)
  most := He.int_ok X G (x := "MOST_LETTERS") (i := 8) (ck e 17)
  lets := He.str_ok X G (x := "LETTERS_words") (z := "abcdefghijklmnopqrstuvwxyz") (ck e 18)
  grd := He.str_ok X G (x := "GROUND_words") (z := "/") (ck e 19)
  is_name := mkG X G (ck e 20) (fnAt e 0)
  is_path := mkG X G (ck e 21) (fnAt e 1)
  need_path := mkG X G (ck e 22) (fnAt e 2)
  parts_of := mkG X G (ck e 23) (fnAt e 3)
  path_by := mkG X G (ck e 24) (fnAt e 4)
  above := mkG X G (ck e 25) (fnAt e 5)
  is_below := mkG X G (ck e 26) (fnAt e 6)
  bits := mkBits X G (ck e 28) (tabAt e 0) (ck e 27)
  words := ⟨_, He.glo_ok X G (ck e 29), fun H => He.tupB_ok (vs := wds.map He.Dv.str) (ck e 30) H⟩
  digit_of := mkG X G (ck e 31) (fnAt e 7)
  clR := mkC X G (ck e 32) (ck e 33) (ck e 34) (ck e 35) (ck e 36) (ck e 37) (ck e 38)
  strR := of_decide_eq_true (ck e 39)
  mkR := mkI (ck e 40) (fnAt e 8)
  from_digit := mkK (ck e 41) (ck e 42) (fnAt e 9)
  of := mkK (ck e 43) (ck e 44) (fnAt e 10)
  digit := mkP (ck e 45) (fnAt e 11)
  subR := ((fnAt e 12)).elim fun fd z => ⟨_, fd, He.eqO_ok (ck e 46), (ck e 47), (ck e 48), z⟩
  digit_in := mkG X G (ck e 49) (fnAt e 13)
  is_rights := mkG X G (ck e 50) (fnAt e 14)
  as_rights := mkG X G (ck e 51) (fnAt e 15)
  is_digits := mkG X G (ck e 52) (fnAt e 16)
  need_digits := mkG X G (ck e 53) (fnAt e 17)
  rights_of_digits := mkG X G (ck e 54) (fnAt e 18)
  without_letters := mkG X G (ck e 55) (fnAt e 19)
  named_rights := mkG X G (ck e 56) (fnAt e 20)
  clA := mkC X G (ck e 57) (ck e 58) (ck e 59) (ck e 60) (ck e 61) (ck e 62) (ck e 63)
  mkA := mkI (ck e 64) (fnAt e 21)
  plain := mkK (ck e 65) (ck e 66) (fnAt e 22)
  everything := mkS (ck e 67) (ck e 68) (fnAt e 23)
  Aowner := mkP (ck e 69) (fnAt e 24)
  Agroup := mkP (ck e 70) (fnAt e 25)
  Aother := mkP (ck e 71) (fnAt e 26)
  Amask := mkP (ck e 72) (fnAt e 27)
  Ausers := mkM (ck e 73) (fnAt e 28)
  Agroups := mkM (ck e 74) (fnAt e 29)
  nob := He.str_ok X G (x := "NOBODY") (z := "root") (ck e 75)
  mostU := He.int_ok X G (x := "MOST_USERS") (i := 6) (ck e 76)
  mostG := He.int_ok X G (x := "MOST_GROUPS") (i := 6) (ck e 77)
  is_list := mkG X G (ck e 78) (fnAt e 30)
  is_folk := mkG X G (ck e 79) (fnAt e 31)
  are_groups := mkG X G (ck e 80) (fnAt e 32)
  clP := mkC X G (ck e 81) (ck e 82) (ck e 83) (ck e 84) (ck e 85) (ck e 86) (ck e 87)
  mkP := mkI (ck e 88) (fnAt e 33)
  Pcontains := ((fnAt e 34)).elim fun fd z => ⟨_, fd, He.eqO_ok (ck e 89), (ck e 90), z⟩
  Pusers := mkM (ck e 91) (fnAt e 35)
  Pneed_user := mkM (ck e 92) (fnAt e 36)
  Pgroups_of := mkM (ck e 93) (fnAt e 37)
  Pfirst_group := mkM (ck e 94) (fnAt e 38)
  clJ := mkC X G (ck e 95) (ck e 96) (ck e 97) (ck e 98) (ck e 99) (ck e 100) (ck e 101)
  mkJ := mkI (ck e 102) (fnAt e 39)
  Jcall := ((fnAt e 40)).elim fun fd z => ⟨_, fd, ⟨He.eqO_ok (ck e 103), (ck e 104), (ck e 105)⟩, z⟩
  Jneed_case := mkM (ck e 106) (fnAt e 41)
  Jentries_for := mkM (ck e 107) (fnAt e 42)
  Jdeciding := mkM (ck e 108) (fnAt e 43)
  clN := mkC X G (ck e 109) (ck e 110) (ck e 111) (ck e 112) (ck e 113) (ck e 114) (ck e 115)
  mkN := mkI (ck e 116) (fnAt e 44)
  Nkind := mkP (ck e 117) (fnAt e 45)
  Nowner := mkP (ck e 118) (fnAt e 46)
  Ngroup := mkP (ck e 119) (fnAt e 47)
  Naccess := mkP (ck e 120) (fnAt e 48)
  Npasses := mkP (ck e 121) (fnAt e 49)
  Ndefault := mkP (ck e 122) (fnAt e 50)
  Nnumber := mkP (ck e 123) (fnAt e 51)
  with_field := mkM (ck e 124) (fnAt e 52)
  new_node := ((fnAt e 53)).elim fun fd z => ⟨_, fd, He.glo_ok X G (ck e 125), z⟩
  groundT := ⟨_, He.glo_ok X G (ck e 126), fun H => He.tupB_ok (vs := [.str "/", .str "/tmp"]) (ck e 127) H⟩
  umask0 := He.str_ok X G (x := "FIRST_UMASK") (z := "022") (ck e 128)
  plainD := mkPlain X G (ck e 129) (tabAt e 1) (ck e 130)
  need_path_house := mkG X G (ck e 131) (fnAt e 54)
  joined := mkG X G (ck e 132) (fnAt e 55)
  clH := mkC X G (ck e 133) (ck e 134) (ck e 135) (ck e 136) (ck e 137) (ck e 138) (ck e 139)
  mkH := mkI (ck e 140) (fnAt e 56)
  Hpeople := mkP (ck e 141) (fnAt e 57)
  Hnodes := mkM (ck e 142) (fnAt e 58)
  Hcontains := ((fnAt e 59)).elim fun fd z => ⟨_, fd, He.eqO_ok (ck e 143), (ck e 144), z⟩
  Hgetitem := ((fnAt e 60)).elim fun fd z => ⟨_, fd, He.eqO_ok (ck e 145), (ck e 146), (ck e 147), z⟩
  Hneed_changeable := mkM (ck e 148) (fnAt e 61)
  Hneed_folder := mkM (ck e 149) (fnAt e 62)
  Hpaths := mkM (ck e 150) (fnAt e 63)
  Hput := mkM (ck e 151) (fnAt e 64)
  Hneed_place := mkM (ck e 152) (fnAt e 65)
  Hneed_folk := mkM (ck e 153) (fnAt e 66)
  Hadd := ((fnAt e 67)).elim fun fd z => ⟨_, fd, He.meth_ok (ck e 154), z⟩
  Hcut := mkM (ck e 155) (fnAt e 68)
  Hshift := mkM (ck e 156) (fnAt e 69)
  Humask_of := mkM (ck e 157) (fnAt e 70)
  Hrestore := mkM (ck e 158) (fnAt e 71)
  Hcopied := mkM (ck e 159) (fnAt e 72)
  Hgrants := mkM (ck e 160) (fnAt e 73)
  need_asked := mkG X G (ck e 161) (fnAt e 74)
  lacking := mkG X G (ck e 162) (fnAt e 75)
  is_deed := mkG X G (ck e 163) (fnAt e 76)
  need_way := mkG X G (ck e 164) (fnAt e 77)
  need_granted := mkG X G (ck e 165) (fnAt e 78)
  need_place := mkG X G (ck e 166) (fnAt e 79)
  make := mkG X G (ck e 167) (fnAt e 80)
  do_file := mkG X G (ck e 168) (fnAt e 81)
  do_folder := mkG X G (ck e 169) (fnAt e 82)
  need_house := mkG X G (ck e 170) (fnAt e 83)
  do_ := mkG X G (ck e 171) (fnAt e 84)
  forms := mkForms X G (ck e 172) (tabAt e 2) (ck e 173) (ck e 174) (ck e 175)
  deeds := mkDeeds X G (ck e 176) (tabAt e 3) (ck e 177) (ck e 178) (ck e 179)
  l_cell := mkG X G (ck e 180) (fnAt e 85)
  l_box := mkG X G (ck e 181) (fnAt e 86)
  l_take := mkG X G (ck e 182) (fnAt e 87)
  l_marks := mkG X G (ck e 183) (fnAt e 88)
  l_below := mkG X G (ck e 184) (fnAt e 89)
  l_put := mkG X G (ck e 185) (fnAt e 90)
  l_shifted := mkG X G (ck e 186) (fnAt e 91)
  l_cut := mkG X G (ck e 187) (fnAt e 92)
  l_turn := mkG X G (ck e 188) (fnAt e 93)
  l_family_right := mkG X G (ck e 189) (fnAt e 94)
  law := mkG X G (ck e 190) (fnAt e 95)
end K37H
end
end
section
set_option Elab.async false
set_option linter.all false
set_option maxRecDepth 100000
set_option maxHeartbeats 0
/-! H7: from the run to the law. -/
noncomputable section
namespace K37H
open PySem PySem.W PySem.Calls PyProof.Rows HandSHeadRun
/-- what holds of the state behind the top -/
structure Behind (w : World) (s : Shared) : Prop where
  looks : looksF PR (boot_heap w.params) s = true
  seen : openSeen qv names (importedModules PR.main.body) XtR true s = openGood qv names
  obs : hookK.obs s = hookK.val w
theorem boot_size (w : World) : (boot_heap w.params).objs.size = 11 := by kernel_rfl
theorem boot_ann (w : World) : bootAnn w = aN := by kernel_rfl
theorem boot_abs {w : World} {os : OsState} {s : SharedT} (h : boot0 w os = some s) : s.abs = ⟨boot_heap w.params, #[], boot_drawn, boot_toks, os⟩ := by
  unfold boot0 at h
  cases e : putAll (boot_heap w.params).objs.toList .nil 0 with
  | none =>
    rw [e] at h
    cases h
  | some r =>
    obtain ⟨t, n⟩ := r
    rw [e] at h
    have h1 : some (bootT w os (t, n)) = some s := h
    obtain rfl := Option.some.inj h1
    have eh := putAll_heap e
    show (⟨absHeap t n (boot_heap w.params).life, #[], boot_drawn, boot_toks, os⟩ : Shared) = _
    rw [eh]
/-- the top leaves what is looked for -/
theorem left_run {N : Nat} (hN : Nat.ble 600 N = true) (run : ∀ (w : World) (os : OsState), ∃ s : Shared, topRun treeTable PR w 11 aN N ⟨boot_heap w.params, #[], boot_drawn, boot_toks, os⟩ (topStub PR) = some s ∧ Behind w s) :
    LeftO PR qv names XtR hookK.obs hookK.val N true := fun w => by
  have e : opening PR = plainProg PR.main.scope.names := by kernel_rfl
  obtain ⟨⟨h, gs, d, k, os⟩, a, a'⟩ := Option.map_eq_some_iff.mp (boot_open e hN (fun s => by kernel_rfl) w)
  obtain ⟨rfl, rfl, rfl, rfl⟩ : h = boot_heap w.params ∧ gs = Array.mk [] ∧ d = boot_drawn ∧ k = boot_toks := by simpa using a'
  obtain ⟨s, r, b⟩ := run w os
  have t : topFrom treeTable PR w N ⟨boot_heap w.params, Array.mk [], boot_drawn, boot_toks, os⟩ = some s := by
    unfold topFrom
    dsimp only
    rw [boot_ns]
    show (topRun treeTable PR w (boot_heap w.params).objs.size (bootAnn w) N ⟨boot_heap w.params, #[], boot_drawn, boot_toks, os⟩ (topStub PR)).bind _ = _
    rw [boot_size, boot_ann, r]
    have l := b.looks
    unfold looksF at l
    show (match staticsOk (importedModules PR.main.body) (boot_heap w.params) s.heap && namesBound PR s.heap && gensDone s && laidKept (boot_heap w.params) s.heap with | true => some s | false => none) = _
    rw [l]
  unfold openEnds
  rw [a]
  show (topFrom treeTable PR w N _).map _ = _
  rw [t]
  exact congrArg some (Prod.ext b.seen b.obs)
open K37 L2 in
/-- the law's promise over any state behind the top -/
theorem law_facts {w : World} {mg : PySem.Str → Option Value} {h : Heap} {K : Frag} {f : Addr} (X : K.In h) (G : h.Ns mainGlobals mg) (e : Says w K) (hf : mg ("law" : PySem.Str) = some (.ref f)) :
    ∃ fd : FuncData, (∀ (s : Shared) (v : Value), BindsTo s fd ⟨[v], []⟩ [("_law_script", v)]) ∧ ∀ base : Heap, FnOk PR w K mg base CX0 15 f fd ["_law_script"] (spLaw (ctOf w K mg base)) := by
  obtain ⟨f2, fd, m, F⟩ := (txz X G e h).law
  have m2 : mg ("law" : PySem.Str) = some (.ref f2) := m
  have e2 : f = f2 := by
    rw [hf] at m2
    exact Value.ref.inj (Option.some.inj m2)
  subst e2
  have b := FunD.bindsA (ps := ["_law_script"]) F fun _ _ _ _ _ _ us hl => match us, hl with | [_], _ => rfl
  exact ⟨fd, fun s v => b s [v] rfl, fun base => law_ok (txz X G e base) F⟩
end K37H
end
end
section
set_option Elab.async false
set_option linter.all false
set_option maxRecDepth 100000
set_option maxHeartbeats 0
/-! H8: the law from a run. -/
noncomputable section
namespace K37H
open PySem PySem.W PySem.Calls PyProof.Rows HandSHeadRun K37 L2
theorem law_holds (said : RR.wellSaid = true) {N : Nat} (hN : Nat.ble 600 N = true) (run : ∀ (w : World) (os : OsState), ∃ s : Shared, topRun treeTable PR w 11 aN N ⟨boot_heap w.params, #[], boot_drawn, boot_toks, os⟩ (topStub PR) = some s ∧ Behind w s) : RR.Holds := by
  have left := left_run hN run
  refine holds_open (r := RR) (q := qv) (loose := names) (Xt := XtR) (XP := XL qv []) (YP := hookK.says) (d := topDef PR 124) (kwd := []) left hookK.of hookK.keeps (fun s z => xl_of s (Bool.and_eq_true_iff.mp z).1) XL.keeps (by kernel_rfl) (by kernel_rfl) (by kernel_rfl) (fun s z => recFacts_of (Bool.and_eq_true_iff.mp z).2) (by rfl) said (by decide +kernel) ⟨by kernel_rfl, by kernel_rfl, by kernel_rfl, by kernel_rfl, by kernel_rfl, by decide +kernel⟩ ?hw ?hc
  case hw => w_witness2
  case hc =>
    refine L2.walk_ofE (l := PySem.Challenge.rw_filerights_k37_whole_numbers_of_copies) (n := 63) (k := 15) (x := "_law_script") (CX := L2.CX0) rfl (by decide) (by kernel_rfl) ⟨rfl, by decide, by decide⟩ ?F (fun _ _ _ _ z => z)
    intro w mg fa h Y G hmg0
    obtain ⟨K, KX, c⟩ := Y
    have hmg : mg ("law" : PySem.Str) = some (.ref fa) := by
      have e : (HandSHeadRun.topDef PR 124).name = ("law" : PySem.Str) := by kernel_rfl
      rw [← e]
      exact hmg0
    obtain ⟨fd, hb, hF⟩ := law_facts KX G c hmg
    refine ⟨K, fd, spLaw (ctOf w K mg h), KX, hb, fun H a ns hl hO hS => ⟨a, ns, rfl, hS, hl, fun b C dx l e => ?_, fun _ => rfl⟩, fun base _ _ => hF base⟩
    rcases hO b with z | ⟨o, xs, z⟩
    · rw [z] at e
      cases e
    · rw [z] at e
      cases e
end K37H
end
end
section
set_option Elab.async false
set_option linter.all false
set_option maxRecDepth 100000
set_option maxHeartbeats 0
/-! H9: the pieces of the run, joined; the law. -/
noncomputable section
namespace K37H
open PySem PySem.W PySem.Calls PyProof.Rows HandSHeadRun
structure Ends (w : World) (s : SharedT) : Prop where
  a : looksF PR (boot_heap w.params) s.abs = true
  b : seenQ qv names (importedModules PR.main.body) XtR s.abs = openGood qv names
  c : lkC s = true
  e : lkE s = true
  d : ((obF s).2.1, (obF s).2.2) = (fns.map DefE.val, tabs.map fun t => some (He.keysIn w.params t.2))
theorem map_at {α β : Type} {o : Option α} {s : α} {f : α → β} {v : β} (e : o = some s) (h : o.map f = some v) : f s = v := by
  rw [e] at h
  exact Option.some.inj h
theorem ends_of {w : World} {os : OsState} (ha : (runR w os).map (lkA w) = some true) (hb : (runR w os).map (fun s => seenQ qv names (importedModules PR.main.body) XtR s.abs) = some (openGood qv names)) (hc : (runR w os).map lkC = some true) (he : (runR w os).map lkE = some true)
    (hd : (runR w os).map (fun s => ((obF s).2.1, (obF s).2.2)) = some (fns.map DefE.val, tabs.map fun t => some (He.keysIn w.params t.2))) : ∃ s, runR w os = some s ∧ Ends w s := by
  obtain ⟨s, e, _⟩ := Option.map_eq_some_iff.mp ha
  have h1 := map_at e ha
  have h2 := map_at e hb
  have h3 := map_at e hc
  have h4 := map_at e hd
  have h5 := map_at e he
  exact ⟨s, e, ⟨h1, h2, h3, h5, h4⟩⟩
theorem ends_ok (w : World) : ∀ os : OsState, ∃ s, runR w os = some s ∧ Ends w s :=
  byRow2 "special-get-raises" (P := fun w => ∀ os : OsState, ∃ s, runR w os = some s ∧ Ends w s) (fun w os => ends_of (ra_f w os) (rb_f w os) (rc_f w os) (re_f w os) (rd_f w os)) (fun w os => ends_of (ra_t w os) (rb_t w os) (rc_t w os) (re_t w os) (rd_t w os)) w
theorem Ends.all {w : World} {s : SharedT} (h : Ends w s) : (obF s).1 = true := by
  have c := h.c
  have e := h.e
  unfold lkC at c
  unfold lkE at e
  rw [obGw_eq] at c e
  unfold obF
  rw [obG_eq]
  generalize He.frG (getT s) (asK (getT s)) = K at c e ⊢
  show ((chks K).all id && fns.all fun d => d.ok K) = true
  unfold ckA at c
  unfold ckB at e
  unfold chks
  simp only [Bool.and_eq_true] at c e
  obtain ⟨c0, c1, c2⟩ := c
  obtain ⟨e3, e4, e5⟩ := e
  simp only [List.all_append, c0, c1, c2, e3, e4, e5, Bool.and_self]
theorem Ends.behind {w : World} {s : SharedT} (h : Ends w s) : Behind w s.abs where
  looks := h.a
  seen := (seenQ_eq qv names (importedModules PR.main.body) XtR s.abs).trans h.b
  obs := by
    rw [← obF_eq s]
    obtain ⟨d1, d2⟩ := Prod.mk.inj h.d
    show obF s = valK w
    exact Prod.ext h.all (Prod.ext d1 d2)
theorem run_all (w : World) (os : OsState) : ∃ s : Shared, topRun treeTable PR w 11 aN (200 + (200 + (8000 + (20000 + 40000)))) ⟨boot_heap w.params, #[], boot_drawn, boot_toks, os⟩ (topStub PR) = some s ∧ Behind w s := by
  obtain ⟨s, e, E⟩ := ends_ok w os
  have e2 := seg_ok w os
  unfold runR at e
  unfold segR at e2
  rw [← stepQ_eq, ← denQ_eq, ← tabQ_eq] at e e2
  rw [← restQ_eq] at e
  rw [← piecesQ_eq] at e2
  have z := piece_app (rest := (bE.drop 31).drop 33) (sgF_seg e2) (goF_ok e)
  rw [List.take_append_drop] at z
  obtain ⟨s0, h0, r⟩ := to_cut w os z
  rw [boot_abs h0] at r
  exact ⟨s.abs, r, E.behind⟩
end K37H
open PySem PySem.W PySem.Calls PyProof.Rows
theorem PySem.Challenge.cw_filerights_k37_whole_numbers_of_copies_holds : PySem.Challenge.rw_filerights_k37_whole_numbers_of_copies.Holds := by
  w_on; o_law
  exact K37H.law_holds (by assumption) (by decide) K37H.run_all
end
end
