import PyProof.Rows.All
import Wide.All
import OpenK.AllK
import Wide.FinOn
import PyProof.ZipIter
import PyProof.Rows.SortRuns
import KE.BitLaws
import OpenK.KInv2
import KE.KBits
import KE.KLcFree
import KE.KLcTest
import KE.KLcPair
import KE.KPairComp
import PySem.Challenge.RW_sj0080_01
set_option Elab.async false
set_option linter.unusedVariables false
local macro_rules | `(tactic| omega) => `(tactic| first | lia | omega (splitNatSub := true))
namespace Mine
open PySem PySem.W PySem.Calls PyProof.Rows
set_option maxRecDepth 100000
set_option maxHeartbeats 0
noncomputable abbrev RW0 : RowW := PySem.Challenge.rw_sj0080_01.row.toRowW
noncomputable abbrev PR0 : Program := RW0.prog
noncomputable abbrev bd0 : List Stmt := behindTheImports PR0
noncomputable def st0 (i : Nat) : Stmt := bd0.getD i default
noncomputable def fnO (i : Nat) (c : Value) (ql : Str) (gl : Addr) (pm cd : Value) : Obj := match st0 i with
  | .FunctionDef nm ps body _ _ _ sc _ _ _ => ⟨c, none, .func ⟨nm, ql, ps, .stmts body, sc, gl, [], .none, .none, .none, pm, none, cd, .none, 0⟩, #[]⟩
  | _ => default
local macro_rules | `(tactic| walk_at "lit") => `(tactic| (refine' ⟨_, ?h⟩; (case h => (conv => (rhs; whnf)))))
noncomputable abbrev o43 : Params → Obj := fun P => ⟨(.type "tuple"), .none, (.seq #[] 0), #[]⟩
noncomputable abbrev o44 : Params → Obj := fun P => ⟨.none, .none, (.fields #[]), #[]⟩
noncomputable abbrev o45 : Params → Obj := fun P => ⟨(.type "code"), .none, (.fields #[(.str "<module>" 182), (.str "<module>" 183), (.str "/claim/cut.py" 184), (.int 1 0), (.int 0 0), (.int 0 0), (.int 0 0), (.int 0 0), (.ref 11), (.bool .false), (.int 181 0), (.ref 12), .none, .none, .none, .none, (.int 185 0), (.int 1 0), (.str "/claim/cut.py" 186)]), #[]⟩
noncomputable abbrev o46 : Params → Obj := fun P => ⟨(.type "frame"), .none, .plain, #[(.some (.ref 13)), (.some (.ref 3)), (.some (.ref 3)), .none, (.some (.str "__main__" 164)), .none, (.some (.ref 0))]⟩
noncomputable abbrev o49 : Params → Obj := fun P => ⟨.none, .none, (.dict #[⟨PyData.keyHash P "type.__subclasses__.Exception.0", (.str "type.__subclasses__.Exception.0" 205), (.int 24 0)⟩, ⟨PyData.keyHash P "type.__subclasses__.Exception.n", (.str "type.__subclasses__.Exception.n" 206), (.int 1 0)⟩] 2), #[]⟩
noncomputable abbrev o50 : Params → Obj := fun P => ⟨(.type "dict"), .none, (.dict #[⟨PyData.keyHash P "__name__", (.str "__name__" 165), (.str "gmp.limbs" 187)⟩, ⟨PyData.keyHash P "__doc__", (.str "__doc__" 166), .none⟩, ⟨PyData.keyHash P "__package__", (.str "__package__" 167), .none⟩, ⟨PyData.keyHash P "__loader__", (.str "__loader__" 168), (.builtin "__main__.__loader__#opaque")⟩, ⟨PyData.keyHash P "__spec__", (.str "__spec__" 169), .none⟩, ⟨PyData.keyHash P "__annotations__", (.str "__annotations__" 170), (.ref 6)⟩, ⟨PyData.keyHash P "__builtins__", (.str "__builtins__" 171), (.ref 4)⟩, ⟨PyData.keyHash P "__file__", (.str "__file__" 173), (.str "/claim/cut.py" 172)⟩, ⟨PyData.keyHash P "__cached__", (.str "__cached__" 174), .none⟩, ⟨PyData.keyHash P "GmpError", (.str "GmpError" 208), (.ref 24)⟩] 10), #[]⟩
noncomputable abbrev o51 : Params → Obj := fun P => ⟨.none, .none, (.fields #[(.int 2 0), (.int 0 0), (.ref 20)]), #[]⟩
noncomputable abbrev o52 : Params → Obj := fun P => ⟨(.type "tuple"), .none, (.seq #[(.type "Exception")] 0), #[]⟩
noncomputable abbrev o53 : Params → Obj := fun P => ⟨(.type "builtin_function_or_method"), .none, (.fields #[(.builtin "type.__prepare__"), (.type "type")]), #[]⟩
noncomputable abbrev o54 : Params → Obj := fun P => ⟨(.type "dict"), .none, (.dict #[⟨PyData.keyHash P "__module__", (.str "__module__" 196), (.str "gmp.limbs" 187)⟩, ⟨PyData.keyHash P "__qualname__", (.str "__qualname__" 198), (.str "GmpError" 197)⟩, ⟨PyData.keyHash P "__firstlineno__", (.str "__firstlineno__" 200), (.int 2 199)⟩, ⟨PyData.keyHash P "__static_attributes__", (.str "__static_attributes__" 201), (.ref 22)⟩] 4), #[]⟩
noncomputable abbrev o55 : Params → Obj := fun P => ⟨(.type "tuple"), .none, (.seq #[] 0), #[]⟩
noncomputable abbrev o56 : Params → Obj := fun P => ⟨.none, .none, (.fields #[]), #[]⟩
noncomputable abbrev o57 : Params → Obj := fun P => ⟨(.type "code"), .none, (.fields #[(.str "GmpError" 191), (.str "GmpError" 192), (.str "/claim/cut.py" 193), (.int 2 0), (.int 0 0), (.int 0 0), (.int 0 0), (.int 0 0), (.ref 18), (.bool .false), (.int 181 0), (.ref 19), .none, .none, .none, .none, (.int 194 0), (.int 2 0), (.str "/claim/cut.py" 195)]), #[]⟩
noncomputable abbrev o58 : Params → Obj := fun P => ⟨(.type "frame"), .none, .plain, #[(.some (.ref 20)), (.some (.ref 3)), (.some (.ref 17)), .none, (.some (.str "gmp.limbs" 187)), .none, (.some (.ref 0))]⟩
noncomputable abbrev o59 : Params → Obj := fun P => ⟨(.type "tuple"), .none, (.seq #[] 0), #[]⟩
noncomputable abbrev o60 : Params → Obj := fun P => ⟨(.type "dict"), .none, (.dict #[⟨PyData.keyHash P "__module__", (.str "__module__" 196), (.str "gmp.limbs" 187)⟩, ⟨PyData.keyHash P "__firstlineno__", (.str "__firstlineno__" 200), (.int 2 199)⟩, ⟨PyData.keyHash P "__static_attributes__", (.str "__static_attributes__" 201), (.ref 22)⟩, ⟨PyData.keyHash P "__weakref__", (.str "__weakref__" 203), (.ref 25)⟩, ⟨PyData.keyHash P "__doc__", (.str "__doc__" 204), .none⟩] 3), #[]⟩
noncomputable abbrev o61 : Params → Obj := fun P => ⟨(.type "type"), .none, (.cls ⟨"GmpError", [(.type "Exception")], [(.ref 24), (.type "Exception"), (.type "BaseException"), (.type "object")], 23, "GmpError", .true, [], [], .false, .none, .false⟩), #[(.some (.ref 15)), .none, (.some (.str "GmpError" 189)), (.some (.str "GmpError" 197)), (.some (.builtin "Exception.__new__")), (.some (.bool .true))]⟩
noncomputable abbrev o62 : Params → Obj := fun P => ⟨(.type "getset_descriptor"), .none, (.fields #[(.str "__weakref__" 202), (.ref 24), (.builtin "ExceptionGroup.__weakref__"), .none]), #[]⟩
noncomputable abbrev o63 : Params → Obj := fun P => ⟨(.type "super"), .none, (.fields #[(.ref 24), (.ref 24), (.ref 24)]), #[]⟩
noncomputable abbrev o64 : Params → Obj := fun P => ⟨(.type "builtin_function_or_method"), .none, (.fields #[(.builtin "object.__init_subclass__"), (.ref 24)]), #[]⟩
noncomputable abbrev o65 : Params → Obj := fun P => ⟨(.type "dict"), .none, (.dict #[⟨PyData.keyHash P "__name__", (.str "__name__" 165), (.str "gmp.limbs" 187)⟩, ⟨PyData.keyHash P "__doc__", (.str "__doc__" 166), .none⟩, ⟨PyData.keyHash P "__package__", (.str "__package__" 167), .none⟩, ⟨PyData.keyHash P "__loader__", (.str "__loader__" 168), (.builtin "__main__.__loader__#opaque")⟩, ⟨PyData.keyHash P "__spec__", (.str "__spec__" 169), .none⟩, ⟨PyData.keyHash P "__annotations__", (.str "__annotations__" 170), (.ref 6)⟩, ⟨PyData.keyHash P "__builtins__", (.str "__builtins__" 171), (.ref 4)⟩, ⟨PyData.keyHash P "__file__", (.str "__file__" 173), (.str "/claim/cut.py" 172)⟩, ⟨PyData.keyHash P "__cached__", (.str "__cached__" 174), .none⟩, ⟨PyData.keyHash P "GmpError", (.str "GmpError" 208), (.ref 24)⟩, ⟨PyData.keyHash P "OutOfRange", (.str "OutOfRange" 224), (.ref 37)⟩, ⟨PyData.keyHash P "normal", (.str "normal" 232), (.ref 46)⟩, ⟨PyData.keyHash P "compare", (.str "compare" 241), (.ref 53)⟩, ⟨PyData.keyHash P "add", (.str "add" 254), (.ref 60)⟩, ⟨PyData.keyHash P "sub", (.str "sub" 268), (.ref 67)⟩, ⟨PyData.keyHash P "add_limb", (.str "add_limb" 280), (.ref 74)⟩] 16), #[]⟩
noncomputable abbrev o66 : Params → Obj := fun P => ⟨.none, .none, (.fields #[(.int 2 0), (.int 0 0), (.ref 20), (.int 4 0), (.int 0 0), (.ref 33), (.int 6 0), (.int 0 0), (.ref 45), (.int 11 0), (.int 0 0), (.ref 52), (.int 18 0), (.int 0 0), (.ref 59), (.int 33 0), (.int 0 0), (.ref 66), (.int 42 0), (.int 0 0), (.ref 73)]), #[]⟩
noncomputable abbrev o67 : Params → Obj := fun P => ⟨(.type "type"), .none, (.cls ⟨"GmpError", [(.type "Exception")], [(.ref 24), (.type "Exception"), (.type "BaseException"), (.type "object")], 23, "GmpError", .true, [], [(.ref 37)], .false, .none, .false⟩), #[(.some (.ref 15)), .none, (.some (.str "GmpError" 189)), (.some (.str "GmpError" 197)), (.some (.builtin "Exception.__new__")), (.some (.bool .true))]⟩
noncomputable abbrev o68 : Params → Obj := fun P => ⟨(.type "tuple"), .none, (.seq #[(.ref 24)] 0), #[]⟩
noncomputable abbrev o69 : Params → Obj := fun P => ⟨(.type "builtin_function_or_method"), .none, (.fields #[(.builtin "type.__prepare__"), (.type "type")]), #[]⟩
noncomputable abbrev o70 : Params → Obj := fun P => ⟨(.type "dict"), .none, (.dict #[⟨PyData.keyHash P "__module__", (.str "__module__" 216), (.str "gmp.limbs" 187)⟩, ⟨PyData.keyHash P "__qualname__", (.str "__qualname__" 218), (.str "OutOfRange" 217)⟩, ⟨PyData.keyHash P "__firstlineno__", (.str "__firstlineno__" 220), (.int 4 219)⟩, ⟨PyData.keyHash P "__static_attributes__", (.str "__static_attributes__" 221), (.ref 35)⟩] 4), #[]⟩
noncomputable abbrev o71 : Params → Obj := fun P => ⟨(.type "tuple"), .none, (.seq #[] 0), #[]⟩
noncomputable abbrev o72 : Params → Obj := fun P => ⟨.none, .none, (.fields #[]), #[]⟩
noncomputable abbrev o73 : Params → Obj := fun P => ⟨(.type "code"), .none, (.fields #[(.str "OutOfRange" 211), (.str "OutOfRange" 212), (.str "/claim/cut.py" 213), (.int 4 0), (.int 0 0), (.int 0 0), (.int 0 0), (.int 0 0), (.ref 31), (.bool .false), (.int 181 0), (.ref 32), .none, .none, .none, .none, (.int 214 0), (.int 4 0), (.str "/claim/cut.py" 215)]), #[]⟩
noncomputable abbrev o74 : Params → Obj := fun P => ⟨(.type "frame"), .none, .plain, #[(.some (.ref 33)), (.some (.ref 3)), (.some (.ref 30)), .none, (.some (.str "gmp.limbs" 187)), .none, (.some (.ref 0))]⟩
noncomputable abbrev o75 : Params → Obj := fun P => ⟨(.type "tuple"), .none, (.seq #[] 0), #[]⟩
noncomputable abbrev o76 : Params → Obj := fun P => ⟨(.type "dict"), .none, (.dict #[⟨PyData.keyHash P "__module__", (.str "__module__" 216), (.str "gmp.limbs" 187)⟩, ⟨PyData.keyHash P "__firstlineno__", (.str "__firstlineno__" 220), (.int 4 219)⟩, ⟨PyData.keyHash P "__static_attributes__", (.str "__static_attributes__" 221), (.ref 35)⟩, ⟨PyData.keyHash P "__doc__", (.str "__doc__" 222), .none⟩] 2), #[]⟩
noncomputable abbrev o77 : Params → Obj := fun P => ⟨(.type "type"), .none, (.cls ⟨"OutOfRange", [(.ref 24)], [(.ref 37), (.ref 24), (.type "Exception"), (.type "BaseException"), (.type "object")], 36, "OutOfRange", .true, [], [], .false, .none, .false⟩), #[(.some (.ref 28)), .none, (.some (.str "OutOfRange" 209)), (.some (.str "OutOfRange" 217)), (.some (.builtin "Exception.__new__")), (.some (.bool .true))]⟩
noncomputable abbrev o78 : Params → Obj := fun P => ⟨(.type "super"), .none, (.fields #[(.ref 37), (.ref 37), (.ref 37)]), #[]⟩
noncomputable abbrev o79 : Params → Obj := fun P => ⟨(.type "builtin_function_or_method"), .none, (.fields #[(.builtin "object.__init_subclass__"), (.ref 37)]), #[]⟩
noncomputable abbrev o80 : Params → Obj := fun P => ⟨(.type "tuple"), .none, (.seq #[] 0), #[]⟩
noncomputable abbrev o81 : Params → Obj := fun P => ⟨.none, .none, (.fields #[]), #[]⟩
noncomputable abbrev o82 : Params → Obj := fun P => ⟨(.type "tuple"), .none, (.seq #[(.str "a" 228), (.str "end" 229)] 0), #[]⟩
noncomputable abbrev o83 : Params → Obj := fun P => ⟨(.type "tuple"), .none, (.seq #[] 0), #[]⟩
noncomputable abbrev o84s : { o : Obj // o = fnO 3 .none "normal" 0 .none .none } := by walk_at "lit"
noncomputable abbrev o84 : Params → Obj := fun _ => o84s.1
noncomputable abbrev o85 : Params → Obj := fun P => ⟨(.type "code"), .none, (.fields #[(.str "normal" 225), (.str "normal" 226), (.str "/claim/cut.py" 227), (.int 6 0), (.int 1 0), (.int 0 0), (.int 0 0), (.int 3 0), (.ref 40), (.bool .true), (.int 181 0), (.ref 41), .none, (.ref 42), (.ref 43), (.ref 44), (.int 230 0), (.int 6 0), (.str "/claim/cut.py" 231)]), #[]⟩
noncomputable abbrev o86s : { o : Obj // o = fnO 3 (.type "function") "normal" 3 (.str "gmp.limbs" 187) (.ref 45) } := by walk_at "lit"
noncomputable abbrev o86 : Params → Obj := fun _ => o86s.1
noncomputable abbrev o87 : Params → Obj := fun P => ⟨(.type "tuple"), .none, (.seq #[] 0), #[]⟩
noncomputable abbrev o88 : Params → Obj := fun P => ⟨.none, .none, (.fields #[]), #[]⟩
noncomputable abbrev o89 : Params → Obj := fun P => ⟨(.type "tuple"), .none, (.seq #[(.str "a" 236), (.str "b" 237), (.str "at" 238)] 0), #[]⟩
noncomputable abbrev o90 : Params → Obj := fun P => ⟨(.type "tuple"), .none, (.seq #[] 0), #[]⟩
noncomputable abbrev o91s : { o : Obj // o = fnO 4 .none "compare" 0 .none .none } := by walk_at "lit"
noncomputable abbrev o91 : Params → Obj := fun _ => o91s.1
noncomputable abbrev o92 : Params → Obj := fun P => ⟨(.type "code"), .none, (.fields #[(.str "compare" 233), (.str "compare" 234), (.str "/claim/cut.py" 235), (.int 11 0), (.int 2 0), (.int 0 0), (.int 0 0), (.int 3 0), (.ref 47), (.bool .true), (.int 181 0), (.ref 48), .none, (.ref 49), (.ref 50), (.ref 51), (.int 239 0), (.int 11 0), (.str "/claim/cut.py" 240)]), #[]⟩
noncomputable abbrev o93s : { o : Obj // o = fnO 4 (.type "function") "compare" 3 (.str "gmp.limbs" 187) (.ref 52) } := by walk_at "lit"
noncomputable abbrev o93 : Params → Obj := fun _ => o93s.1
noncomputable abbrev o94 : Params → Obj := fun P => ⟨(.type "tuple"), .none, (.seq #[] 0), #[]⟩
noncomputable abbrev o95 : Params → Obj := fun P => ⟨.none, .none, (.fields #[]), #[]⟩
noncomputable abbrev o96 : Params → Obj := fun P => ⟨(.type "tuple"), .none, (.seq #[(.str "a" 245), (.str "b" 246), (.str "w" 247), (.str "found" 248), (.str "carry" 249), (.str "mask" 250), (.str "at" 251)] 0), #[]⟩
noncomputable abbrev o97 : Params → Obj := fun P => ⟨(.type "tuple"), .none, (.seq #[] 0), #[]⟩
noncomputable abbrev o98s : { o : Obj // o = fnO 5 .none "add" 0 .none .none } := by walk_at "lit"
noncomputable abbrev o98 : Params → Obj := fun _ => o98s.1
noncomputable abbrev o99 : Params → Obj := fun P => ⟨(.type "code"), .none, (.fields #[(.str "add" 242), (.str "add" 243), (.str "/claim/cut.py" 244), (.int 18 0), (.int 3 0), (.int 0 0), (.int 0 0), (.int 3 0), (.ref 54), (.bool .true), (.int 181 0), (.ref 55), .none, (.ref 56), (.ref 57), (.ref 58), (.int 252 0), (.int 18 0), (.str "/claim/cut.py" 253)]), #[]⟩
noncomputable abbrev o100s : { o : Obj // o = fnO 5 (.type "function") "add" 3 (.str "gmp.limbs" 187) (.ref 59) } := by walk_at "lit"
noncomputable abbrev o100 : Params → Obj := fun _ => o100s.1
noncomputable abbrev o101 : Params → Obj := fun P => ⟨(.type "tuple"), .none, (.seq #[] 0), #[]⟩
noncomputable abbrev o102 : Params → Obj := fun P => ⟨.none, .none, (.fields #[]), #[]⟩
noncomputable abbrev o103 : Params → Obj := fun P => ⟨(.type "tuple"), .none, (.seq #[(.str "a" 258), (.str "b" 259), (.str "w" 260), (.str "found" 261), (.str "borrow" 262), (.str "base" 263), (.str "at" 264), (.str "limb" 265)] 0), #[]⟩
noncomputable abbrev o104 : Params → Obj := fun P => ⟨(.type "tuple"), .none, (.seq #[] 0), #[]⟩
noncomputable abbrev o105s : { o : Obj // o = fnO 6 .none "sub" 0 .none .none } := by walk_at "lit"
noncomputable abbrev o105 : Params → Obj := fun _ => o105s.1
noncomputable abbrev o106 : Params → Obj := fun P => ⟨(.type "code"), .none, (.fields #[(.str "sub" 255), (.str "sub" 256), (.str "/claim/cut.py" 257), (.int 33 0), (.int 3 0), (.int 0 0), (.int 0 0), (.int 3 0), (.ref 61), (.bool .true), (.int 181 0), (.ref 62), .none, (.ref 63), (.ref 64), (.ref 65), (.int 266 0), (.int 33 0), (.str "/claim/cut.py" 267)]), #[]⟩
noncomputable abbrev o107s : { o : Obj // o = fnO 6 (.type "function") "sub" 3 (.str "gmp.limbs" 187) (.ref 66) } := by walk_at "lit"
noncomputable abbrev o107 : Params → Obj := fun _ => o107s.1
noncomputable abbrev o108 : Params → Obj := fun P => ⟨(.type "tuple"), .none, (.seq #[] 0), #[]⟩
noncomputable abbrev o109 : Params → Obj := fun P => ⟨.none, .none, (.fields #[]), #[]⟩
noncomputable abbrev o110 : Params → Obj := fun P => ⟨(.type "tuple"), .none, (.seq #[(.str "a" 272), (.str "limb" 273), (.str "w" 274), (.str "found" 275), (.str "mask" 276), (.str "one" 277)] 0), #[]⟩
noncomputable abbrev o111 : Params → Obj := fun P => ⟨(.type "tuple"), .none, (.seq #[] 0), #[]⟩
noncomputable abbrev o112s : { o : Obj // o = fnO 7 .none "add_limb" 0 .none .none } := by walk_at "lit"
noncomputable abbrev o112 : Params → Obj := fun _ => o112s.1
noncomputable abbrev o113 : Params → Obj := fun P => ⟨(.type "code"), .none, (.fields #[(.str "add_limb" 269), (.str "add_limb" 270), (.str "/claim/cut.py" 271), (.int 42 0), (.int 3 0), (.int 0 0), (.int 0 0), (.int 3 0), (.ref 68), (.bool .true), (.int 181 0), (.ref 69), .none, (.ref 70), (.ref 71), (.ref 72), (.int 278 0), (.int 42 0), (.str "/claim/cut.py" 279)]), #[]⟩
noncomputable abbrev o114s : { o : Obj // o = fnO 7 (.type "function") "add_limb" 3 (.str "gmp.limbs" 187) (.ref 73) } := by walk_at "lit"
noncomputable abbrev o114 : Params → Obj := fun _ => o114s.1
noncomputable abbrev o115 : Params → Obj := fun P => ⟨(.type "dict"), .none, (.dict #[⟨PyData.keyHash P "__name__", (.str "__name__" 165), (.str "gmp.logic" 331)⟩, ⟨PyData.keyHash P "__doc__", (.str "__doc__" 166), .none⟩, ⟨PyData.keyHash P "__package__", (.str "__package__" 167), .none⟩, ⟨PyData.keyHash P "__loader__", (.str "__loader__" 168), (.builtin "__main__.__loader__#opaque")⟩, ⟨PyData.keyHash P "__spec__", (.str "__spec__" 169), .none⟩, ⟨PyData.keyHash P "__annotations__", (.str "__annotations__" 170), (.ref 6)⟩, ⟨PyData.keyHash P "__builtins__", (.str "__builtins__" 171), (.ref 4)⟩, ⟨PyData.keyHash P "__file__", (.str "__file__" 173), (.str "/claim/cut.py" 172)⟩, ⟨PyData.keyHash P "__cached__", (.str "__cached__" 174), .none⟩, ⟨PyData.keyHash P "GmpError", (.str "GmpError" 208), (.ref 24)⟩, ⟨PyData.keyHash P "OutOfRange", (.str "OutOfRange" 224), (.ref 37)⟩, ⟨PyData.keyHash P "normal", (.str "normal" 232), (.ref 46)⟩, ⟨PyData.keyHash P "compare", (.str "compare" 241), (.ref 53)⟩, ⟨PyData.keyHash P "add", (.str "add" 254), (.ref 60)⟩, ⟨PyData.keyHash P "sub", (.str "sub" 268), (.ref 67)⟩, ⟨PyData.keyHash P "add_limb", (.str "add_limb" 280), (.ref 74)⟩, ⟨PyData.keyHash P "shift_left", (.str "shift_left" 295), (.ref 81)⟩, ⟨PyData.keyHash P "shift_right", (.str "shift_right" 310), (.ref 88)⟩, ⟨PyData.keyHash P "bit", (.str "bit" 319), (.ref 95)⟩, ⟨PyData.keyHash P "low", (.str "low" 330), (.ref 102)⟩, ⟨PyData.keyHash P "row_of", (.str "row_of" 338), (.ref 107)⟩, ⟨PyData.keyHash P "number_of", (.str "number_of" 344), (.ref 112)⟩, ⟨PyData.keyHash P "joint_size", (.str "joint_size" 352), (.ref 119)⟩, ⟨PyData.keyHash P "s_and", (.str "s_and" 358), (.ref 124)⟩, ⟨PyData.keyHash P "s_or", (.str "s_or" 364), (.ref 129)⟩, ⟨PyData.keyHash P "s_xor", (.str "s_xor" 370), (.ref 134)⟩, ⟨PyData.keyHash P "s_not", (.str "s_not" 380), (.ref 141)⟩, ⟨PyData.keyHash P "s_bit", (.str "s_bit" 391), (.ref 148)⟩] 28), #[]⟩
noncomputable abbrev o116 : Params → Obj := fun P => ⟨.none, .none, (.fields #[(.int 2 0), (.int 0 0), (.ref 20), (.int 4 0), (.int 0 0), (.ref 33), (.int 6 0), (.int 0 0), (.ref 45), (.int 11 0), (.int 0 0), (.ref 52), (.int 18 0), (.int 0 0), (.ref 59), (.int 33 0), (.int 0 0), (.ref 66), (.int 42 0), (.int 0 0), (.ref 73), (.int 51 0), (.int 0 0), (.ref 80), (.int 63 0), (.int 0 0), (.ref 87), (.int 70 0), (.int 0 0), (.ref 94), (.int 72 0), (.int 0 0), (.ref 101), (.int 78 0), (.int 0 0), (.ref 106), (.int 85 0), (.int 0 0), (.ref 111), (.int 90 0), (.int 0 0), (.ref 118), (.int 92 0), (.int 0 0), (.ref 123), (.int 95 0), (.int 0 0), (.ref 128), (.int 98 0), (.int 0 0), (.ref 133), (.int 101 0), (.int 0 0), (.ref 140), (.int 106 0), (.int 0 0), (.ref 147)]), #[]⟩
noncomputable abbrev o117 : Params → Obj := fun P => ⟨(.type "tuple"), .none, (.seq #[] 0), #[]⟩
noncomputable abbrev o118 : Params → Obj := fun P => ⟨.none, .none, (.fields #[]), #[]⟩
noncomputable abbrev o119 : Params → Obj := fun P => ⟨(.type "tuple"), .none, (.seq #[(.str "a" 284), (.str "n" 285), (.str "w" 286), (.str "spots" 287), (.str "few" 288), (.str "found" 289), (.str "carry" 290), (.str "mask" 291), (.str "one" 292)] 0), #[]⟩
noncomputable abbrev o120 : Params → Obj := fun P => ⟨(.type "tuple"), .none, (.seq #[] 0), #[]⟩
noncomputable abbrev o121s : { o : Obj // o = fnO 8 .none "shift_left" 0 .none .none } := by walk_at "lit"
noncomputable abbrev o121 : Params → Obj := fun _ => o121s.1
noncomputable abbrev o122 : Params → Obj := fun P => ⟨(.type "code"), .none, (.fields #[(.str "shift_left" 281), (.str "shift_left" 282), (.str "/claim/cut.py" 283), (.int 51 0), (.int 3 0), (.int 0 0), (.int 0 0), (.int 3 0), (.ref 75), (.bool .true), (.int 181 0), (.ref 76), .none, (.ref 77), (.ref 78), (.ref 79), (.int 293 0), (.int 51 0), (.str "/claim/cut.py" 294)]), #[]⟩
noncomputable abbrev o123s : { o : Obj // o = fnO 8 (.type "function") "shift_left" 3 (.str "gmp.limbs" 187) (.ref 80) } := by walk_at "lit"
noncomputable abbrev o123 : Params → Obj := fun _ => o123s.1
noncomputable abbrev o124 : Params → Obj := fun P => ⟨(.type "tuple"), .none, (.seq #[] 0), #[]⟩
noncomputable abbrev o125 : Params → Obj := fun P => ⟨.none, .none, (.fields #[]), #[]⟩
noncomputable abbrev o126 : Params → Obj := fun P => ⟨(.type "tuple"), .none, (.seq #[(.str "a" 299), (.str "n" 300), (.str "w" 301), (.str "spots" 302), (.str "few" 303), (.str "found" 304), (.str "mask" 305), (.str "at" 306), (.str "above" 307)] 0), #[]⟩
noncomputable abbrev o127 : Params → Obj := fun P => ⟨(.type "tuple"), .none, (.seq #[] 0), #[]⟩
noncomputable abbrev o128s : { o : Obj // o = fnO 9 .none "shift_right" 0 .none .none } := by walk_at "lit"
noncomputable abbrev o128 : Params → Obj := fun _ => o128s.1
noncomputable abbrev o129 : Params → Obj := fun P => ⟨(.type "code"), .none, (.fields #[(.str "shift_right" 296), (.str "shift_right" 297), (.str "/claim/cut.py" 298), (.int 63 0), (.int 3 0), (.int 0 0), (.int 0 0), (.int 3 0), (.ref 82), (.bool .true), (.int 181 0), (.ref 83), .none, (.ref 84), (.ref 85), (.ref 86), (.int 308 0), (.int 63 0), (.str "/claim/cut.py" 309)]), #[]⟩
noncomputable abbrev o130s : { o : Obj // o = fnO 9 (.type "function") "shift_right" 3 (.str "gmp.limbs" 187) (.ref 87) } := by walk_at "lit"
noncomputable abbrev o130 : Params → Obj := fun _ => o130s.1
noncomputable abbrev o131 : Params → Obj := fun P => ⟨(.type "tuple"), .none, (.seq #[] 0), #[]⟩
noncomputable abbrev o132 : Params → Obj := fun P => ⟨.none, .none, (.fields #[]), #[]⟩
noncomputable abbrev o133 : Params → Obj := fun P => ⟨(.type "tuple"), .none, (.seq #[(.str "a" 314), (.str "n" 315), (.str "w" 316)] 0), #[]⟩
noncomputable abbrev o134 : Params → Obj := fun P => ⟨(.type "tuple"), .none, (.seq #[] 0), #[]⟩
noncomputable abbrev o135s : { o : Obj // o = fnO 10 .none "bit" 0 .none .none } := by walk_at "lit"
noncomputable abbrev o135 : Params → Obj := fun _ => o135s.1
noncomputable abbrev o136 : Params → Obj := fun P => ⟨(.type "code"), .none, (.fields #[(.str "bit" 311), (.str "bit" 312), (.str "/claim/cut.py" 313), (.int 70 0), (.int 3 0), (.int 0 0), (.int 0 0), (.int 3 0), (.ref 89), (.bool .true), (.int 181 0), (.ref 90), .none, (.ref 91), (.ref 92), (.ref 93), (.int 317 0), (.int 70 0), (.str "/claim/cut.py" 318)]), #[]⟩
noncomputable abbrev o137s : { o : Obj // o = fnO 10 (.type "function") "bit" 3 (.str "gmp.limbs" 187) (.ref 94) } := by walk_at "lit"
noncomputable abbrev o137 : Params → Obj := fun _ => o137s.1
noncomputable abbrev o138 : Params → Obj := fun P => ⟨(.type "tuple"), .none, (.seq #[] 0), #[]⟩
noncomputable abbrev o139 : Params → Obj := fun P => ⟨.none, .none, (.fields #[]), #[]⟩
noncomputable abbrev o140 : Params → Obj := fun P => ⟨(.type "tuple"), .none, (.seq #[(.str "a" 323), (.str "n" 324), (.str "w" 325), (.str "spots" 326), (.str "few" 327)] 0), #[]⟩
noncomputable abbrev o141 : Params → Obj := fun P => ⟨(.type "tuple"), .none, (.seq #[] 0), #[]⟩
noncomputable abbrev o142s : { o : Obj // o = fnO 11 .none "low" 0 .none .none } := by walk_at "lit"
noncomputable abbrev o142 : Params → Obj := fun _ => o142s.1
noncomputable abbrev o143 : Params → Obj := fun P => ⟨(.type "code"), .none, (.fields #[(.str "low" 320), (.str "low" 321), (.str "/claim/cut.py" 322), (.int 72 0), (.int 3 0), (.int 0 0), (.int 0 0), (.int 3 0), (.ref 96), (.bool .true), (.int 181 0), (.ref 97), .none, (.ref 98), (.ref 99), (.ref 100), (.int 328 0), (.int 72 0), (.str "/claim/cut.py" 329)]), #[]⟩
noncomputable abbrev o144s : { o : Obj // o = fnO 11 (.type "function") "low" 3 (.str "gmp.limbs" 187) (.ref 101) } := by walk_at "lit"
noncomputable abbrev o144 : Params → Obj := fun _ => o144s.1
noncomputable abbrev o145 : Params → Obj := fun P => ⟨(.type "tuple"), .none, (.seq #[] 0), #[]⟩
noncomputable abbrev o146 : Params → Obj := fun P => ⟨.none, .none, (.fields #[]), #[]⟩
noncomputable abbrev o147s : { o : Obj // o = fnO 13 .none "row_of" 0 .none .none } := by walk_at "lit"
noncomputable abbrev o147 : Params → Obj := fun _ => o147s.1
noncomputable abbrev o148 : Params → Obj := fun P => ⟨(.type "code"), .none, (.fields #[(.str "row_of" 333), (.str "row_of" 334), (.str "/claim/cut.py" 335), (.int 78 0), (.int 3 0), (.int 0 0), (.int 0 0), (.int 3 0), (.ref 103), (.bool .true), (.int 181 0), (.ref 104), .none, .none, .none, (.ref 105), (.int 336 0), (.int 78 0), (.str "/claim/cut.py" 337)]), #[]⟩
noncomputable abbrev o149s : { o : Obj // o = fnO 13 (.type "function") "row_of" 3 (.str "gmp.logic" 331) (.ref 106) } := by walk_at "lit"
noncomputable abbrev o149 : Params → Obj := fun _ => o149s.1
noncomputable abbrev o150 : Params → Obj := fun P => ⟨(.type "tuple"), .none, (.seq #[] 0), #[]⟩
noncomputable abbrev o151 : Params → Obj := fun P => ⟨.none, .none, (.fields #[]), #[]⟩
noncomputable abbrev o152s : { o : Obj // o = fnO 14 .none "number_of" 0 .none .none } := by walk_at "lit"
noncomputable abbrev o152 : Params → Obj := fun _ => o152s.1
noncomputable abbrev o153 : Params → Obj := fun P => ⟨(.type "code"), .none, (.fields #[(.str "number_of" 339), (.str "number_of" 340), (.str "/claim/cut.py" 341), (.int 85 0), (.int 2 0), (.int 0 0), (.int 0 0), (.int 3 0), (.ref 108), (.bool .true), (.int 181 0), (.ref 109), .none, .none, .none, (.ref 110), (.int 342 0), (.int 85 0), (.str "/claim/cut.py" 343)]), #[]⟩
noncomputable abbrev o154s : { o : Obj // o = fnO 14 (.type "function") "number_of" 3 (.str "gmp.logic" 331) (.ref 111) } := by walk_at "lit"
noncomputable abbrev o154 : Params → Obj := fun _ => o154s.1
noncomputable abbrev o155 : Params → Obj := fun P => ⟨(.type "tuple"), .none, (.seq #[] 0), #[]⟩
noncomputable abbrev o156 : Params → Obj := fun P => ⟨.none, .none, (.fields #[]), #[]⟩
noncomputable abbrev o157 : Params → Obj := fun P => ⟨(.type "tuple"), .none, (.seq #[(.str "x" 348), (.str "y" 349)] 0), #[]⟩
noncomputable abbrev o158 : Params → Obj := fun P => ⟨(.type "tuple"), .none, (.seq #[] 0), #[]⟩
noncomputable abbrev o159s : { o : Obj // o = fnO 15 .none "joint_size" 0 .none .none } := by walk_at "lit"
noncomputable abbrev o159 : Params → Obj := fun _ => o159s.1
noncomputable abbrev o160 : Params → Obj := fun P => ⟨(.type "code"), .none, (.fields #[(.str "joint_size" 345), (.str "joint_size" 346), (.str "/claim/cut.py" 347), (.int 90 0), (.int 2 0), (.int 0 0), (.int 0 0), (.int 3 0), (.ref 113), (.bool .true), (.int 181 0), (.ref 114), .none, (.ref 115), (.ref 116), (.ref 117), (.int 350 0), (.int 90 0), (.str "/claim/cut.py" 351)]), #[]⟩
noncomputable abbrev o161s : { o : Obj // o = fnO 15 (.type "function") "joint_size" 3 (.str "gmp.logic" 331) (.ref 118) } := by walk_at "lit"
noncomputable abbrev o161 : Params → Obj := fun _ => o161s.1
noncomputable abbrev o162 : Params → Obj := fun P => ⟨(.type "tuple"), .none, (.seq #[] 0), #[]⟩
noncomputable abbrev o163 : Params → Obj := fun P => ⟨.none, .none, (.fields #[]), #[]⟩
noncomputable abbrev o164s : { o : Obj // o = fnO 16 .none "s_and" 0 .none .none } := by walk_at "lit"
noncomputable abbrev o164 : Params → Obj := fun _ => o164s.1
noncomputable abbrev o165 : Params → Obj := fun P => ⟨(.type "code"), .none, (.fields #[(.str "s_and" 353), (.str "s_and" 354), (.str "/claim/cut.py" 355), (.int 92 0), (.int 3 0), (.int 0 0), (.int 0 0), (.int 3 0), (.ref 120), (.bool .true), (.int 181 0), (.ref 121), .none, .none, .none, (.ref 122), (.int 356 0), (.int 92 0), (.str "/claim/cut.py" 357)]), #[]⟩
noncomputable abbrev o166s : { o : Obj // o = fnO 16 (.type "function") "s_and" 3 (.str "gmp.logic" 331) (.ref 123) } := by walk_at "lit"
noncomputable abbrev o166 : Params → Obj := fun _ => o166s.1
noncomputable abbrev o167 : Params → Obj := fun P => ⟨(.type "tuple"), .none, (.seq #[] 0), #[]⟩
noncomputable abbrev o168 : Params → Obj := fun P => ⟨.none, .none, (.fields #[]), #[]⟩
noncomputable abbrev o169s : { o : Obj // o = fnO 17 .none "s_or" 0 .none .none } := by walk_at "lit"
noncomputable abbrev o169 : Params → Obj := fun _ => o169s.1
noncomputable abbrev o170 : Params → Obj := fun P => ⟨(.type "code"), .none, (.fields #[(.str "s_or" 359), (.str "s_or" 360), (.str "/claim/cut.py" 361), (.int 95 0), (.int 3 0), (.int 0 0), (.int 0 0), (.int 3 0), (.ref 125), (.bool .true), (.int 181 0), (.ref 126), .none, .none, .none, (.ref 127), (.int 362 0), (.int 95 0), (.str "/claim/cut.py" 363)]), #[]⟩
noncomputable abbrev o171s : { o : Obj // o = fnO 17 (.type "function") "s_or" 3 (.str "gmp.logic" 331) (.ref 128) } := by walk_at "lit"
noncomputable abbrev o171 : Params → Obj := fun _ => o171s.1
noncomputable abbrev o172 : Params → Obj := fun P => ⟨(.type "tuple"), .none, (.seq #[] 0), #[]⟩
noncomputable abbrev o173 : Params → Obj := fun P => ⟨.none, .none, (.fields #[]), #[]⟩
noncomputable abbrev o174s : { o : Obj // o = fnO 18 .none "s_xor" 0 .none .none } := by walk_at "lit"
noncomputable abbrev o174 : Params → Obj := fun _ => o174s.1
noncomputable abbrev o175 : Params → Obj := fun P => ⟨(.type "code"), .none, (.fields #[(.str "s_xor" 365), (.str "s_xor" 366), (.str "/claim/cut.py" 367), (.int 98 0), (.int 3 0), (.int 0 0), (.int 0 0), (.int 3 0), (.ref 130), (.bool .true), (.int 181 0), (.ref 131), .none, .none, .none, (.ref 132), (.int 368 0), (.int 98 0), (.str "/claim/cut.py" 369)]), #[]⟩
noncomputable abbrev o176s : { o : Obj // o = fnO 18 (.type "function") "s_xor" 3 (.str "gmp.logic" 331) (.ref 133) } := by walk_at "lit"
noncomputable abbrev o176 : Params → Obj := fun _ => o176s.1
noncomputable abbrev o177 : Params → Obj := fun P => ⟨(.type "tuple"), .none, (.seq #[] 0), #[]⟩
noncomputable abbrev o178 : Params → Obj := fun P => ⟨.none, .none, (.fields #[]), #[]⟩
noncomputable abbrev o179 : Params → Obj := fun P => ⟨(.type "tuple"), .none, (.seq #[(.str "x" 374), (.str "w" 375), (.str "is_below" 376), (.str "nat" 377)] 0), #[]⟩
noncomputable abbrev o180 : Params → Obj := fun P => ⟨(.type "tuple"), .none, (.seq #[] 0), #[]⟩
noncomputable abbrev o181s : { o : Obj // o = fnO 19 .none "s_not" 0 .none .none } := by walk_at "lit"
noncomputable abbrev o181 : Params → Obj := fun _ => o181s.1
noncomputable abbrev o182 : Params → Obj := fun P => ⟨(.type "code"), .none, (.fields #[(.str "s_not" 371), (.str "s_not" 372), (.str "/claim/cut.py" 373), (.int 101 0), (.int 2 0), (.int 0 0), (.int 0 0), (.int 3 0), (.ref 135), (.bool .true), (.int 181 0), (.ref 136), .none, (.ref 137), (.ref 138), (.ref 139), (.int 378 0), (.int 101 0), (.str "/claim/cut.py" 379)]), #[]⟩
noncomputable abbrev o183s : { o : Obj // o = fnO 19 (.type "function") "s_not" 3 (.str "gmp.logic" 331) (.ref 140) } := by walk_at "lit"
noncomputable abbrev o183 : Params → Obj := fun _ => o183s.1
noncomputable abbrev o184 : Params → Obj := fun P => ⟨(.type "tuple"), .none, (.seq #[] 0), #[]⟩
noncomputable abbrev o185 : Params → Obj := fun P => ⟨.none, .none, (.fields #[]), #[]⟩
noncomputable abbrev o186 : Params → Obj := fun P => ⟨(.type "tuple"), .none, (.seq #[(.str "x" 384), (.str "n" 385), (.str "w" 386), (.str "is_below" 387), (.str "nat" 388)] 0), #[]⟩
noncomputable abbrev o187 : Params → Obj := fun P => ⟨(.type "tuple"), .none, (.seq #[] 0), #[]⟩
noncomputable abbrev o188s : { o : Obj // o = fnO 20 .none "s_bit" 0 .none .none } := by walk_at "lit"
noncomputable abbrev o188 : Params → Obj := fun _ => o188s.1
noncomputable abbrev o189 : Params → Obj := fun P => ⟨(.type "code"), .none, (.fields #[(.str "s_bit" 381), (.str "s_bit" 382), (.str "/claim/cut.py" 383), (.int 106 0), (.int 3 0), (.int 0 0), (.int 0 0), (.int 3 0), (.ref 142), (.bool .true), (.int 181 0), (.ref 143), .none, (.ref 144), (.ref 145), (.ref 146), (.int 389 0), (.int 106 0), (.str "/claim/cut.py" 390)]), #[]⟩
noncomputable abbrev o190s : { o : Obj // o = fnO 20 (.type "function") "s_bit" 3 (.str "gmp.logic" 331) (.ref 147) } := by walk_at "lit"
noncomputable abbrev o190 : Params → Obj := fun _ => o190s.1
noncomputable abbrev o191 : Params → Obj := fun P => ⟨(.type "dict"), .none, (.dict #[⟨PyData.keyHash P "__name__", (.str "__name__" 165), (.str "gmp.signed" 493)⟩, ⟨PyData.keyHash P "__doc__", (.str "__doc__" 166), .none⟩, ⟨PyData.keyHash P "__package__", (.str "__package__" 167), .none⟩, ⟨PyData.keyHash P "__loader__", (.str "__loader__" 168), (.builtin "__main__.__loader__#opaque")⟩, ⟨PyData.keyHash P "__spec__", (.str "__spec__" 169), .none⟩, ⟨PyData.keyHash P "__annotations__", (.str "__annotations__" 170), (.ref 6)⟩, ⟨PyData.keyHash P "__builtins__", (.str "__builtins__" 171), (.ref 4)⟩, ⟨PyData.keyHash P "__file__", (.str "__file__" 173), (.str "/claim/cut.py" 172)⟩, ⟨PyData.keyHash P "__cached__", (.str "__cached__" 174), .none⟩, ⟨PyData.keyHash P "GmpError", (.str "GmpError" 208), (.ref 24)⟩, ⟨PyData.keyHash P "OutOfRange", (.str "OutOfRange" 224), (.ref 37)⟩, ⟨PyData.keyHash P "normal", (.str "normal" 232), (.ref 46)⟩, ⟨PyData.keyHash P "compare", (.str "compare" 241), (.ref 53)⟩, ⟨PyData.keyHash P "add", (.str "add" 254), (.ref 60)⟩, ⟨PyData.keyHash P "sub", (.str "sub" 268), (.ref 67)⟩, ⟨PyData.keyHash P "add_limb", (.str "add_limb" 280), (.ref 74)⟩, ⟨PyData.keyHash P "shift_left", (.str "shift_left" 295), (.ref 81)⟩, ⟨PyData.keyHash P "shift_right", (.str "shift_right" 310), (.ref 88)⟩, ⟨PyData.keyHash P "bit", (.str "bit" 319), (.ref 95)⟩, ⟨PyData.keyHash P "low", (.str "low" 330), (.ref 102)⟩, ⟨PyData.keyHash P "row_of", (.str "row_of" 338), (.ref 107)⟩, ⟨PyData.keyHash P "number_of", (.str "number_of" 344), (.ref 112)⟩, ⟨PyData.keyHash P "joint_size", (.str "joint_size" 352), (.ref 119)⟩, ⟨PyData.keyHash P "s_and", (.str "s_and" 358), (.ref 124)⟩, ⟨PyData.keyHash P "s_or", (.str "s_or" 364), (.ref 129)⟩, ⟨PyData.keyHash P "s_xor", (.str "s_xor" 370), (.ref 134)⟩, ⟨PyData.keyHash P "s_not", (.str "s_not" 380), (.ref 141)⟩, ⟨PyData.keyHash P "s_bit", (.str "s_bit" 391), (.ref 148)⟩, ⟨PyData.keyHash P "one_at", (.str "one_at" 399), (.ref 155)⟩, ⟨PyData.keyHash P "set_bit", (.str "set_bit" 410), (.ref 162)⟩, ⟨PyData.keyHash P "clear_bit", (.str "clear_bit" 421), (.ref 169)⟩, ⟨PyData.keyHash P "flip_bit", (.str "flip_bit" 430), (.ref 176)⟩, ⟨PyData.keyHash P "limb_ones", (.str "limb_ones" 438), (.ref 183)⟩, ⟨PyData.keyHash P "nat_ones", (.str "nat_ones" 444), (.ref 188)⟩, ⟨PyData.keyHash P "count_ones", (.str "count_ones" 451), (.ref 195)⟩, ⟨PyData.keyHash P "distance", (.str "distance" 460), (.ref 202)⟩, ⟨PyData.keyHash P "scan_for", (.str "scan_for" 474), (.ref 209)⟩, ⟨PyData.keyHash P "scan_one", (.str "scan_one" 483), (.ref 216)⟩, ⟨PyData.keyHash P "scan_zero", (.str "scan_zero" 492), (.ref 223)⟩, ⟨PyData.keyHash P "signed", (.str "signed" 502), (.ref 230)⟩] 40), #[]⟩
noncomputable abbrev o192 : Params → Obj := fun P => ⟨.none, .none, (.fields #[(.int 2 0), (.int 0 0), (.ref 20), (.int 4 0), (.int 0 0), (.ref 33), (.int 6 0), (.int 0 0), (.ref 45), (.int 11 0), (.int 0 0), (.ref 52), (.int 18 0), (.int 0 0), (.ref 59), (.int 33 0), (.int 0 0), (.ref 66), (.int 42 0), (.int 0 0), (.ref 73), (.int 51 0), (.int 0 0), (.ref 80), (.int 63 0), (.int 0 0), (.ref 87), (.int 70 0), (.int 0 0), (.ref 94), (.int 72 0), (.int 0 0), (.ref 101), (.int 78 0), (.int 0 0), (.ref 106), (.int 85 0), (.int 0 0), (.ref 111), (.int 90 0), (.int 0 0), (.ref 118), (.int 92 0), (.int 0 0), (.ref 123), (.int 95 0), (.int 0 0), (.ref 128), (.int 98 0), (.int 0 0), (.ref 133), (.int 101 0), (.int 0 0), (.ref 140), (.int 106 0), (.int 0 0), (.ref 147), (.int 111 0), (.int 0 0), (.ref 154), (.int 113 0), (.int 0 0), (.ref 161), (.int 120 0), (.int 0 0), (.ref 168), (.int 127 0), (.int 0 0), (.ref 175), (.int 129 0), (.int 0 0), (.ref 182), (.int 135 0), (.int 0 0), (.ref 187), (.int 137 0), (.int 0 0), (.ref 194), (.int 139 0), (.int 0 0), (.ref 201), (.int 143 0), (.int 0 0), (.ref 208), (.int 151 0), (.int 0 0), (.ref 215), (.int 153 0), (.int 0 0), (.ref 222), (.int 156 0), (.int 0 0), (.ref 229)]), #[]⟩
noncomputable abbrev o193 : Params → Obj := fun P => ⟨(.type "tuple"), .none, (.seq #[] 0), #[]⟩
noncomputable abbrev o194 : Params → Obj := fun P => ⟨.none, .none, (.fields #[]), #[]⟩
noncomputable abbrev o195 : Params → Obj := fun P => ⟨(.type "tuple"), .none, (.seq #[(.str "n" 395), (.str "w" 396)] 0), #[]⟩
noncomputable abbrev o196 : Params → Obj := fun P => ⟨(.type "tuple"), .none, (.seq #[] 0), #[]⟩
noncomputable abbrev o197s : { o : Obj // o = fnO 21 .none "one_at" 0 .none .none } := by walk_at "lit"
noncomputable abbrev o197 : Params → Obj := fun _ => o197s.1
noncomputable abbrev o198 : Params → Obj := fun P => ⟨(.type "code"), .none, (.fields #[(.str "one_at" 392), (.str "one_at" 393), (.str "/claim/cut.py" 394), (.int 111 0), (.int 2 0), (.int 0 0), (.int 0 0), (.int 3 0), (.ref 149), (.bool .true), (.int 181 0), (.ref 150), .none, (.ref 151), (.ref 152), (.ref 153), (.int 397 0), (.int 111 0), (.str "/claim/cut.py" 398)]), #[]⟩
noncomputable abbrev o199s : { o : Obj // o = fnO 21 (.type "function") "one_at" 3 (.str "gmp.logic" 331) (.ref 154) } := by walk_at "lit"
noncomputable abbrev o199 : Params → Obj := fun _ => o199s.1
noncomputable abbrev o200 : Params → Obj := fun P => ⟨(.type "tuple"), .none, (.seq #[] 0), #[]⟩
noncomputable abbrev o201 : Params → Obj := fun P => ⟨.none, .none, (.fields #[]), #[]⟩
noncomputable abbrev o202 : Params → Obj := fun P => ⟨(.type "tuple"), .none, (.seq #[(.str "x" 403), (.str "n" 404), (.str "w" 405), (.str "is_below" 406), (.str "nat" 407)] 0), #[]⟩
noncomputable abbrev o203 : Params → Obj := fun P => ⟨(.type "tuple"), .none, (.seq #[] 0), #[]⟩
noncomputable abbrev o204s : { o : Obj // o = fnO 22 .none "set_bit" 0 .none .none } := by walk_at "lit"
noncomputable abbrev o204 : Params → Obj := fun _ => o204s.1
noncomputable abbrev o205 : Params → Obj := fun P => ⟨(.type "code"), .none, (.fields #[(.str "set_bit" 400), (.str "set_bit" 401), (.str "/claim/cut.py" 402), (.int 113 0), (.int 3 0), (.int 0 0), (.int 0 0), (.int 3 0), (.ref 156), (.bool .true), (.int 181 0), (.ref 157), .none, (.ref 158), (.ref 159), (.ref 160), (.int 408 0), (.int 113 0), (.str "/claim/cut.py" 409)]), #[]⟩
noncomputable abbrev o206s : { o : Obj // o = fnO 22 (.type "function") "set_bit" 3 (.str "gmp.logic" 331) (.ref 161) } := by walk_at "lit"
noncomputable abbrev o206 : Params → Obj := fun _ => o206s.1
noncomputable abbrev o207 : Params → Obj := fun P => ⟨(.type "tuple"), .none, (.seq #[] 0), #[]⟩
noncomputable abbrev o208 : Params → Obj := fun P => ⟨.none, .none, (.fields #[]), #[]⟩
noncomputable abbrev o209 : Params → Obj := fun P => ⟨(.type "tuple"), .none, (.seq #[(.str "x" 414), (.str "n" 415), (.str "w" 416), (.str "is_below" 417), (.str "nat" 418)] 0), #[]⟩
noncomputable abbrev o210 : Params → Obj := fun P => ⟨(.type "tuple"), .none, (.seq #[] 0), #[]⟩
noncomputable abbrev o211s : { o : Obj // o = fnO 23 .none "clear_bit" 0 .none .none } := by walk_at "lit"
noncomputable abbrev o211 : Params → Obj := fun _ => o211s.1
noncomputable abbrev o212 : Params → Obj := fun P => ⟨(.type "code"), .none, (.fields #[(.str "clear_bit" 411), (.str "clear_bit" 412), (.str "/claim/cut.py" 413), (.int 120 0), (.int 3 0), (.int 0 0), (.int 0 0), (.int 3 0), (.ref 163), (.bool .true), (.int 181 0), (.ref 164), .none, (.ref 165), (.ref 166), (.ref 167), (.int 419 0), (.int 120 0), (.str "/claim/cut.py" 420)]), #[]⟩
noncomputable abbrev o213s : { o : Obj // o = fnO 23 (.type "function") "clear_bit" 3 (.str "gmp.logic" 331) (.ref 168) } := by walk_at "lit"
noncomputable abbrev o213 : Params → Obj := fun _ => o213s.1
noncomputable abbrev o214 : Params → Obj := fun P => ⟨(.type "tuple"), .none, (.seq #[] 0), #[]⟩
noncomputable abbrev o215 : Params → Obj := fun P => ⟨.none, .none, (.fields #[]), #[]⟩
noncomputable abbrev o216 : Params → Obj := fun P => ⟨(.type "tuple"), .none, (.seq #[(.str "x" 425), (.str "n" 426), (.str "w" 427)] 0), #[]⟩
noncomputable abbrev o217 : Params → Obj := fun P => ⟨(.type "tuple"), .none, (.seq #[] 0), #[]⟩
noncomputable abbrev o218s : { o : Obj // o = fnO 24 .none "flip_bit" 0 .none .none } := by walk_at "lit"
noncomputable abbrev o218 : Params → Obj := fun _ => o218s.1
noncomputable abbrev o219 : Params → Obj := fun P => ⟨(.type "code"), .none, (.fields #[(.str "flip_bit" 422), (.str "flip_bit" 423), (.str "/claim/cut.py" 424), (.int 127 0), (.int 3 0), (.int 0 0), (.int 0 0), (.int 3 0), (.ref 170), (.bool .true), (.int 181 0), (.ref 171), .none, (.ref 172), (.ref 173), (.ref 174), (.int 428 0), (.int 127 0), (.str "/claim/cut.py" 429)]), #[]⟩
noncomputable abbrev o220s : { o : Obj // o = fnO 24 (.type "function") "flip_bit" 3 (.str "gmp.logic" 331) (.ref 175) } := by walk_at "lit"
noncomputable abbrev o220 : Params → Obj := fun _ => o220s.1
noncomputable abbrev o221 : Params → Obj := fun P => ⟨(.type "tuple"), .none, (.seq #[] 0), #[]⟩
noncomputable abbrev o222 : Params → Obj := fun P => ⟨.none, .none, (.fields #[]), #[]⟩
noncomputable abbrev o223 : Params → Obj := fun P => ⟨(.type "tuple"), .none, (.seq #[(.str "limb" 434), (.str "found" 435)] 0), #[]⟩
noncomputable abbrev o224 : Params → Obj := fun P => ⟨(.type "tuple"), .none, (.seq #[] 0), #[]⟩
noncomputable abbrev o225s : { o : Obj // o = fnO 25 .none "limb_ones" 0 .none .none } := by walk_at "lit"
noncomputable abbrev o225 : Params → Obj := fun _ => o225s.1
noncomputable abbrev o226 : Params → Obj := fun P => ⟨(.type "code"), .none, (.fields #[(.str "limb_ones" 431), (.str "limb_ones" 432), (.str "/claim/cut.py" 433), (.int 129 0), (.int 1 0), (.int 0 0), (.int 0 0), (.int 3 0), (.ref 177), (.bool .true), (.int 181 0), (.ref 178), .none, (.ref 179), (.ref 180), (.ref 181), (.int 436 0), (.int 129 0), (.str "/claim/cut.py" 437)]), #[]⟩
noncomputable abbrev o227s : { o : Obj // o = fnO 25 (.type "function") "limb_ones" 3 (.str "gmp.logic" 331) (.ref 182) } := by walk_at "lit"
noncomputable abbrev o227 : Params → Obj := fun _ => o227s.1
noncomputable abbrev o228 : Params → Obj := fun P => ⟨(.type "tuple"), .none, (.seq #[] 0), #[]⟩
noncomputable abbrev o229 : Params → Obj := fun P => ⟨.none, .none, (.fields #[]), #[]⟩
noncomputable abbrev o230s : { o : Obj // o = fnO 26 .none "nat_ones" 0 .none .none } := by walk_at "lit"
noncomputable abbrev o230 : Params → Obj := fun _ => o230s.1
noncomputable abbrev o231 : Params → Obj := fun P => ⟨(.type "code"), .none, (.fields #[(.str "nat_ones" 439), (.str "nat_ones" 440), (.str "/claim/cut.py" 441), (.int 135 0), (.int 1 0), (.int 0 0), (.int 0 0), (.int 3 0), (.ref 184), (.bool .true), (.int 181 0), (.ref 185), .none, .none, .none, (.ref 186), (.int 442 0), (.int 135 0), (.str "/claim/cut.py" 443)]), #[]⟩
noncomputable abbrev o232s : { o : Obj // o = fnO 26 (.type "function") "nat_ones" 3 (.str "gmp.logic" 331) (.ref 187) } := by walk_at "lit"
noncomputable abbrev o232 : Params → Obj := fun _ => o232s.1
noncomputable abbrev o233 : Params → Obj := fun P => ⟨(.type "tuple"), .none, (.seq #[] 0), #[]⟩
noncomputable abbrev o234 : Params → Obj := fun P => ⟨.none, .none, (.fields #[]), #[]⟩
noncomputable abbrev o235 : Params → Obj := fun P => ⟨(.type "tuple"), .none, (.seq #[(.str "x" 448)] 0), #[]⟩
noncomputable abbrev o236 : Params → Obj := fun P => ⟨(.type "tuple"), .none, (.seq #[] 0), #[]⟩
noncomputable abbrev o237s : { o : Obj // o = fnO 27 .none "count_ones" 0 .none .none } := by walk_at "lit"
noncomputable abbrev o237 : Params → Obj := fun _ => o237s.1
noncomputable abbrev o238 : Params → Obj := fun P => ⟨(.type "code"), .none, (.fields #[(.str "count_ones" 445), (.str "count_ones" 446), (.str "/claim/cut.py" 447), (.int 137 0), (.int 1 0), (.int 0 0), (.int 0 0), (.int 3 0), (.ref 189), (.bool .true), (.int 181 0), (.ref 190), .none, (.ref 191), (.ref 192), (.ref 193), (.int 449 0), (.int 137 0), (.str "/claim/cut.py" 450)]), #[]⟩
noncomputable abbrev o239s : { o : Obj // o = fnO 27 (.type "function") "count_ones" 3 (.str "gmp.logic" 331) (.ref 194) } := by walk_at "lit"
noncomputable abbrev o239 : Params → Obj := fun _ => o239s.1
noncomputable abbrev o240 : Params → Obj := fun P => ⟨(.type "tuple"), .none, (.seq #[] 0), #[]⟩
noncomputable abbrev o241 : Params → Obj := fun P => ⟨.none, .none, (.fields #[]), #[]⟩
noncomputable abbrev o242 : Params → Obj := fun P => ⟨(.type "tuple"), .none, (.seq #[(.str "x" 455), (.str "y" 456), (.str "w" 457)] 0), #[]⟩
noncomputable abbrev o243 : Params → Obj := fun P => ⟨(.type "tuple"), .none, (.seq #[] 0), #[]⟩
noncomputable abbrev o244s : { o : Obj // o = fnO 28 .none "distance" 0 .none .none } := by walk_at "lit"
noncomputable abbrev o244 : Params → Obj := fun _ => o244s.1
noncomputable abbrev o245 : Params → Obj := fun P => ⟨(.type "code"), .none, (.fields #[(.str "distance" 452), (.str "distance" 453), (.str "/claim/cut.py" 454), (.int 139 0), (.int 3 0), (.int 0 0), (.int 0 0), (.int 3 0), (.ref 196), (.bool .true), (.int 181 0), (.ref 197), .none, (.ref 198), (.ref 199), (.ref 200), (.int 458 0), (.int 139 0), (.str "/claim/cut.py" 459)]), #[]⟩
noncomputable abbrev o246s : { o : Obj // o = fnO 28 (.type "function") "distance" 3 (.str "gmp.logic" 331) (.ref 201) } := by walk_at "lit"
noncomputable abbrev o246 : Params → Obj := fun _ => o246s.1
noncomputable abbrev o247 : Params → Obj := fun P => ⟨(.type "tuple"), .none, (.seq #[] 0), #[]⟩
noncomputable abbrev o248 : Params → Obj := fun P => ⟨.none, .none, (.fields #[]), #[]⟩
noncomputable abbrev o249 : Params → Obj := fun P => ⟨(.type "tuple"), .none, (.seq #[(.str "x" 464), (.str "start" 465), (.str "wanted" 466), (.str "w" 467), (.str "size" 468), (.str "row" 469), (.str "at" 470), (.str "goes_on" 471)] 0), #[]⟩
noncomputable abbrev o250 : Params → Obj := fun P => ⟨(.type "tuple"), .none, (.seq #[] 0), #[]⟩
noncomputable abbrev o251s : { o : Obj // o = fnO 29 .none "scan_for" 0 .none .none } := by walk_at "lit"
noncomputable abbrev o251 : Params → Obj := fun _ => o251s.1
noncomputable abbrev o252 : Params → Obj := fun P => ⟨(.type "code"), .none, (.fields #[(.str "scan_for" 461), (.str "scan_for" 462), (.str "/claim/cut.py" 463), (.int 143 0), (.int 4 0), (.int 0 0), (.int 0 0), (.int 3 0), (.ref 203), (.bool .true), (.int 181 0), (.ref 204), .none, (.ref 205), (.ref 206), (.ref 207), (.int 472 0), (.int 143 0), (.str "/claim/cut.py" 473)]), #[]⟩
noncomputable abbrev o253s : { o : Obj // o = fnO 29 (.type "function") "scan_for" 3 (.str "gmp.logic" 331) (.ref 208) } := by walk_at "lit"
noncomputable abbrev o253 : Params → Obj := fun _ => o253s.1
noncomputable abbrev o254 : Params → Obj := fun P => ⟨(.type "tuple"), .none, (.seq #[] 0), #[]⟩
noncomputable abbrev o255 : Params → Obj := fun P => ⟨.none, .none, (.fields #[]), #[]⟩
noncomputable abbrev o256 : Params → Obj := fun P => ⟨(.type "tuple"), .none, (.seq #[(.str "x" 478), (.str "start" 479), (.str "w" 480)] 0), #[]⟩
noncomputable abbrev o257 : Params → Obj := fun P => ⟨(.type "tuple"), .none, (.seq #[] 0), #[]⟩
noncomputable abbrev o258s : { o : Obj // o = fnO 30 .none "scan_one" 0 .none .none } := by walk_at "lit"
noncomputable abbrev o258 : Params → Obj := fun _ => o258s.1
noncomputable abbrev o259 : Params → Obj := fun P => ⟨(.type "code"), .none, (.fields #[(.str "scan_one" 475), (.str "scan_one" 476), (.str "/claim/cut.py" 477), (.int 151 0), (.int 3 0), (.int 0 0), (.int 0 0), (.int 3 0), (.ref 210), (.bool .true), (.int 181 0), (.ref 211), .none, (.ref 212), (.ref 213), (.ref 214), (.int 481 0), (.int 151 0), (.str "/claim/cut.py" 482)]), #[]⟩
noncomputable abbrev o260s : { o : Obj // o = fnO 30 (.type "function") "scan_one" 3 (.str "gmp.logic" 331) (.ref 215) } := by walk_at "lit"
noncomputable abbrev o260 : Params → Obj := fun _ => o260s.1
noncomputable abbrev o261 : Params → Obj := fun P => ⟨(.type "tuple"), .none, (.seq #[] 0), #[]⟩
noncomputable abbrev o262 : Params → Obj := fun P => ⟨.none, .none, (.fields #[]), #[]⟩
noncomputable abbrev o263 : Params → Obj := fun P => ⟨(.type "tuple"), .none, (.seq #[(.str "x" 487), (.str "start" 488), (.str "w" 489)] 0), #[]⟩
noncomputable abbrev o264 : Params → Obj := fun P => ⟨(.type "tuple"), .none, (.seq #[] 0), #[]⟩
noncomputable abbrev o265s : { o : Obj // o = fnO 31 .none "scan_zero" 0 .none .none } := by walk_at "lit"
noncomputable abbrev o265 : Params → Obj := fun _ => o265s.1
noncomputable abbrev o266 : Params → Obj := fun P => ⟨(.type "code"), .none, (.fields #[(.str "scan_zero" 484), (.str "scan_zero" 485), (.str "/claim/cut.py" 486), (.int 153 0), (.int 3 0), (.int 0 0), (.int 0 0), (.int 3 0), (.ref 217), (.bool .true), (.int 181 0), (.ref 218), .none, (.ref 219), (.ref 220), (.ref 221), (.int 490 0), (.int 153 0), (.str "/claim/cut.py" 491)]), #[]⟩
noncomputable abbrev o267s : { o : Obj // o = fnO 31 (.type "function") "scan_zero" 3 (.str "gmp.logic" 331) (.ref 222) } := by walk_at "lit"
noncomputable abbrev o267 : Params → Obj := fun _ => o267s.1
noncomputable abbrev o268 : Params → Obj := fun P => ⟨(.type "tuple"), .none, (.seq #[] 0), #[]⟩
noncomputable abbrev o269 : Params → Obj := fun P => ⟨.none, .none, (.fields #[]), #[]⟩
noncomputable abbrev o270 : Params → Obj := fun P => ⟨(.type "tuple"), .none, (.seq #[(.str "is_below" 498), (.str "nat" 499)] 0), #[]⟩
noncomputable abbrev o271 : Params → Obj := fun P => ⟨(.type "tuple"), .none, (.seq #[] 0), #[]⟩
noncomputable abbrev o272s : { o : Obj // o = fnO 33 .none "signed" 0 .none .none } := by walk_at "lit"
noncomputable abbrev o272 : Params → Obj := fun _ => o272s.1
noncomputable abbrev o273 : Params → Obj := fun P => ⟨(.type "code"), .none, (.fields #[(.str "signed" 495), (.str "signed" 496), (.str "/claim/cut.py" 497), (.int 156 0), (.int 2 0), (.int 0 0), (.int 0 0), (.int 3 0), (.ref 224), (.bool .true), (.int 181 0), (.ref 225), .none, (.ref 226), (.ref 227), (.ref 228), (.int 500 0), (.int 156 0), (.str "/claim/cut.py" 501)]), #[]⟩
noncomputable abbrev o274s : { o : Obj // o = fnO 33 (.type "function") "signed" 3 (.str "gmp.signed" 493) (.ref 229) } := by walk_at "lit"
noncomputable abbrev o274 : Params → Obj := fun _ => o274s.1
noncomputable abbrev o275 : Params → Obj := fun P => ⟨(.type "dict"), .none, (.dict #[⟨PyData.keyHash P "__name__", (.str "__name__" 165), (.str "law_sj0080_01" 513)⟩, ⟨PyData.keyHash P "__doc__", (.str "__doc__" 166), .none⟩, ⟨PyData.keyHash P "__package__", (.str "__package__" 167), .none⟩, ⟨PyData.keyHash P "__loader__", (.str "__loader__" 168), (.builtin "__main__.__loader__#opaque")⟩, ⟨PyData.keyHash P "__spec__", (.str "__spec__" 169), .none⟩, ⟨PyData.keyHash P "__annotations__", (.str "__annotations__" 170), (.ref 6)⟩, ⟨PyData.keyHash P "__builtins__", (.str "__builtins__" 171), (.ref 4)⟩, ⟨PyData.keyHash P "__file__", (.str "__file__" 173), (.str "/claim/cut.py" 172)⟩, ⟨PyData.keyHash P "__cached__", (.str "__cached__" 174), .none⟩, ⟨PyData.keyHash P "GmpError", (.str "GmpError" 208), (.ref 24)⟩, ⟨PyData.keyHash P "OutOfRange", (.str "OutOfRange" 224), (.ref 37)⟩, ⟨PyData.keyHash P "normal", (.str "normal" 232), (.ref 46)⟩, ⟨PyData.keyHash P "compare", (.str "compare" 241), (.ref 53)⟩, ⟨PyData.keyHash P "add", (.str "add" 254), (.ref 60)⟩, ⟨PyData.keyHash P "sub", (.str "sub" 268), (.ref 67)⟩, ⟨PyData.keyHash P "add_limb", (.str "add_limb" 280), (.ref 74)⟩, ⟨PyData.keyHash P "shift_left", (.str "shift_left" 295), (.ref 81)⟩, ⟨PyData.keyHash P "shift_right", (.str "shift_right" 310), (.ref 88)⟩, ⟨PyData.keyHash P "bit", (.str "bit" 319), (.ref 95)⟩, ⟨PyData.keyHash P "low", (.str "low" 330), (.ref 102)⟩, ⟨PyData.keyHash P "row_of", (.str "row_of" 338), (.ref 107)⟩, ⟨PyData.keyHash P "number_of", (.str "number_of" 344), (.ref 112)⟩, ⟨PyData.keyHash P "joint_size", (.str "joint_size" 352), (.ref 119)⟩, ⟨PyData.keyHash P "s_and", (.str "s_and" 358), (.ref 124)⟩, ⟨PyData.keyHash P "s_or", (.str "s_or" 364), (.ref 129)⟩, ⟨PyData.keyHash P "s_xor", (.str "s_xor" 370), (.ref 134)⟩, ⟨PyData.keyHash P "s_not", (.str "s_not" 380), (.ref 141)⟩, ⟨PyData.keyHash P "s_bit", (.str "s_bit" 391), (.ref 148)⟩, ⟨PyData.keyHash P "one_at", (.str "one_at" 399), (.ref 155)⟩, ⟨PyData.keyHash P "set_bit", (.str "set_bit" 410), (.ref 162)⟩, ⟨PyData.keyHash P "clear_bit", (.str "clear_bit" 421), (.ref 169)⟩, ⟨PyData.keyHash P "flip_bit", (.str "flip_bit" 430), (.ref 176)⟩, ⟨PyData.keyHash P "limb_ones", (.str "limb_ones" 438), (.ref 183)⟩, ⟨PyData.keyHash P "nat_ones", (.str "nat_ones" 444), (.ref 188)⟩, ⟨PyData.keyHash P "count_ones", (.str "count_ones" 451), (.ref 195)⟩, ⟨PyData.keyHash P "distance", (.str "distance" 460), (.ref 202)⟩, ⟨PyData.keyHash P "scan_for", (.str "scan_for" 474), (.ref 209)⟩, ⟨PyData.keyHash P "scan_one", (.str "scan_one" 483), (.ref 216)⟩, ⟨PyData.keyHash P "scan_zero", (.str "scan_zero" 492), (.ref 223)⟩, ⟨PyData.keyHash P "signed", (.str "signed" 502), (.ref 230)⟩, ⟨PyData.keyHash P "s_shift", (.str "s_shift" 512), (.ref 237)⟩, ⟨PyData.keyHash P "_law_beaded", (.str "_law_beaded" 522), (.ref 244)⟩, ⟨PyData.keyHash P "_law_number", (.str "_law_number" 528), (.ref 249)⟩, ⟨PyData.keyHash P "_law_has", (.str "_law_has" 536), (.ref 256)⟩, ⟨PyData.keyHash P "_law_next", (.str "_law_next" 546), (.ref 263)⟩, ⟨PyData.keyHash P "_law_joined", (.str "_law_joined" 552), (.ref 268)⟩, ⟨PyData.keyHash P "_law_due", (.str "_law_due" 558), (.ref 273)⟩, ⟨PyData.keyHash P "_law_done", (.str "_law_done" 570), (.ref 280)⟩, ⟨PyData.keyHash P "_law_told_right", (.str "_law_told_right" 580), (.ref 287)⟩, ⟨PyData.keyHash P "law", (.str "law" 586), (.ref 292)⟩] 50), #[]⟩
noncomputable abbrev o276 : Params → Obj := fun P => ⟨.none, .none, (.fields #[(.int 2 0), (.int 0 0), (.ref 20), (.int 4 0), (.int 0 0), (.ref 33), (.int 6 0), (.int 0 0), (.ref 45), (.int 11 0), (.int 0 0), (.ref 52), (.int 18 0), (.int 0 0), (.ref 59), (.int 33 0), (.int 0 0), (.ref 66), (.int 42 0), (.int 0 0), (.ref 73), (.int 51 0), (.int 0 0), (.ref 80), (.int 63 0), (.int 0 0), (.ref 87), (.int 70 0), (.int 0 0), (.ref 94), (.int 72 0), (.int 0 0), (.ref 101), (.int 78 0), (.int 0 0), (.ref 106), (.int 85 0), (.int 0 0), (.ref 111), (.int 90 0), (.int 0 0), (.ref 118), (.int 92 0), (.int 0 0), (.ref 123), (.int 95 0), (.int 0 0), (.ref 128), (.int 98 0), (.int 0 0), (.ref 133), (.int 101 0), (.int 0 0), (.ref 140), (.int 106 0), (.int 0 0), (.ref 147), (.int 111 0), (.int 0 0), (.ref 154), (.int 113 0), (.int 0 0), (.ref 161), (.int 120 0), (.int 0 0), (.ref 168), (.int 127 0), (.int 0 0), (.ref 175), (.int 129 0), (.int 0 0), (.ref 182), (.int 135 0), (.int 0 0), (.ref 187), (.int 137 0), (.int 0 0), (.ref 194), (.int 139 0), (.int 0 0), (.ref 201), (.int 143 0), (.int 0 0), (.ref 208), (.int 151 0), (.int 0 0), (.ref 215), (.int 153 0), (.int 0 0), (.ref 222), (.int 156 0), (.int 0 0), (.ref 229), (.int 158 0), (.int 0 0), (.ref 236), (.int 166 0), (.int 0 0), (.ref 243), (.int 171 0), (.int 0 0), (.ref 248), (.int 178 0), (.int 0 0), (.ref 255), (.int 180 0), (.int 0 0), (.ref 262), (.int 185 0), (.int 0 0), (.ref 267), (.int 193 0), (.int 0 0), (.ref 272), (.int 205 0), (.int 0 0), (.ref 279), (.int 212 0), (.int 0 0), (.ref 286), (.int 220 0), (.int 0 0), (.ref 291)]), #[]⟩
noncomputable abbrev o277 : Params → Obj := fun P => ⟨(.type "tuple"), .none, (.seq #[] 0), #[]⟩
noncomputable abbrev o278 : Params → Obj := fun P => ⟨.none, .none, (.fields #[]), #[]⟩
noncomputable abbrev o279 : Params → Obj := fun P => ⟨(.type "tuple"), .none, (.seq #[(.str "x" 506), (.str "n" 507), (.str "w" 508), (.str "found" 509)] 0), #[]⟩
noncomputable abbrev o280 : Params → Obj := fun P => ⟨(.type "tuple"), .none, (.seq #[] 0), #[]⟩
noncomputable abbrev o281s : { o : Obj // o = fnO 34 .none "s_shift" 0 .none .none } := by walk_at "lit"
noncomputable abbrev o281 : Params → Obj := fun _ => o281s.1
noncomputable abbrev o282 : Params → Obj := fun P => ⟨(.type "code"), .none, (.fields #[(.str "s_shift" 503), (.str "s_shift" 504), (.str "/claim/cut.py" 505), (.int 158 0), (.int 3 0), (.int 0 0), (.int 0 0), (.int 3 0), (.ref 231), (.bool .true), (.int 181 0), (.ref 232), .none, (.ref 233), (.ref 234), (.ref 235), (.int 510 0), (.int 158 0), (.str "/claim/cut.py" 511)]), #[]⟩
noncomputable abbrev o283s : { o : Obj // o = fnO 34 (.type "function") "s_shift" 3 (.str "gmp.signed" 493) (.ref 236) } := by walk_at "lit"
noncomputable abbrev o283 : Params → Obj := fun _ => o283s.1
noncomputable abbrev o284 : Params → Obj := fun P => ⟨(.type "tuple"), .none, (.seq #[] 0), #[]⟩
noncomputable abbrev o285 : Params → Obj := fun P => ⟨.none, .none, (.fields #[]), #[]⟩
noncomputable abbrev o286 : Params → Obj := fun P => ⟨(.type "tuple"), .none, (.seq #[(.str "cord" 518), (.str "many" 519)] 0), #[]⟩
noncomputable abbrev o287 : Params → Obj := fun P => ⟨(.type "tuple"), .none, (.seq #[] 0), #[]⟩
noncomputable abbrev o288s : { o : Obj // o = fnO 36 .none "_law_beaded" 0 .none .none } := by walk_at "lit"
noncomputable abbrev o288 : Params → Obj := fun _ => o288s.1
noncomputable abbrev o289 : Params → Obj := fun P => ⟨(.type "code"), .none, (.fields #[(.str "_law_beaded" 515), (.str "_law_beaded" 516), (.str "/claim/cut.py" 517), (.int 166 0), (.int 2 0), (.int 0 0), (.int 0 0), (.int 3 0), (.ref 238), (.bool .true), (.int 181 0), (.ref 239), .none, (.ref 240), (.ref 241), (.ref 242), (.int 520 0), (.int 166 0), (.str "/claim/cut.py" 521)]), #[]⟩
noncomputable abbrev o290s : { o : Obj // o = fnO 36 (.type "function") "_law_beaded" 3 (.str "law_sj0080_01" 513) (.ref 243) } := by walk_at "lit"
noncomputable abbrev o290 : Params → Obj := fun _ => o290s.1
noncomputable abbrev o291 : Params → Obj := fun P => ⟨(.type "tuple"), .none, (.seq #[] 0), #[]⟩
noncomputable abbrev o292 : Params → Obj := fun P => ⟨.none, .none, (.fields #[]), #[]⟩
noncomputable abbrev o293s : { o : Obj // o = fnO 37 .none "_law_number" 0 .none .none } := by walk_at "lit"
noncomputable abbrev o293 : Params → Obj := fun _ => o293s.1
noncomputable abbrev o294 : Params → Obj := fun P => ⟨(.type "code"), .none, (.fields #[(.str "_law_number" 523), (.str "_law_number" 524), (.str "/claim/cut.py" 525), (.int 171 0), (.int 2 0), (.int 0 0), (.int 0 0), (.int 3 0), (.ref 245), (.bool .true), (.int 181 0), (.ref 246), .none, .none, .none, (.ref 247), (.int 526 0), (.int 171 0), (.str "/claim/cut.py" 527)]), #[]⟩
noncomputable abbrev o295s : { o : Obj // o = fnO 37 (.type "function") "_law_number" 3 (.str "law_sj0080_01" 513) (.ref 248) } := by walk_at "lit"
noncomputable abbrev o295 : Params → Obj := fun _ => o295s.1
noncomputable abbrev o296 : Params → Obj := fun P => ⟨(.type "tuple"), .none, (.seq #[] 0), #[]⟩
noncomputable abbrev o297 : Params → Obj := fun P => ⟨.none, .none, (.fields #[]), #[]⟩
noncomputable abbrev o298 : Params → Obj := fun P => ⟨(.type "tuple"), .none, (.seq #[(.str "told" 532), (.str "place" 533)] 0), #[]⟩
noncomputable abbrev o299 : Params → Obj := fun P => ⟨(.type "tuple"), .none, (.seq #[] 0), #[]⟩
noncomputable abbrev o300s : { o : Obj // o = fnO 38 .none "_law_has" 0 .none .none } := by walk_at "lit"
noncomputable abbrev o300 : Params → Obj := fun _ => o300s.1
noncomputable abbrev o301 : Params → Obj := fun P => ⟨(.type "code"), .none, (.fields #[(.str "_law_has" 529), (.str "_law_has" 530), (.str "/claim/cut.py" 531), (.int 178 0), (.int 2 0), (.int 0 0), (.int 0 0), (.int 3 0), (.ref 250), (.bool .true), (.int 181 0), (.ref 251), .none, (.ref 252), (.ref 253), (.ref 254), (.int 534 0), (.int 178 0), (.str "/claim/cut.py" 535)]), #[]⟩
noncomputable abbrev o302s : { o : Obj // o = fnO 38 (.type "function") "_law_has" 3 (.str "law_sj0080_01" 513) (.ref 255) } := by walk_at "lit"
noncomputable abbrev o302 : Params → Obj := fun _ => o302s.1
noncomputable abbrev o303 : Params → Obj := fun P => ⟨(.type "tuple"), .none, (.seq #[] 0), #[]⟩
noncomputable abbrev o304 : Params → Obj := fun P => ⟨.none, .none, (.fields #[]), #[]⟩
noncomputable abbrev o305 : Params → Obj := fun P => ⟨(.type "tuple"), .none, (.seq #[(.str "told" 540), (.str "start" 541), (.str "is_in" 542), (.str "place" 543)] 0), #[]⟩
noncomputable abbrev o306 : Params → Obj := fun P => ⟨(.type "tuple"), .none, (.seq #[] 0), #[]⟩
noncomputable abbrev o307s : { o : Obj // o = fnO 39 .none "_law_next" 0 .none .none } := by walk_at "lit"
noncomputable abbrev o307 : Params → Obj := fun _ => o307s.1
noncomputable abbrev o308 : Params → Obj := fun P => ⟨(.type "code"), .none, (.fields #[(.str "_law_next" 537), (.str "_law_next" 538), (.str "/claim/cut.py" 539), (.int 180 0), (.int 3 0), (.int 0 0), (.int 0 0), (.int 3 0), (.ref 257), (.bool .true), (.int 181 0), (.ref 258), .none, (.ref 259), (.ref 260), (.ref 261), (.int 544 0), (.int 180 0), (.str "/claim/cut.py" 545)]), #[]⟩
noncomputable abbrev o309s : { o : Obj // o = fnO 39 (.type "function") "_law_next" 3 (.str "law_sj0080_01" 513) (.ref 262) } := by walk_at "lit"
noncomputable abbrev o309 : Params → Obj := fun _ => o309s.1
noncomputable abbrev o310 : Params → Obj := fun P => ⟨(.type "tuple"), .none, (.seq #[] 0), #[]⟩
noncomputable abbrev o311 : Params → Obj := fun P => ⟨.none, .none, (.fields #[]), #[]⟩
noncomputable abbrev o312s : { o : Obj // o = fnO 40 .none "_law_joined" 0 .none .none } := by walk_at "lit"
noncomputable abbrev o312 : Params → Obj := fun _ => o312s.1
noncomputable abbrev o313 : Params → Obj := fun P => ⟨(.type "code"), .none, (.fields #[(.str "_law_joined" 547), (.str "_law_joined" 548), (.str "/claim/cut.py" 549), (.int 185 0), (.int 3 0), (.int 0 0), (.int 0 0), (.int 3 0), (.ref 264), (.bool .true), (.int 181 0), (.ref 265), .none, .none, .none, (.ref 266), (.int 550 0), (.int 185 0), (.str "/claim/cut.py" 551)]), #[]⟩
noncomputable abbrev o314s : { o : Obj // o = fnO 40 (.type "function") "_law_joined" 3 (.str "law_sj0080_01" 513) (.ref 267) } := by walk_at "lit"
noncomputable abbrev o314 : Params → Obj := fun _ => o314s.1
noncomputable abbrev o315 : Params → Obj := fun P => ⟨(.type "tuple"), .none, (.seq #[] 0), #[]⟩
noncomputable abbrev o316 : Params → Obj := fun P => ⟨.none, .none, (.fields #[]), #[]⟩
noncomputable abbrev o317s : { o : Obj // o = fnO 41 .none "_law_due" 0 .none .none } := by walk_at "lit"
noncomputable abbrev o317 : Params → Obj := fun _ => o317s.1
noncomputable abbrev o318 : Params → Obj := fun P => ⟨(.type "code"), .none, (.fields #[(.str "_law_due" 553), (.str "_law_due" 554), (.str "/claim/cut.py" 555), (.int 193 0), (.int 2 0), (.int 0 0), (.int 0 0), (.int 3 0), (.ref 269), (.bool .true), (.int 181 0), (.ref 270), .none, .none, .none, (.ref 271), (.int 556 0), (.int 193 0), (.str "/claim/cut.py" 557)]), #[]⟩
noncomputable abbrev o319s : { o : Obj // o = fnO 41 (.type "function") "_law_due" 3 (.str "law_sj0080_01" 513) (.ref 272) } := by walk_at "lit"
noncomputable abbrev o319 : Params → Obj := fun _ => o319s.1
noncomputable abbrev o320 : Params → Obj := fun P => ⟨(.type "tuple"), .none, (.seq #[] 0), #[]⟩
noncomputable abbrev o321 : Params → Obj := fun P => ⟨.none, .none, (.fields #[]), #[]⟩
noncomputable abbrev o322 : Params → Obj := fun P => ⟨(.type "tuple"), .none, (.seq #[(.str "deed" 562), (.str "x" 563), (.str "w" 564), (.str "form" 565), (.str "number" 566), (.str "moment" 567)] 0), #[]⟩
noncomputable abbrev o323 : Params → Obj := fun P => ⟨(.type "tuple"), .none, (.seq #[] 0), #[]⟩
noncomputable abbrev o324s : { o : Obj // o = fnO 42 .none "_law_done" 0 .none .none } := by walk_at "lit"
noncomputable abbrev o324 : Params → Obj := fun _ => o324s.1
noncomputable abbrev o325 : Params → Obj := fun P => ⟨(.type "code"), .none, (.fields #[(.str "_law_done" 559), (.str "_law_done" 560), (.str "/claim/cut.py" 561), (.int 205 0), (.int 3 0), (.int 0 0), (.int 0 0), (.int 3 0), (.ref 274), (.bool .true), (.int 181 0), (.ref 275), .none, (.ref 276), (.ref 277), (.ref 278), (.int 568 0), (.int 205 0), (.str "/claim/cut.py" 569)]), #[]⟩
noncomputable abbrev o326s : { o : Obj // o = fnO 42 (.type "function") "_law_done" 3 (.str "law_sj0080_01" 513) (.ref 279) } := by walk_at "lit"
noncomputable abbrev o326 : Params → Obj := fun _ => o326s.1
noncomputable abbrev o327 : Params → Obj := fun P => ⟨(.type "tuple"), .none, (.seq #[] 0), #[]⟩
noncomputable abbrev o328 : Params → Obj := fun P => ⟨.none, .none, (.fields #[]), #[]⟩
noncomputable abbrev o329 : Params → Obj := fun P => ⟨(.type "tuple"), .none, (.seq #[(.str "x" 574), (.str "told" 575), (.str "place" 576), (.str "w" 577)] 0), #[]⟩
noncomputable abbrev o330 : Params → Obj := fun P => ⟨(.type "tuple"), .none, (.seq #[] 0), #[]⟩
noncomputable abbrev o331s : { o : Obj // o = fnO 43 .none "_law_told_right" 0 .none .none } := by walk_at "lit"
noncomputable abbrev o331 : Params → Obj := fun _ => o331s.1
noncomputable abbrev o332 : Params → Obj := fun P => ⟨(.type "code"), .none, (.fields #[(.str "_law_told_right" 571), (.str "_law_told_right" 572), (.str "/claim/cut.py" 573), (.int 212 0), (.int 4 0), (.int 0 0), (.int 0 0), (.int 3 0), (.ref 281), (.bool .true), (.int 181 0), (.ref 282), .none, (.ref 283), (.ref 284), (.ref 285), (.int 578 0), (.int 212 0), (.str "/claim/cut.py" 579)]), #[]⟩
noncomputable abbrev o333s : { o : Obj // o = fnO 43 (.type "function") "_law_told_right" 3 (.str "law_sj0080_01" 513) (.ref 286) } := by walk_at "lit"
noncomputable abbrev o333 : Params → Obj := fun _ => o333s.1
noncomputable abbrev o334 : Params → Obj := fun P => ⟨(.type "tuple"), .none, (.seq #[] 0), #[]⟩
noncomputable abbrev o335 : Params → Obj := fun P => ⟨.none, .none, (.fields #[]), #[]⟩
noncomputable abbrev o336s : { o : Obj // o = fnO 44 .none "law" 0 .none .none } := by walk_at "lit"
noncomputable abbrev o336 : Params → Obj := fun _ => o336s.1
noncomputable abbrev o337 : Params → Obj := fun P => ⟨(.type "code"), .none, (.fields #[(.str "law" 581), (.str "law" 582), (.str "/claim/cut.py" 583), (.int 220 0), (.int 1 0), (.int 0 0), (.int 0 0), (.int 3 0), (.ref 288), (.bool .true), (.int 181 0), (.ref 289), .none, .none, .none, (.ref 290), (.int 584 0), (.int 220 0), (.str "/claim/cut.py" 585)]), #[]⟩
noncomputable abbrev o338s : { o : Obj // o = fnO 44 (.type "function") "law" 3 (.str "law_sj0080_01" 513) (.ref 291) } := by walk_at "lit"
noncomputable abbrev o338 : Params → Obj := fun _ => o338s.1
noncomputable abbrev nd (o : Obj) (l r : BT) : BT := .node o l r
noncomputable abbrev tree47 : Params → BT := fun P => (BT.node (boot_o_0 P) (BT.node (boot_o_1 P) (BT.node (boot_o_3 P) (BT.node (boot_o_7 P) BT.nil BT.nil) (BT.node (o43 P) BT.nil BT.nil)) (BT.node (boot_o_5 P) (BT.node (boot_o_9 P) BT.nil BT.nil) (BT.node (o45 P) BT.nil BT.nil))) (BT.node (boot_o_2 P) (BT.node (boot_o_4 P) (BT.node (boot_o_8 P) BT.nil BT.nil) (BT.node (o44 P) BT.nil BT.nil)) (BT.node (boot_o_6 P) (BT.node (boot_o_10 P) BT.nil BT.nil) (BT.node (o46 P) BT.nil BT.nil))))
noncomputable abbrev tree64 : Params → BT := fun P => (BT.node (boot_o_0 P) (BT.node (boot_o_1 P) (BT.node (o50 P) (BT.node (boot_o_7 P) (BT.node (o52 P) BT.nil BT.nil) (BT.node (o60 P) BT.nil BT.nil)) (BT.node (o43 P) (BT.node (o56 P) BT.nil BT.nil) (BT.node (o64 P) BT.nil BT.nil))) (BT.node (boot_o_5 P) (BT.node (boot_o_9 P) (BT.node (o54 P) BT.nil BT.nil) (BT.node (o62 P) BT.nil BT.nil)) (BT.node (o45 P) (BT.node (o58 P) BT.nil BT.nil) BT.nil))) (BT.node (o49 P) (BT.node (boot_o_4 P) (BT.node (boot_o_8 P) (BT.node (o53 P) BT.nil BT.nil) (BT.node (o61 P) BT.nil BT.nil)) (BT.node (o51 P) (BT.node (o57 P) BT.nil BT.nil) BT.nil)) (BT.node (boot_o_6 P) (BT.node (boot_o_10 P) (BT.node (o55 P) BT.nil BT.nil) (BT.node (o63 P) BT.nil BT.nil)) (BT.node (o46 P) (BT.node (o59 P) BT.nil BT.nil) BT.nil))))
noncomputable abbrev tree114 : Params → BT := fun P => (BT.node (boot_o_0 P) (BT.node (boot_o_1 P) (BT.node (o65 P) (BT.node (boot_o_7 P) (BT.node (o52 P) (BT.node (o71 P) (BT.node (o103 P) BT.nil BT.nil) BT.nil) (BT.node (o87 P) BT.nil BT.nil)) (BT.node (o60 P) (BT.node (o79 P) (BT.node (o111 P) BT.nil BT.nil) BT.nil) (BT.node (o95 P) BT.nil BT.nil))) (BT.node (o43 P) (BT.node (o56 P) (BT.node (o75 P) (BT.node (o107 P) BT.nil BT.nil) BT.nil) (BT.node (o91 P) BT.nil BT.nil)) (BT.node (o64 P) (BT.node (o83 P) BT.nil BT.nil) (BT.node (o99 P) BT.nil BT.nil)))) (BT.node (boot_o_5 P) (BT.node (boot_o_9 P) (BT.node (o54 P) (BT.node (o73 P) (BT.node (o105 P) BT.nil BT.nil) BT.nil) (BT.node (o89 P) BT.nil BT.nil)) (BT.node (o62 P) (BT.node (o81 P) (BT.node (o113 P) BT.nil BT.nil) BT.nil) (BT.node (o97 P) BT.nil BT.nil))) (BT.node (o45 P) (BT.node (o58 P) (BT.node (o77 P) (BT.node (o109 P) BT.nil BT.nil) BT.nil) (BT.node (o93 P) BT.nil BT.nil)) (BT.node (o69 P) (BT.node (o85 P) BT.nil BT.nil) (BT.node (o101 P) BT.nil BT.nil))))) (BT.node (o49 P) (BT.node (boot_o_4 P) (BT.node (boot_o_8 P) (BT.node (o53 P) (BT.node (o72 P) (BT.node (o104 P) BT.nil BT.nil) BT.nil) (BT.node (o88 P) BT.nil BT.nil)) (BT.node (o67 P) (BT.node (o80 P) (BT.node (o112 P) BT.nil BT.nil) BT.nil) (BT.node (o96 P) BT.nil BT.nil))) (BT.node (o66 P) (BT.node (o57 P) (BT.node (o76 P) (BT.node (o108 P) BT.nil BT.nil) BT.nil) (BT.node (o92 P) BT.nil BT.nil)) (BT.node (o68 P) (BT.node (o84 P) BT.nil BT.nil) (BT.node (o100 P) BT.nil BT.nil)))) (BT.node (boot_o_6 P) (BT.node (boot_o_10 P) (BT.node (o55 P) (BT.node (o74 P) (BT.node (o106 P) BT.nil BT.nil) BT.nil) (BT.node (o90 P) BT.nil BT.nil)) (BT.node (o63 P) (BT.node (o82 P) (BT.node (o114 P) BT.nil BT.nil) BT.nil) (BT.node (o98 P) BT.nil BT.nil))) (BT.node (o46 P) (BT.node (o59 P) (BT.node (o78 P) (BT.node (o110 P) BT.nil BT.nil) BT.nil) (BT.node (o94 P) BT.nil BT.nil)) (BT.node (o70 P) (BT.node (o86 P) BT.nil BT.nil) (BT.node (o102 P) BT.nil BT.nil))))))
noncomputable abbrev tree190 : Params → BT := fun P => (BT.node (boot_o_0 P) (BT.node (boot_o_1 P) (BT.node (o115 P) (BT.node (boot_o_7 P) (BT.node (o52 P) (BT.node (o71 P) (BT.node (o103 P) (BT.node (o169 P) BT.nil BT.nil) BT.nil) (BT.node (o137 P) BT.nil BT.nil)) (BT.node (o87 P) (BT.node (o121 P) (BT.node (o185 P) BT.nil BT.nil) BT.nil) (BT.node (o153 P) BT.nil BT.nil))) (BT.node (o60 P) (BT.node (o79 P) (BT.node (o111 P) (BT.node (o177 P) BT.nil BT.nil) BT.nil) (BT.node (o145 P) BT.nil BT.nil)) (BT.node (o95 P) (BT.node (o129 P) BT.nil BT.nil) (BT.node (o161 P) BT.nil BT.nil)))) (BT.node (o43 P) (BT.node (o56 P) (BT.node (o75 P) (BT.node (o107 P) (BT.node (o173 P) BT.nil BT.nil) BT.nil) (BT.node (o141 P) BT.nil BT.nil)) (BT.node (o91 P) (BT.node (o125 P) (BT.node (o189 P) BT.nil BT.nil) BT.nil) (BT.node (o157 P) BT.nil BT.nil))) (BT.node (o64 P) (BT.node (o83 P) (BT.node (o117 P) (BT.node (o181 P) BT.nil BT.nil) BT.nil) (BT.node (o149 P) BT.nil BT.nil)) (BT.node (o99 P) (BT.node (o133 P) BT.nil BT.nil) (BT.node (o165 P) BT.nil BT.nil))))) (BT.node (boot_o_5 P) (BT.node (boot_o_9 P) (BT.node (o54 P) (BT.node (o73 P) (BT.node (o105 P) (BT.node (o171 P) BT.nil BT.nil) BT.nil) (BT.node (o139 P) BT.nil BT.nil)) (BT.node (o89 P) (BT.node (o123 P) (BT.node (o187 P) BT.nil BT.nil) BT.nil) (BT.node (o155 P) BT.nil BT.nil))) (BT.node (o62 P) (BT.node (o81 P) (BT.node (o113 P) (BT.node (o179 P) BT.nil BT.nil) BT.nil) (BT.node (o147 P) BT.nil BT.nil)) (BT.node (o97 P) (BT.node (o131 P) BT.nil BT.nil) (BT.node (o163 P) BT.nil BT.nil)))) (BT.node (o45 P) (BT.node (o58 P) (BT.node (o77 P) (BT.node (o109 P) (BT.node (o175 P) BT.nil BT.nil) BT.nil) (BT.node (o143 P) BT.nil BT.nil)) (BT.node (o93 P) (BT.node (o127 P) BT.nil BT.nil) (BT.node (o159 P) BT.nil BT.nil))) (BT.node (o69 P) (BT.node (o85 P) (BT.node (o119 P) (BT.node (o183 P) BT.nil BT.nil) BT.nil) (BT.node (o151 P) BT.nil BT.nil)) (BT.node (o101 P) (BT.node (o135 P) BT.nil BT.nil) (BT.node (o167 P) BT.nil BT.nil)))))) (BT.node (o49 P) (BT.node (boot_o_4 P) (BT.node (boot_o_8 P) (BT.node (o53 P) (BT.node (o72 P) (BT.node (o104 P) (BT.node (o170 P) BT.nil BT.nil) BT.nil) (BT.node (o138 P) BT.nil BT.nil)) (BT.node (o88 P) (BT.node (o122 P) (BT.node (o186 P) BT.nil BT.nil) BT.nil) (BT.node (o154 P) BT.nil BT.nil))) (BT.node (o67 P) (BT.node (o80 P) (BT.node (o112 P) (BT.node (o178 P) BT.nil BT.nil) BT.nil) (BT.node (o146 P) BT.nil BT.nil)) (BT.node (o96 P) (BT.node (o130 P) BT.nil BT.nil) (BT.node (o162 P) BT.nil BT.nil)))) (BT.node (o116 P) (BT.node (o57 P) (BT.node (o76 P) (BT.node (o108 P) (BT.node (o174 P) BT.nil BT.nil) BT.nil) (BT.node (o142 P) BT.nil BT.nil)) (BT.node (o92 P) (BT.node (o126 P) (BT.node (o190 P) BT.nil BT.nil) BT.nil) (BT.node (o158 P) BT.nil BT.nil))) (BT.node (o68 P) (BT.node (o84 P) (BT.node (o118 P) (BT.node (o182 P) BT.nil BT.nil) BT.nil) (BT.node (o150 P) BT.nil BT.nil)) (BT.node (o100 P) (BT.node (o134 P) BT.nil BT.nil) (BT.node (o166 P) BT.nil BT.nil))))) (BT.node (boot_o_6 P) (BT.node (boot_o_10 P) (BT.node (o55 P) (BT.node (o74 P) (BT.node (o106 P) (BT.node (o172 P) BT.nil BT.nil) BT.nil) (BT.node (o140 P) BT.nil BT.nil)) (BT.node (o90 P) (BT.node (o124 P) (BT.node (o188 P) BT.nil BT.nil) BT.nil) (BT.node (o156 P) BT.nil BT.nil))) (BT.node (o63 P) (BT.node (o82 P) (BT.node (o114 P) (BT.node (o180 P) BT.nil BT.nil) BT.nil) (BT.node (o148 P) BT.nil BT.nil)) (BT.node (o98 P) (BT.node (o132 P) BT.nil BT.nil) (BT.node (o164 P) BT.nil BT.nil)))) (BT.node (o46 P) (BT.node (o59 P) (BT.node (o78 P) (BT.node (o110 P) (BT.node (o176 P) BT.nil BT.nil) BT.nil) (BT.node (o144 P) BT.nil BT.nil)) (BT.node (o94 P) (BT.node (o128 P) BT.nil BT.nil) (BT.node (o160 P) BT.nil BT.nil))) (BT.node (o70 P) (BT.node (o86 P) (BT.node (o120 P) (BT.node (o184 P) BT.nil BT.nil) BT.nil) (BT.node (o152 P) BT.nil BT.nil)) (BT.node (o102 P) (BT.node (o136 P) BT.nil BT.nil) (BT.node (o168 P) BT.nil BT.nil)))))))
noncomputable abbrev tree274 : Params → BT := fun P => (BT.node (boot_o_0 P) (BT.node (boot_o_1 P) (BT.node (o191 P) (BT.node (boot_o_7 P) (BT.node (o52 P) (BT.node (o71 P) (BT.node (o103 P) (BT.node (o169 P) BT.nil BT.nil) (BT.node (o235 P) BT.nil BT.nil)) (BT.node (o137 P) (BT.node (o203 P) BT.nil BT.nil) (BT.node (o267 P) BT.nil BT.nil))) (BT.node (o87 P) (BT.node (o121 P) (BT.node (o185 P) BT.nil BT.nil) (BT.node (o251 P) BT.nil BT.nil)) (BT.node (o153 P) (BT.node (o219 P) BT.nil BT.nil) BT.nil))) (BT.node (o60 P) (BT.node (o79 P) (BT.node (o111 P) (BT.node (o177 P) BT.nil BT.nil) (BT.node (o243 P) BT.nil BT.nil)) (BT.node (o145 P) (BT.node (o211 P) BT.nil BT.nil) BT.nil)) (BT.node (o95 P) (BT.node (o129 P) (BT.node (o195 P) BT.nil BT.nil) (BT.node (o259 P) BT.nil BT.nil)) (BT.node (o161 P) (BT.node (o227 P) BT.nil BT.nil) BT.nil)))) (BT.node (o43 P) (BT.node (o56 P) (BT.node (o75 P) (BT.node (o107 P) (BT.node (o173 P) BT.nil BT.nil) (BT.node (o239 P) BT.nil BT.nil)) (BT.node (o141 P) (BT.node (o207 P) BT.nil BT.nil) (BT.node (o271 P) BT.nil BT.nil))) (BT.node (o91 P) (BT.node (o125 P) (BT.node (o189 P) BT.nil BT.nil) (BT.node (o255 P) BT.nil BT.nil)) (BT.node (o157 P) (BT.node (o223 P) BT.nil BT.nil) BT.nil))) (BT.node (o64 P) (BT.node (o83 P) (BT.node (o117 P) (BT.node (o181 P) BT.nil BT.nil) (BT.node (o247 P) BT.nil BT.nil)) (BT.node (o149 P) (BT.node (o215 P) BT.nil BT.nil) BT.nil)) (BT.node (o99 P) (BT.node (o133 P) (BT.node (o199 P) BT.nil BT.nil) (BT.node (o263 P) BT.nil BT.nil)) (BT.node (o165 P) (BT.node (o231 P) BT.nil BT.nil) BT.nil))))) (BT.node (boot_o_5 P) (BT.node (boot_o_9 P) (BT.node (o54 P) (BT.node (o73 P) (BT.node (o105 P) (BT.node (o171 P) BT.nil BT.nil) (BT.node (o237 P) BT.nil BT.nil)) (BT.node (o139 P) (BT.node (o205 P) BT.nil BT.nil) (BT.node (o269 P) BT.nil BT.nil))) (BT.node (o89 P) (BT.node (o123 P) (BT.node (o187 P) BT.nil BT.nil) (BT.node (o253 P) BT.nil BT.nil)) (BT.node (o155 P) (BT.node (o221 P) BT.nil BT.nil) BT.nil))) (BT.node (o62 P) (BT.node (o81 P) (BT.node (o113 P) (BT.node (o179 P) BT.nil BT.nil) (BT.node (o245 P) BT.nil BT.nil)) (BT.node (o147 P) (BT.node (o213 P) BT.nil BT.nil) BT.nil)) (BT.node (o97 P) (BT.node (o131 P) (BT.node (o197 P) BT.nil BT.nil) (BT.node (o261 P) BT.nil BT.nil)) (BT.node (o163 P) (BT.node (o229 P) BT.nil BT.nil) BT.nil)))) (BT.node (o45 P) (BT.node (o58 P) (BT.node (o77 P) (BT.node (o109 P) (BT.node (o175 P) BT.nil BT.nil) (BT.node (o241 P) BT.nil BT.nil)) (BT.node (o143 P) (BT.node (o209 P) BT.nil BT.nil) (BT.node (o273 P) BT.nil BT.nil))) (BT.node (o93 P) (BT.node (o127 P) (BT.node (o193 P) BT.nil BT.nil) (BT.node (o257 P) BT.nil BT.nil)) (BT.node (o159 P) (BT.node (o225 P) BT.nil BT.nil) BT.nil))) (BT.node (o69 P) (BT.node (o85 P) (BT.node (o119 P) (BT.node (o183 P) BT.nil BT.nil) (BT.node (o249 P) BT.nil BT.nil)) (BT.node (o151 P) (BT.node (o217 P) BT.nil BT.nil) BT.nil)) (BT.node (o101 P) (BT.node (o135 P) (BT.node (o201 P) BT.nil BT.nil) (BT.node (o265 P) BT.nil BT.nil)) (BT.node (o167 P) (BT.node (o233 P) BT.nil BT.nil) BT.nil)))))) (BT.node (o49 P) (BT.node (boot_o_4 P) (BT.node (boot_o_8 P) (BT.node (o53 P) (BT.node (o72 P) (BT.node (o104 P) (BT.node (o170 P) BT.nil BT.nil) (BT.node (o236 P) BT.nil BT.nil)) (BT.node (o138 P) (BT.node (o204 P) BT.nil BT.nil) (BT.node (o268 P) BT.nil BT.nil))) (BT.node (o88 P) (BT.node (o122 P) (BT.node (o186 P) BT.nil BT.nil) (BT.node (o252 P) BT.nil BT.nil)) (BT.node (o154 P) (BT.node (o220 P) BT.nil BT.nil) BT.nil))) (BT.node (o67 P) (BT.node (o80 P) (BT.node (o112 P) (BT.node (o178 P) BT.nil BT.nil) (BT.node (o244 P) BT.nil BT.nil)) (BT.node (o146 P) (BT.node (o212 P) BT.nil BT.nil) BT.nil)) (BT.node (o96 P) (BT.node (o130 P) (BT.node (o196 P) BT.nil BT.nil) (BT.node (o260 P) BT.nil BT.nil)) (BT.node (o162 P) (BT.node (o228 P) BT.nil BT.nil) BT.nil)))) (BT.node (o192 P) (BT.node (o57 P) (BT.node (o76 P) (BT.node (o108 P) (BT.node (o174 P) BT.nil BT.nil) (BT.node (o240 P) BT.nil BT.nil)) (BT.node (o142 P) (BT.node (o208 P) BT.nil BT.nil) (BT.node (o272 P) BT.nil BT.nil))) (BT.node (o92 P) (BT.node (o126 P) (BT.node (o190 P) BT.nil BT.nil) (BT.node (o256 P) BT.nil BT.nil)) (BT.node (o158 P) (BT.node (o224 P) BT.nil BT.nil) BT.nil))) (BT.node (o68 P) (BT.node (o84 P) (BT.node (o118 P) (BT.node (o182 P) BT.nil BT.nil) (BT.node (o248 P) BT.nil BT.nil)) (BT.node (o150 P) (BT.node (o216 P) BT.nil BT.nil) BT.nil)) (BT.node (o100 P) (BT.node (o134 P) (BT.node (o200 P) BT.nil BT.nil) (BT.node (o264 P) BT.nil BT.nil)) (BT.node (o166 P) (BT.node (o232 P) BT.nil BT.nil) BT.nil))))) (BT.node (boot_o_6 P) (BT.node (boot_o_10 P) (BT.node (o55 P) (BT.node (o74 P) (BT.node (o106 P) (BT.node (o172 P) BT.nil BT.nil) (BT.node (o238 P) BT.nil BT.nil)) (BT.node (o140 P) (BT.node (o206 P) BT.nil BT.nil) (BT.node (o270 P) BT.nil BT.nil))) (BT.node (o90 P) (BT.node (o124 P) (BT.node (o188 P) BT.nil BT.nil) (BT.node (o254 P) BT.nil BT.nil)) (BT.node (o156 P) (BT.node (o222 P) BT.nil BT.nil) BT.nil))) (BT.node (o63 P) (BT.node (o82 P) (BT.node (o114 P) (BT.node (o180 P) BT.nil BT.nil) (BT.node (o246 P) BT.nil BT.nil)) (BT.node (o148 P) (BT.node (o214 P) BT.nil BT.nil) BT.nil)) (BT.node (o98 P) (BT.node (o132 P) (BT.node (o198 P) BT.nil BT.nil) (BT.node (o262 P) BT.nil BT.nil)) (BT.node (o164 P) (BT.node (o230 P) BT.nil BT.nil) BT.nil)))) (BT.node (o46 P) (BT.node (o59 P) (BT.node (o78 P) (BT.node (o110 P) (BT.node (o176 P) BT.nil BT.nil) (BT.node (o242 P) BT.nil BT.nil)) (BT.node (o144 P) (BT.node (o210 P) BT.nil BT.nil) (BT.node (o274 P) BT.nil BT.nil))) (BT.node (o94 P) (BT.node (o128 P) (BT.node (o194 P) BT.nil BT.nil) (BT.node (o258 P) BT.nil BT.nil)) (BT.node (o160 P) (BT.node (o226 P) BT.nil BT.nil) BT.nil))) (BT.node (o70 P) (BT.node (o86 P) (BT.node (o120 P) (BT.node (o184 P) BT.nil BT.nil) (BT.node (o250 P) BT.nil BT.nil)) (BT.node (o152 P) (BT.node (o218 P) BT.nil BT.nil) BT.nil)) (BT.node (o102 P) (BT.node (o136 P) (BT.node (o202 P) BT.nil BT.nil) (BT.node (o266 P) BT.nil BT.nil)) (BT.node (o168 P) (BT.node (o234 P) BT.nil BT.nil) BT.nil)))))))
noncomputable abbrev tree338 : Params → BT := fun P => (BT.node (boot_o_0 P) (BT.node (boot_o_1 P) (BT.node (o275 P) (BT.node (boot_o_7 P) (BT.node (o52 P) (BT.node (o71 P) (BT.node (o103 P) (BT.node (o169 P) (BT.node (o301 P) BT.nil BT.nil) BT.nil) (BT.node (o235 P) BT.nil BT.nil)) (BT.node (o137 P) (BT.node (o203 P) (BT.node (o333 P) BT.nil BT.nil) BT.nil) (BT.node (o267 P) BT.nil BT.nil))) (BT.node (o87 P) (BT.node (o121 P) (BT.node (o185 P) (BT.node (o317 P) BT.nil BT.nil) BT.nil) (BT.node (o251 P) BT.nil BT.nil)) (BT.node (o153 P) (BT.node (o219 P) BT.nil BT.nil) (BT.node (o285 P) BT.nil BT.nil)))) (BT.node (o60 P) (BT.node (o79 P) (BT.node (o111 P) (BT.node (o177 P) (BT.node (o309 P) BT.nil BT.nil) BT.nil) (BT.node (o243 P) BT.nil BT.nil)) (BT.node (o145 P) (BT.node (o211 P) BT.nil BT.nil) (BT.node (o277 P) BT.nil BT.nil))) (BT.node (o95 P) (BT.node (o129 P) (BT.node (o195 P) (BT.node (o325 P) BT.nil BT.nil) BT.nil) (BT.node (o259 P) BT.nil BT.nil)) (BT.node (o161 P) (BT.node (o227 P) BT.nil BT.nil) (BT.node (o293 P) BT.nil BT.nil))))) (BT.node (o43 P) (BT.node (o56 P) (BT.node (o75 P) (BT.node (o107 P) (BT.node (o173 P) (BT.node (o305 P) BT.nil BT.nil) BT.nil) (BT.node (o239 P) BT.nil BT.nil)) (BT.node (o141 P) (BT.node (o207 P) (BT.node (o337 P) BT.nil BT.nil) BT.nil) (BT.node (o271 P) BT.nil BT.nil))) (BT.node (o91 P) (BT.node (o125 P) (BT.node (o189 P) (BT.node (o321 P) BT.nil BT.nil) BT.nil) (BT.node (o255 P) BT.nil BT.nil)) (BT.node (o157 P) (BT.node (o223 P) BT.nil BT.nil) (BT.node (o289 P) BT.nil BT.nil)))) (BT.node (o64 P) (BT.node (o83 P) (BT.node (o117 P) (BT.node (o181 P) (BT.node (o313 P) BT.nil BT.nil) BT.nil) (BT.node (o247 P) BT.nil BT.nil)) (BT.node (o149 P) (BT.node (o215 P) BT.nil BT.nil) (BT.node (o281 P) BT.nil BT.nil))) (BT.node (o99 P) (BT.node (o133 P) (BT.node (o199 P) (BT.node (o329 P) BT.nil BT.nil) BT.nil) (BT.node (o263 P) BT.nil BT.nil)) (BT.node (o165 P) (BT.node (o231 P) BT.nil BT.nil) (BT.node (o297 P) BT.nil BT.nil)))))) (BT.node (boot_o_5 P) (BT.node (boot_o_9 P) (BT.node (o54 P) (BT.node (o73 P) (BT.node (o105 P) (BT.node (o171 P) (BT.node (o303 P) BT.nil BT.nil) BT.nil) (BT.node (o237 P) BT.nil BT.nil)) (BT.node (o139 P) (BT.node (o205 P) (BT.node (o335 P) BT.nil BT.nil) BT.nil) (BT.node (o269 P) BT.nil BT.nil))) (BT.node (o89 P) (BT.node (o123 P) (BT.node (o187 P) (BT.node (o319 P) BT.nil BT.nil) BT.nil) (BT.node (o253 P) BT.nil BT.nil)) (BT.node (o155 P) (BT.node (o221 P) BT.nil BT.nil) (BT.node (o287 P) BT.nil BT.nil)))) (BT.node (o62 P) (BT.node (o81 P) (BT.node (o113 P) (BT.node (o179 P) (BT.node (o311 P) BT.nil BT.nil) BT.nil) (BT.node (o245 P) BT.nil BT.nil)) (BT.node (o147 P) (BT.node (o213 P) BT.nil BT.nil) (BT.node (o279 P) BT.nil BT.nil))) (BT.node (o97 P) (BT.node (o131 P) (BT.node (o197 P) (BT.node (o327 P) BT.nil BT.nil) BT.nil) (BT.node (o261 P) BT.nil BT.nil)) (BT.node (o163 P) (BT.node (o229 P) BT.nil BT.nil) (BT.node (o295 P) BT.nil BT.nil))))) (BT.node (o45 P) (BT.node (o58 P) (BT.node (o77 P) (BT.node (o109 P) (BT.node (o175 P) (BT.node (o307 P) BT.nil BT.nil) BT.nil) (BT.node (o241 P) BT.nil BT.nil)) (BT.node (o143 P) (BT.node (o209 P) BT.nil BT.nil) (BT.node (o273 P) BT.nil BT.nil))) (BT.node (o93 P) (BT.node (o127 P) (BT.node (o193 P) (BT.node (o323 P) BT.nil BT.nil) BT.nil) (BT.node (o257 P) BT.nil BT.nil)) (BT.node (o159 P) (BT.node (o225 P) BT.nil BT.nil) (BT.node (o291 P) BT.nil BT.nil)))) (BT.node (o69 P) (BT.node (o85 P) (BT.node (o119 P) (BT.node (o183 P) (BT.node (o315 P) BT.nil BT.nil) BT.nil) (BT.node (o249 P) BT.nil BT.nil)) (BT.node (o151 P) (BT.node (o217 P) BT.nil BT.nil) (BT.node (o283 P) BT.nil BT.nil))) (BT.node (o101 P) (BT.node (o135 P) (BT.node (o201 P) (BT.node (o331 P) BT.nil BT.nil) BT.nil) (BT.node (o265 P) BT.nil BT.nil)) (BT.node (o167 P) (BT.node (o233 P) BT.nil BT.nil) (BT.node (o299 P) BT.nil BT.nil))))))) (BT.node (o49 P) (BT.node (boot_o_4 P) (BT.node (boot_o_8 P) (BT.node (o53 P) (BT.node (o72 P) (BT.node (o104 P) (BT.node (o170 P) (BT.node (o302 P) BT.nil BT.nil) BT.nil) (BT.node (o236 P) BT.nil BT.nil)) (BT.node (o138 P) (BT.node (o204 P) (BT.node (o334 P) BT.nil BT.nil) BT.nil) (BT.node (o268 P) BT.nil BT.nil))) (BT.node (o88 P) (BT.node (o122 P) (BT.node (o186 P) (BT.node (o318 P) BT.nil BT.nil) BT.nil) (BT.node (o252 P) BT.nil BT.nil)) (BT.node (o154 P) (BT.node (o220 P) BT.nil BT.nil) (BT.node (o286 P) BT.nil BT.nil)))) (BT.node (o67 P) (BT.node (o80 P) (BT.node (o112 P) (BT.node (o178 P) (BT.node (o310 P) BT.nil BT.nil) BT.nil) (BT.node (o244 P) BT.nil BT.nil)) (BT.node (o146 P) (BT.node (o212 P) BT.nil BT.nil) (BT.node (o278 P) BT.nil BT.nil))) (BT.node (o96 P) (BT.node (o130 P) (BT.node (o196 P) (BT.node (o326 P) BT.nil BT.nil) BT.nil) (BT.node (o260 P) BT.nil BT.nil)) (BT.node (o162 P) (BT.node (o228 P) BT.nil BT.nil) (BT.node (o294 P) BT.nil BT.nil))))) (BT.node (o276 P) (BT.node (o57 P) (BT.node (o76 P) (BT.node (o108 P) (BT.node (o174 P) (BT.node (o306 P) BT.nil BT.nil) BT.nil) (BT.node (o240 P) BT.nil BT.nil)) (BT.node (o142 P) (BT.node (o208 P) (BT.node (o338 P) BT.nil BT.nil) BT.nil) (BT.node (o272 P) BT.nil BT.nil))) (BT.node (o92 P) (BT.node (o126 P) (BT.node (o190 P) (BT.node (o322 P) BT.nil BT.nil) BT.nil) (BT.node (o256 P) BT.nil BT.nil)) (BT.node (o158 P) (BT.node (o224 P) BT.nil BT.nil) (BT.node (o290 P) BT.nil BT.nil)))) (BT.node (o68 P) (BT.node (o84 P) (BT.node (o118 P) (BT.node (o182 P) (BT.node (o314 P) BT.nil BT.nil) BT.nil) (BT.node (o248 P) BT.nil BT.nil)) (BT.node (o150 P) (BT.node (o216 P) BT.nil BT.nil) (BT.node (o282 P) BT.nil BT.nil))) (BT.node (o100 P) (BT.node (o134 P) (BT.node (o200 P) (BT.node (o330 P) BT.nil BT.nil) BT.nil) (BT.node (o264 P) BT.nil BT.nil)) (BT.node (o166 P) (BT.node (o232 P) BT.nil BT.nil) (BT.node (o298 P) BT.nil BT.nil)))))) (BT.node (boot_o_6 P) (BT.node (boot_o_10 P) (BT.node (o55 P) (BT.node (o74 P) (BT.node (o106 P) (BT.node (o172 P) (BT.node (o304 P) BT.nil BT.nil) BT.nil) (BT.node (o238 P) BT.nil BT.nil)) (BT.node (o140 P) (BT.node (o206 P) (BT.node (o336 P) BT.nil BT.nil) BT.nil) (BT.node (o270 P) BT.nil BT.nil))) (BT.node (o90 P) (BT.node (o124 P) (BT.node (o188 P) (BT.node (o320 P) BT.nil BT.nil) BT.nil) (BT.node (o254 P) BT.nil BT.nil)) (BT.node (o156 P) (BT.node (o222 P) BT.nil BT.nil) (BT.node (o288 P) BT.nil BT.nil)))) (BT.node (o63 P) (BT.node (o82 P) (BT.node (o114 P) (BT.node (o180 P) (BT.node (o312 P) BT.nil BT.nil) BT.nil) (BT.node (o246 P) BT.nil BT.nil)) (BT.node (o148 P) (BT.node (o214 P) BT.nil BT.nil) (BT.node (o280 P) BT.nil BT.nil))) (BT.node (o98 P) (BT.node (o132 P) (BT.node (o198 P) (BT.node (o328 P) BT.nil BT.nil) BT.nil) (BT.node (o262 P) BT.nil BT.nil)) (BT.node (o164 P) (BT.node (o230 P) BT.nil BT.nil) (BT.node (o296 P) BT.nil BT.nil))))) (BT.node (o46 P) (BT.node (o59 P) (BT.node (o78 P) (BT.node (o110 P) (BT.node (o176 P) (BT.node (o308 P) BT.nil BT.nil) BT.nil) (BT.node (o242 P) BT.nil BT.nil)) (BT.node (o144 P) (BT.node (o210 P) BT.nil BT.nil) (BT.node (o274 P) BT.nil BT.nil))) (BT.node (o94 P) (BT.node (o128 P) (BT.node (o194 P) (BT.node (o324 P) BT.nil BT.nil) BT.nil) (BT.node (o258 P) BT.nil BT.nil)) (BT.node (o160 P) (BT.node (o226 P) BT.nil BT.nil) (BT.node (o292 P) BT.nil BT.nil)))) (BT.node (o70 P) (BT.node (o86 P) (BT.node (o120 P) (BT.node (o184 P) (BT.node (o316 P) BT.nil BT.nil) BT.nil) (BT.node (o250 P) BT.nil BT.nil)) (BT.node (o152 P) (BT.node (o218 P) BT.nil BT.nil) (BT.node (o284 P) BT.nil BT.nil))) (BT.node (o102 P) (BT.node (o136 P) (BT.node (o202 P) (BT.node (o332 P) BT.nil BT.nil) BT.nil) (BT.node (o266 P) BT.nil BT.nil)) (BT.node (o168 P) (BT.node (o234 P) BT.nil BT.nil) (BT.node (o300 P) BT.nil BT.nil))))))))
noncomputable abbrev heap46 : Params → Heap := fun P => ⟨⟨boot_o_0 P :: boot_o_1 P :: boot_o_2 P :: boot_o_3 P :: boot_o_4 P :: boot_o_5 P :: boot_o_6 P :: boot_o_7 P :: boot_o_8 P :: boot_o_9 P :: boot_o_10 P :: o43 P :: o44 P :: o45 P :: o46 P :: []⟩, {}⟩
noncomputable abbrev heap339 : Params → Heap := fun P => ⟨⟨boot_o_0 P :: boot_o_1 P :: o49 P :: o275 P :: boot_o_4 P :: boot_o_5 P :: boot_o_6 P :: boot_o_7 P :: boot_o_8 P :: boot_o_9 P :: boot_o_10 P :: o43 P :: o276 P :: o45 P :: o46 P :: o52 P :: o53 P :: o54 P :: o55 P :: o56 P :: o57 P :: o58 P :: o59 P :: o60 P :: o67 P :: o62 P :: o63 P :: o64 P :: o68 P :: o69 P :: o70 P :: o71 P :: o72 P :: o73 P :: o74 P :: o75 P :: o76 P :: o77 P :: o78 P :: o79 P :: o80 P :: o81 P :: o82 P :: o83 P :: o84 P :: o85 P :: o86 P :: o87 P :: o88 P :: o89 P :: o90 P :: o91 P :: o92 P :: o93 P :: o94 P :: o95 P :: o96 P :: o97 P :: o98 P :: o99 P :: o100 P :: o101 P :: o102 P :: o103 P :: o104 P :: o105 P :: o106 P :: o107 P :: o108 P :: o109 P :: o110 P :: o111 P :: o112 P :: o113 P :: o114 P :: o117 P :: o118 P :: o119 P :: o120 P :: o121 P :: o122 P :: o123 P :: o124 P :: o125 P :: o126 P :: o127 P :: o128 P :: o129 P :: o130 P :: o131 P :: o132 P :: o133 P :: o134 P :: o135 P :: o136 P :: o137 P :: o138 P :: o139 P :: o140 P :: o141 P :: o142 P :: o143 P :: o144 P :: o145 P :: o146 P :: o147 P :: o148 P :: o149 P :: o150 P :: o151 P :: o152 P :: o153 P :: o154 P :: o155 P :: o156 P :: o157 P :: o158 P :: o159 P :: o160 P :: o161 P :: o162 P :: o163 P :: o164 P :: o165 P :: o166 P :: o167 P :: o168 P :: o169 P :: o170 P :: o171 P :: o172 P :: o173 P :: o174 P :: o175 P :: o176 P :: o177 P :: o178 P :: o179 P :: o180 P :: o181 P :: o182 P :: o183 P :: o184 P :: o185 P :: o186 P :: o187 P :: o188 P :: o189 P :: o190 P :: o193 P :: o194 P :: o195 P :: o196 P :: o197 P :: o198 P :: o199 P :: o200 P :: o201 P :: o202 P :: o203 P :: o204 P :: o205 P :: o206 P :: o207 P :: o208 P :: o209 P :: o210 P :: o211 P :: o212 P :: o213 P :: o214 P :: o215 P :: o216 P :: o217 P :: o218 P :: o219 P :: o220 P :: o221 P :: o222 P :: o223 P :: o224 P :: o225 P :: o226 P :: o227 P :: o228 P :: o229 P :: o230 P :: o231 P :: o232 P :: o233 P :: o234 P :: o235 P :: o236 P :: o237 P :: o238 P :: o239 P :: o240 P :: o241 P :: o242 P :: o243 P :: o244 P :: o245 P :: o246 P :: o247 P :: o248 P :: o249 P :: o250 P :: o251 P :: o252 P :: o253 P :: o254 P :: o255 P :: o256 P :: o257 P :: o258 P :: o259 P :: o260 P :: o261 P :: o262 P :: o263 P :: o264 P :: o265 P :: o266 P :: o267 P :: o268 P :: o269 P :: o270 P :: o271 P :: o272 P :: o273 P :: o274 P :: o277 P :: o278 P :: o279 P :: o280 P :: o281 P :: o282 P :: o283 P :: o284 P :: o285 P :: o286 P :: o287 P :: o288 P :: o289 P :: o290 P :: o291 P :: o292 P :: o293 P :: o294 P :: o295 P :: o296 P :: o297 P :: o298 P :: o299 P :: o300 P :: o301 P :: o302 P :: o303 P :: o304 P :: o305 P :: o306 P :: o307 P :: o308 P :: o309 P :: o310 P :: o311 P :: o312 P :: o313 P :: o314 P :: o315 P :: o316 P :: o317 P :: o318 P :: o319 P :: o320 P :: o321 P :: o322 P :: o323 P :: o324 P :: o325 P :: o326 P :: o327 P :: o328 P :: o329 P :: o330 P :: o331 P :: o332 P :: o333 P :: o334 P :: o335 P :: o336 P :: o337 P :: o338 P :: []⟩, {}⟩
noncomputable def hK : Params → Frag := fun P => (nat_lit 2, o49 P) :: (nat_lit 3, o275 P) :: (nat_lit 15, o52 P) :: (nat_lit 22, o59 P) :: (nat_lit 23, o60 P) :: (nat_lit 24, o67 P) :: (nat_lit 25, o62 P) :: (nat_lit 28, o68 P) :: (nat_lit 35, o75 P) :: (nat_lit 36, o76 P) :: (nat_lit 37, o77 P) :: (nat_lit 40, o80 P) :: (nat_lit 42, o82 P) :: (nat_lit 43, o83 P) :: (nat_lit 45, o85 P) :: (nat_lit 46, o86 P) :: (nat_lit 47, o87 P) :: (nat_lit 49, o89 P) :: (nat_lit 50, o90 P) :: (nat_lit 52, o92 P) :: (nat_lit 53, o93 P) :: (nat_lit 54, o94 P) :: (nat_lit 56, o96 P) :: (nat_lit 57, o97 P) :: (nat_lit 59, o99 P) :: (nat_lit 60, o100 P) :: (nat_lit 61, o101 P) :: (nat_lit 63, o103 P) :: (nat_lit 64, o104 P) :: (nat_lit 66, o106 P) :: (nat_lit 67, o107 P) :: (nat_lit 68, o108 P) :: (nat_lit 70, o110 P) :: (nat_lit 71, o111 P) :: (nat_lit 73, o113 P) :: (nat_lit 74, o114 P) :: (nat_lit 75, o117 P) :: (nat_lit 77, o119 P) :: (nat_lit 78, o120 P) :: (nat_lit 80, o122 P) :: (nat_lit 81, o123 P) :: (nat_lit 82, o124 P) :: (nat_lit 84, o126 P) :: (nat_lit 85, o127 P) :: (nat_lit 87, o129 P) :: (nat_lit 88, o130 P) :: (nat_lit 89, o131 P) :: (nat_lit 91, o133 P) :: (nat_lit 92, o134 P) :: (nat_lit 94, o136 P) :: (nat_lit 95, o137 P) :: (nat_lit 96, o138 P) :: (nat_lit 98, o140 P) :: (nat_lit 99, o141 P) :: (nat_lit 101, o143 P) :: (nat_lit 102, o144 P) :: (nat_lit 103, o145 P) :: (nat_lit 106, o148 P) :: (nat_lit 107, o149 P) :: (nat_lit 108, o150 P) :: (nat_lit 111, o153 P) :: (nat_lit 112, o154 P) :: (nat_lit 113, o155 P) :: (nat_lit 115, o157 P) :: (nat_lit 116, o158 P) :: (nat_lit 118, o160 P) :: (nat_lit 119, o161 P) :: (nat_lit 120, o162 P) :: (nat_lit 123, o165 P) :: (nat_lit 124, o166 P) :: (nat_lit 125, o167 P) :: (nat_lit 128, o170 P) :: (nat_lit 129, o171 P) :: (nat_lit 130, o172 P) :: (nat_lit 133, o175 P) :: (nat_lit 134, o176 P) :: (nat_lit 135, o177 P) :: (nat_lit 137, o179 P) :: (nat_lit 138, o180 P) :: (nat_lit 140, o182 P) :: (nat_lit 141, o183 P) :: (nat_lit 142, o184 P) :: (nat_lit 144, o186 P) :: (nat_lit 145, o187 P) :: (nat_lit 147, o189 P) :: (nat_lit 148, o190 P) :: (nat_lit 149, o193 P) :: (nat_lit 151, o195 P) :: (nat_lit 152, o196 P) :: (nat_lit 154, o198 P) :: (nat_lit 155, o199 P) :: (nat_lit 156, o200 P) :: (nat_lit 158, o202 P) :: (nat_lit 159, o203 P) :: (nat_lit 161, o205 P) :: (nat_lit 162, o206 P) :: (nat_lit 163, o207 P) :: (nat_lit 165, o209 P) :: (nat_lit 166, o210 P) :: (nat_lit 168, o212 P) :: (nat_lit 169, o213 P) :: (nat_lit 170, o214 P) :: (nat_lit 172, o216 P) :: (nat_lit 173, o217 P) :: (nat_lit 175, o219 P) :: (nat_lit 176, o220 P) :: (nat_lit 177, o221 P) :: (nat_lit 179, o223 P) :: (nat_lit 180, o224 P) :: (nat_lit 182, o226 P) :: (nat_lit 183, o227 P) :: (nat_lit 184, o228 P) :: (nat_lit 187, o231 P) :: (nat_lit 188, o232 P) :: (nat_lit 189, o233 P) :: (nat_lit 191, o235 P) :: (nat_lit 192, o236 P) :: (nat_lit 194, o238 P) :: (nat_lit 195, o239 P) :: (nat_lit 196, o240 P) :: (nat_lit 198, o242 P) :: (nat_lit 199, o243 P) :: (nat_lit 201, o245 P) :: (nat_lit 202, o246 P) :: (nat_lit 203, o247 P) :: (nat_lit 205, o249 P) :: (nat_lit 206, o250 P) :: (nat_lit 208, o252 P) :: (nat_lit 209, o253 P) :: (nat_lit 210, o254 P) :: (nat_lit 212, o256 P) :: (nat_lit 213, o257 P) :: (nat_lit 215, o259 P) :: (nat_lit 216, o260 P) :: (nat_lit 217, o261 P) :: (nat_lit 219, o263 P) :: (nat_lit 220, o264 P) :: (nat_lit 222, o266 P) :: (nat_lit 223, o267 P) :: (nat_lit 224, o268 P) :: (nat_lit 226, o270 P) :: (nat_lit 227, o271 P) :: (nat_lit 229, o273 P) :: (nat_lit 230, o274 P) :: (nat_lit 231, o277 P) :: (nat_lit 233, o279 P) :: (nat_lit 234, o280 P) :: (nat_lit 236, o282 P) :: (nat_lit 237, o283 P) :: (nat_lit 238, o284 P) :: (nat_lit 240, o286 P) :: (nat_lit 241, o287 P) :: (nat_lit 243, o289 P) :: (nat_lit 244, o290 P) :: (nat_lit 245, o291 P) :: (nat_lit 248, o294 P) :: (nat_lit 249, o295 P) :: (nat_lit 250, o296 P) :: (nat_lit 252, o298 P) :: (nat_lit 253, o299 P) :: (nat_lit 255, o301 P) :: (nat_lit 256, o302 P) :: (nat_lit 257, o303 P) :: (nat_lit 259, o305 P) :: (nat_lit 260, o306 P) :: (nat_lit 262, o308 P) :: (nat_lit 263, o309 P) :: (nat_lit 264, o310 P) :: (nat_lit 267, o313 P) :: (nat_lit 268, o314 P) :: (nat_lit 269, o315 P) :: (nat_lit 272, o318 P) :: (nat_lit 273, o319 P) :: (nat_lit 274, o320 P) :: (nat_lit 276, o322 P) :: (nat_lit 277, o323 P) :: (nat_lit 279, o325 P) :: (nat_lit 280, o326 P) :: (nat_lit 281, o327 P) :: (nat_lit 283, o329 P) :: (nat_lit 284, o330 P) :: (nat_lit 286, o332 P) :: (nat_lit 287, o333 P) :: (nat_lit 288, o334 P) :: (nat_lit 291, o337 P) :: (nat_lit 292, o338 P) :: []
noncomputable def kAs : List Addr := nat_lit 2 :: nat_lit 3 :: nat_lit 15 :: nat_lit 22 :: nat_lit 23 :: nat_lit 24 :: nat_lit 25 :: nat_lit 28 :: nat_lit 35 :: nat_lit 36 :: nat_lit 37 :: nat_lit 40 :: nat_lit 42 :: nat_lit 43 :: nat_lit 45 :: nat_lit 46 :: nat_lit 47 :: nat_lit 49 :: nat_lit 50 :: nat_lit 52 :: nat_lit 53 :: nat_lit 54 :: nat_lit 56 :: nat_lit 57 :: nat_lit 59 :: nat_lit 60 :: nat_lit 61 :: nat_lit 63 :: nat_lit 64 :: nat_lit 66 :: nat_lit 67 :: nat_lit 68 :: nat_lit 70 :: nat_lit 71 :: nat_lit 73 :: nat_lit 74 :: nat_lit 75 :: nat_lit 77 :: nat_lit 78 :: nat_lit 80 :: nat_lit 81 :: nat_lit 82 :: nat_lit 84 :: nat_lit 85 :: nat_lit 87 :: nat_lit 88 :: nat_lit 89 :: nat_lit 91 :: nat_lit 92 :: nat_lit 94 :: nat_lit 95 :: nat_lit 96 :: nat_lit 98 :: nat_lit 99 :: nat_lit 101 :: nat_lit 102 :: nat_lit 103 :: nat_lit 106 :: nat_lit 107 :: nat_lit 108 :: nat_lit 111 :: nat_lit 112 :: nat_lit 113 :: nat_lit 115 :: nat_lit 116 :: nat_lit 118 :: nat_lit 119 :: nat_lit 120 :: nat_lit 123 :: nat_lit 124 :: nat_lit 125 :: nat_lit 128 :: nat_lit 129 :: nat_lit 130 :: nat_lit 133 :: nat_lit 134 :: nat_lit 135 :: nat_lit 137 :: nat_lit 138 :: nat_lit 140 :: nat_lit 141 :: nat_lit 142 :: nat_lit 144 :: nat_lit 145 :: nat_lit 147 :: nat_lit 148 :: nat_lit 149 :: nat_lit 151 :: nat_lit 152 :: nat_lit 154 :: nat_lit 155 :: nat_lit 156 :: nat_lit 158 :: nat_lit 159 :: nat_lit 161 :: nat_lit 162 :: nat_lit 163 :: nat_lit 165 :: nat_lit 166 :: nat_lit 168 :: nat_lit 169 :: nat_lit 170 :: nat_lit 172 :: nat_lit 173 :: nat_lit 175 :: nat_lit 176 :: nat_lit 177 :: nat_lit 179 :: nat_lit 180 :: nat_lit 182 :: nat_lit 183 :: nat_lit 184 :: nat_lit 187 :: nat_lit 188 :: nat_lit 189 :: nat_lit 191 :: nat_lit 192 :: nat_lit 194 :: nat_lit 195 :: nat_lit 196 :: nat_lit 198 :: nat_lit 199 :: nat_lit 201 :: nat_lit 202 :: nat_lit 203 :: nat_lit 205 :: nat_lit 206 :: nat_lit 208 :: nat_lit 209 :: nat_lit 210 :: nat_lit 212 :: nat_lit 213 :: nat_lit 215 :: nat_lit 216 :: nat_lit 217 :: nat_lit 219 :: nat_lit 220 :: nat_lit 222 :: nat_lit 223 :: nat_lit 224 :: nat_lit 226 :: nat_lit 227 :: nat_lit 229 :: nat_lit 230 :: nat_lit 231 :: nat_lit 233 :: nat_lit 234 :: nat_lit 236 :: nat_lit 237 :: nat_lit 238 :: nat_lit 240 :: nat_lit 241 :: nat_lit 243 :: nat_lit 244 :: nat_lit 245 :: nat_lit 248 :: nat_lit 249 :: nat_lit 250 :: nat_lit 252 :: nat_lit 253 :: nat_lit 255 :: nat_lit 256 :: nat_lit 257 :: nat_lit 259 :: nat_lit 260 :: nat_lit 262 :: nat_lit 263 :: nat_lit 264 :: nat_lit 267 :: nat_lit 268 :: nat_lit 269 :: nat_lit 272 :: nat_lit 273 :: nat_lit 274 :: nat_lit 276 :: nat_lit 277 :: nat_lit 279 :: nat_lit 280 :: nat_lit 281 :: nat_lit 283 :: nat_lit 284 :: nat_lit 286 :: nat_lit 287 :: nat_lit 288 :: nat_lit 291 :: nat_lit 292 :: []
noncomputable abbrev env0 : Env := { scope := PR0.main.scope, locals := mainNs, globals := mainNs, cells := [], code := .ref 13, frame := some 14 }
noncomputable abbrev ann0 : Option Value := some (.ref 6)
noncomputable abbrev cd0 : Code := .body bd0 env0
noncomputable abbrev B0 : List Frame := [topFrame ⟨0, 0, 0, 0⟩]
noncomputable abbrev stT (t : Params → BT) (n k : Nat) (w : World) (os : OsState) : SharedT := ⟨t w.params, n, {}, ⟨[]⟩, {}, k, os⟩
noncomputable def sts0 : List Stmt := (bd0.drop 0).take 2
noncomputable def sts1 : List Stmt := (bd0.drop 2).take 6
noncomputable def sts2 : List Stmt := (bd0.drop 8).take 13
noncomputable def sts3 : List Stmt := (bd0.drop 21).take 13
noncomputable def sts4 : List Stmt := (bd0.drop 34).take 11
theorem segT {p : Program} {w : World} {n₀ : Nat} {ann : Option Value} {b N : Nat} {S : SharedT} {t : Thread} {r : Option (Flow × SharedT × Code × Pos)} (h : PySem.W.Fast.tw10110043849684766642 PySem.W.Fast.tw14364793385576792824 p w n₀ ann b N S t = r) : segRunT treeTable p w n₀ ann b N S t = r := by
  rw [PySem.W.Fast.te10110043849684766642, PySem.W.Fast.te14364793385576792824]
  exact h
theorem seg0 (w : World) (os : OsState) : segRunT treeTable PR0 w (nat_lit 11) ann0 (nat_lit 1) (nat_lit 206) (stT tree47 (nat_lit 15) (nat_lit 187) w os) (piecesOf sts0 env0 cd0 ⟨0, 0, 0, 0⟩ B0) = some (.next, stT tree64 (nat_lit 28) (nat_lit 209) w os, cd0, ⟨2, 0, 3, 8⟩) := segT (by kernel_rfl)
theorem seg1 (w : World) (os : OsState) : segRunT treeTable PR0 w (nat_lit 11) ann0 (nat_lit 1) (nat_lit 380) (stT tree64 (nat_lit 28) (nat_lit 209) w os) (piecesOf sts1 env0 cd0 ⟨2, 0, 3, 8⟩ B0) = some (.next, stT tree114 (nat_lit 75) (nat_lit 281) w os, cd0, ⟨42, 0, 50, 16⟩) := segT (by kernel_rfl)
theorem seg2 (w : World) (os : OsState) : segRunT treeTable PR0 w (nat_lit 11) ann0 (nat_lit 1) (nat_lit 373) (stT tree114 (nat_lit 75) (nat_lit 281) w os) (piecesOf sts2 env0 cd0 ⟨42, 0, 50, 16⟩ B0) = some (.next, stT tree190 (nat_lit 149) (nat_lit 392) w os, cd0, ⟨106, 0, 110, 42⟩) := segT (by kernel_rfl)
theorem seg3 (w : World) (os : OsState) : segRunT treeTable PR0 w (nat_lit 11) ann0 (nat_lit 1) (nat_lit 381) (stT tree190 (nat_lit 149) (nat_lit 392) w os) (piecesOf sts3 env0 cd0 ⟨106, 0, 110, 42⟩ B0) = some (.next, stT tree274 (nat_lit 231) (nat_lit 503) w os, cd0, ⟨156, 0, 157, 43⟩) := segT (by kernel_rfl)
theorem seg4 (w : World) (os : OsState) : segRunT treeTable PR0 w (nat_lit 11) ann0 (nat_lit 1) (nat_lit 304) (stT tree274 (nat_lit 231) (nat_lit 503) w os) (piecesOf sts4 env0 cd0 ⟨156, 0, 157, 43⟩ B0) = some (.next, stT tree338 (nat_lit 293) (nat_lit 587) w os, cd0, ⟨220, 0, 237, 97⟩) := segT (by kernel_rfl)
theorem pre0 (w : World) (os : OsState) : topGo treeTable PR0 w (nat_lit 11) ann0 (nat_lit 12) ⟨boot_heap w.params, ⟨[]⟩, boot_drawn, boot_toks, os⟩ (topStub PR0) = some (⟨heap46 w.params, ⟨[]⟩, {}, nat_lit 187, os⟩, ⟨denote treeTable cd0, cd0, ⟨0, 0, 0, 0⟩, B0⟩) := by kernel_rfl
theorem blk0 (w : World) (os : OsState) : segRun treeTable PR0 w (nat_lit 11) ann0 (nat_lit 1) (nat_lit 1) ⟨heap46 w.params, ⟨[]⟩, {}, nat_lit 187, os⟩ (blockOf bd0 env0 cd0 ⟨0, 0, 0, 0⟩ B0) = some (.next, (stT tree47 (nat_lit 15) (nat_lit 187) w os).abs, cd0, ⟨0, 0, 0, 0⟩) := by kernel_rfl
theorem fin0 (w : World) (os : OsState) : topRun treeTable PR0 w (nat_lit 11) ann0 (nat_lit 2) (stT tree338 (nat_lit 293) (nat_lit 587) w os).abs ⟨doneF .next, cd0, ⟨220, 0, 237, 97⟩, B0⟩ = some ⟨heap339 w.params, ⟨[]⟩, {}, nat_lit 587, os⟩ := by kernel_rfl
theorem bd0_eq : bd0 = sts0 ++ (sts1 ++ (sts2 ++ (sts3 ++ (sts4 ++ [])))) := by kernel_rfl
noncomputable abbrev M0 : Nat := Nat.add (nat_lit 12) (Nat.add (nat_lit 1) (Nat.add (nat_lit 206) (Nat.add (nat_lit 380) (Nat.add (nat_lit 373) (Nat.add (nat_lit 381) (Nat.add (nat_lit 304) (nat_lit 2)))))))
theorem run0 (w : World) (os : OsState) : topRun treeTable PR0 w (nat_lit 11) ann0 M0 ⟨boot_heap w.params, ⟨[]⟩, boot_drawn, boot_toks, os⟩ (topStub PR0) = some ⟨heap339 w.params, ⟨[]⟩, {}, nat_lit 587, os⟩ :=
  go_top (pre0 w os) (piece_block (blk0 w os) (bd0_eq.symm ▸ piece_app (segRun_of (seg0 w os)) (piece_app (segRun_of (seg1 w os)) (piece_app (segRun_of (seg2 w os)) (piece_app (segRun_of (seg3 w os)) (piece_app (segRun_of (seg4 w os)) (piece_nil (fin0 w os))))))))
theorem size0 (w : World) : ((boot_heap w.params).isNs mainGlobals && (⟨[]⟩ : Array GenState).size == 0, (boot_heap w.params).objs.size, (boot_heap w.params).nsMap mainGlobals "__annotations__") = (true, nat_lit 11, ann0) := by kernel_rfl
noncomputable abbrev q0 : Program := view PR0 [1, 2, 3, 4, 5, 6, 7, 8, 9, 10, 11, 13, 14, 15, 16, 17, 18, 19, 20, 21, 22, 23, 24, 25, 26, 27, 28, 29, 30, 31, 33, 34, 36, 37, 38, 39, 40, 41, 42, 43, 44]
noncomputable abbrev H0 : Hook := kmHook hK kAs (fun _ => by kernel_rfl) [265]
noncomputable abbrev Xt0 : Shared → Bool := fun s => xlAt q0 [] s && recOk (RowW.records RW0) s
theorem look1 (w : World) (os : OsState) : (staticsOk (importedModules PR0.main.body) (boot_heap w.params) (heap339 w.params) && namesBound PR0 (heap339 w.params) && gensDone ⟨heap339 w.params, ⟨[]⟩, {}, nat_lit 587, os⟩ && laidKept (boot_heap w.params) (heap339 w.params)) = true := by kernel_rfl
theorem look2 (w : World) (os : OsState) : openSeen q0 [] (importedModules PR0.main.body) Xt0 true ⟨heap339 w.params, ⟨[]⟩, {}, nat_lit 587, os⟩ = openGood q0 [] := by kernel_rfl
theorem look3 (w : World) (os : OsState) : H0.obs ⟨heap339 w.params, ⟨[]⟩, {}, nat_lit 587, os⟩ = H0.val w := by kernel_rfl
theorem left0 : LeftO PR0 q0 [] Xt0 H0.obs H0.val 3404 :=
  LeftO.of_pieces (H₀ := boot_heap) (H₁ := heap339) (gs₀ := ⟨[]⟩) (gs₁ := ⟨[]⟩) (d₀ := boot_drawn) (d₁ := {}) (k₀ := boot_toks) (k₁ := nat_lit 587) (m₀ := nat_lit 11) (ann := ann0) (M := M0)
    (boot_open (by kernel_rfl) (by decide) (fun s => by kernel_rfl)) size0 run0 (by decide +kernel) (fun w => funext fun os => by rw [look1 w os, look2 w os, look3 w os])
theorem said0 : PySem.Challenge.rw_sj0080_01.wellSaid = true := by
  rw [PySem.W.Fast.te9446332074065402090]
  kernel_rfl
end Mine
namespace Mine
open PySem PySem.W PyProof.Rows

def dg (W z : Int) (i : Nat) : Int := z / W ^ i % W
def row (W z : Int) (k : Nat) : List Int := (List.range k).map (dg W z)
def limbsF : Nat → Int → Int → List Int
  | 0, _, _ => []
  | f + 1, W, x => if x ≤ 0 then [] else x % W :: limbsF f W (x / W)
def limbs (W x : Int) : List Int := limbsF x.toNat W x

theorem powPos {W : Int} (hW : 2 ≤ W) (n : Nat) : 0 < W ^ n := Int.pow_pos (by omega)
theorem powSucc (W : Int) (n : Nat) : W ^ (n + 1) = W ^ n * W := Int.pow_succ W n

theorem row_length (W z : Int) (k : Nat) : (row W z k).length = k := by simp [row]
theorem row_zero (W z : Int) : row W z 0 = [] := rfl
theorem row_succ (W z : Int) (k : Nat) : row W z (k + 1) = row W z k ++ [dg W z k] := by simp [row, List.range_succ]
theorem row_getD (W z : Int) (k i : Nat) (h : i < k) : (row W z k).getD i 0 = dg W z i := by simp [row, h]
theorem row_get? (W z : Int) (k i : Nat) (h : i < k) : (row W z k)[i]? = some (dg W z i) := by simp [row, h]
theorem row_take (W z : Int) (k i : Nat) (h : i ≤ k) : (row W z k).take i = row W z i := by
  simp only [row, ← List.map_take, List.take_range]
  rw [Nat.min_eq_left h]

theorem dg_nonneg {W : Int} (hW : 2 ≤ W) (z : Int) (i : Nat) : 0 ≤ dg W z i := Int.emod_nonneg _ (by omega)
theorem dg_lt {W : Int} (hW : 2 ≤ W) (z : Int) (i : Nat) : dg W z i < W := Int.emod_lt_of_pos _ (by omega)

theorem emod_succ {W : Int} (hW : 2 ≤ W) (z : Int) (k : Nat) : z % W ^ (k + 1) = z % W ^ k + W ^ k * dg W z k := by
  have h1 : z % W ^ k + W ^ k * (z / W ^ k) = z := Int.emod_add_mul_ediv z (W ^ k)
  have h2 : (z / W ^ k) % W + W * (z / W ^ k / W) = z / W ^ k := Int.emod_add_mul_ediv _ _
  have hp := powPos hW k
  have b1 := Int.emod_nonneg z (show W ^ k ≠ 0 by omega)
  have b2 := Int.emod_lt_of_pos z hp
  have c1 := dg_nonneg hW z k
  have c2 := dg_lt hW z k
  have hp1 := powPos hW (k + 1)
  have key : z = (z % W ^ k + W ^ k * dg W z k) + W ^ (k + 1) * (z / W ^ k / W) := by
    unfold dg
    rw [powSucc, Int.mul_assoc, Int.add_assoc, ← Int.mul_add, h2, h1]
  have lt : z % W ^ k + W ^ k * dg W z k < W ^ (k + 1) := by
    rw [powSucc]
    have : W ^ k * dg W z k ≤ W ^ k * (W - 1) := Int.mul_le_mul_of_nonneg_left (by omega) (Int.le_of_lt hp)
    rw [Int.mul_sub, Int.mul_one] at this
    omega
  have ge : 0 ≤ z % W ^ k + W ^ k * dg W z k := by
    have : 0 ≤ W ^ k * dg W z k := Int.mul_nonneg (Int.le_of_lt hp) c1
    omega
  exact ((Int.ediv_emod_unique hp1).mpr ⟨key.symm, ge, lt⟩).2

theorem ediv_lt_iff {W : Int} {x : Int} (hW : 0 < W) (h0 : 0 ≤ x) : x / W = 0 ↔ x < W := by
  constructor
  · intro h
    have := Int.lt_mul_ediv_self_add (x := x) hW
    rw [h] at this; omega
  · intro h; exact Int.ediv_eq_zero_of_lt h0 h

structure IsLimbs (W x : Int) (l : List Int) : Prop where
  nonneg : 0 ≤ x
  eq : l = row W x l.length
  lt : x < W ^ l.length
  le : ∀ n, n < l.length → W ^ n ≤ x

theorem pow_le_pow {W : Int} (hW : 2 ≤ W) {a b : Nat} (h : a ≤ b) : W ^ a ≤ W ^ b := by
  obtain ⟨c, rfl⟩ := Nat.exists_eq_add_of_le h
  rw [Int.pow_add]
  have h1 := powPos hW a
  have h2 := powPos hW c
  have := Int.mul_le_mul_of_nonneg_left (show 1 ≤ W ^ c by omega) (Int.le_of_lt h1)
  omega

theorem IsLimbs.unique {W x : Int} {l l' : List Int} (a : IsLimbs W x l) (b : IsLimbs W x l') : l = l' := by
  have : l.length = l'.length := by
    rcases Nat.lt_trichotomy l.length l'.length with h | h | h
    · have := b.le _ h; have := a.lt; omega
    · exact h
    · have := a.le _ h; have := b.lt; omega
  rw [a.eq, b.eq, this]

theorem dg_zero (W z : Int) : dg W z 0 = z % W := by simp [dg]
theorem dg_succ {W : Int} (hW : 2 ≤ W) (z : Int) (i : Nat) : dg W z (i + 1) = dg W (z / W) i := by
  unfold dg
  rw [Int.pow_succ, Int.mul_comm, Int.ediv_ediv_of_nonneg (by omega)]
theorem row_cons {W : Int} (hW : 2 ≤ W) (z : Int) (k : Nat) : row W z (k + 1) = z % W :: row W (z / W) k := by
  simp only [row, List.range_succ_eq_map, List.map_cons, List.map_map, dg_zero]
  congr 1
  apply List.map_congr_left
  intro i _
  exact dg_succ hW z i

theorem limbsF_is {W : Int} (hW : 2 ≤ W) : ∀ (f : Nat) (x : Int), 0 ≤ x → x.toNat ≤ f → IsLimbs W x (limbsF f W x) := by
  intro f
  induction f with
  | zero =>
    intro x h0 hf
    have : x = 0 := by omega
    subst this
    exact ⟨h0, rfl, by simp [limbsF], fun n h => absurd h (Nat.not_lt_zero _)⟩
  | succ f ih =>
    intro x h0 hf
    unfold limbsF
    by_cases hx : x ≤ 0
    · rw [if_pos hx]
      have : x = 0 := by omega
      subst this
      exact ⟨h0, rfl, by simp, fun n h => absurd h (Nat.not_lt_zero _)⟩
    · rw [if_neg hx]
      have hlt : x / W < x := Int.ediv_lt_self_of_pos_of_ne_one (by omega) (by omega)
      have h0' : 0 ≤ x / W := Int.ediv_nonneg h0 (by omega)
      obtain ⟨_, e, l, g⟩ := ih (x / W) h0' (by omega)
      refine ⟨h0, ?_, ?_, ?_⟩
      · rw [List.length_cons, row_cons hW, ← e]
      · rw [List.length_cons, Int.pow_succ]
        exact (Int.ediv_lt_iff_lt_mul (by omega)).mp l
      · intro n hn
        cases n with
        | zero => simp; omega
        | succ n =>
          rw [Int.pow_succ]
          exact (Int.le_ediv_iff_mul_le (by omega)).mp (g n (by simpa using hn))
theorem limbs_is {W : Int} (hW : 2 ≤ W) {x : Int} (h0 : 0 ≤ x) : IsLimbs W x (limbs W x) := limbsF_is hW _ x h0 (Nat.le_refl _)
theorem IsLimbs.limbs {W x : Int} {l : List Int} (hW : 2 ≤ W) (a : IsLimbs W x l) : l = limbs W x := a.unique (limbs_is hW a.nonneg)

end Mine
namespace Mine
open PySem PySem.W PySem.Spec PySem.Calls PyProof.Rows
set_option maxRecDepth 100000

abbrev PR : Program := PySem.Challenge.rw_sj0080_01.row.prog

section
variable {prog : Program} {w : World} {A₀ A : Around} {s : Shared} {base h₀ : Heap} {outer : List Env} {L : Addr} {m : Str → Option Value} {env : Env} {K : Frag}
  {p : Program} {loose : List Str} {mean : ExcName → Option Value} {mg mb : Str → Option Value}
  {R : Result → Shared → Prop} {name qual : Str} {params : Arguments} {body : List Stmt} {scope : Scope} {dV kV doc pm cdv ct oc : Value} {an od : Option Addr} {osl : Array (Option Value)} {f : Addr} {args : Args} {binds : List (Str × Value)}

theorem enterP (B : Below A₀ base outer h₀) (F : Fr h₀ L s.heap m) (X₀ : K.In h₀) (T : Top p loose mean mg mb h₀) (hA : A.frames = some (env :: outer)) (hf : env.frame = some L) (hke : env.scope.kind = .function)
    (ho : K.lookup f = some ⟨oc, od, .func (fnOf name qual params body scope dV kV doc pm an cdv ct), osl⟩) (hcd : codeIn K cdv qual = true) (hroom : A.depth < recursionLimit)
    (hbind : BindsTo s (fnOf name qual params body scope dV kV doc pm an cdv ct) args binds) (hloc : ∀ y ∈ binds, scope.names.lookup y.1 = some .local)
    (h : ∀ g L' h₁, s.heap = g → Fr h₀ L g m → Fr g L' h₁ (fun y => binds.reverse.lookup y) → News g L' h₁ [] → Below A base (env :: outer) g → K.In g → Top p loose mean mg mb g →
      wpAny (model prog w) (A.deeper (envOf qual scope L' f cdv)) (execs body (envOf qual scope L' f cdv))
        (fun fl s' => LeaveK h₀ L m g R (match fl with | .ret v => v | _ => .none) s')
        (fun e s' => wpAny (model prog w) (A.deeper (envOf qual scope L' f cdv)) (leaving (envOf qual scope L' f cdv) e) (fun _ s'' => R (.error e) s'') (fun e' s'' => R (.error e') s'') s')
        { s with heap := h₁, toks := s.toks + binds.length })
    (hco : scope.isCoroutine = false) (hgen : scope.isGenerator = false) (hk : scope.kind = .function)
    (hcell : ∀ x ∈ scope.names, x.2 ≠ .cell) : codeAny (model prog w) A (.call (.ref f) args) R s := by
  obtain ⟨FG, BG, st, lv⟩ := groundX (R := R) B F News.nil hA hf hke
  refine codeAny_call_def (fd := fnOf name qual params body scope dV kV doc pm an cdv ct) (body := body) (binds := binds) hroom ((X₀.keeps F.keep) _ _ ho) rfl (T.nolimit.keeps F.keep) (codeRec_of (X₀.keeps F.keep) hcd) rfl hbind hcell hloc (fun h₁ hns hk₁ => ?_) hco hgen hk
  exact wpAny_mono (h _ s.heap.objs.size h₁ rfl FG ⟨hns, hk₁, Nat.le_refl _⟩ News.nil BG (X₀.keeps st) (T.keeps st)) (fun fl s' hl => lv _ _ hl) fun _ _ y => y

theorem enterC (B : Below A₀ base outer h₀) (F : Fr h₀ L s.heap m) (X₀ : K.In h₀) (T : Top p loose mean mg mb h₀) (hA : A.frames = some (env :: outer)) (hf : env.frame = some L) (hke : env.scope.kind = .function)
    (ho : K.lookup f = some ⟨oc, od, .func (fnOf name qual params body scope dV kV doc pm an cdv ct), osl⟩) (hcd : codeIn K cdv qual = true) (hroom : A.depth < recursionLimit)
    (hbind : BindsTo s (fnOf name qual params body scope dV kV doc pm an cdv ct) args binds) (hkind : (binds.all fun y => scope.names.lookup y.1 == some .local || scope.names.lookup y.1 == some .cell) = true)
    (hnd : ((cellsFrom 0 scope.names []).map (·.1)).Nodup)
    (h : ∀ g L' h₁ tk cells, s.heap = g → Fr h₀ L g m → Fr g L' h₁ (bindL (envOfC qual scope L' f cdv).kindOf binds fun _ => none) → News g L' h₁ cells →
      CellsAre (bindC (envOfC qual scope L' f cdv).kindOf binds fun _ => none) (cellsFrom (L' + 1) scope.names []) cells → Below A base (env :: outer) g → K.In g → Top p loose mean mg mb g →
      wpAny (model prog w) (A.deeper (envOfC qual scope L' f cdv)) (execs body (envOfC qual scope L' f cdv))
        (fun fl s' => LeaveK h₀ L m g R (match fl with | .ret v => v | _ => .none) s')
        (fun e s' => wpAny (model prog w) (A.deeper (envOfC qual scope L' f cdv)) (leaving (envOfC qual scope L' f cdv) e) (fun _ s'' => R (.error e) s'') (fun e' s'' => R (.error e') s'') s')
        { s with heap := h₁, toks := tk })
    (hco : scope.isCoroutine = false) (hgen : scope.isGenerator = false) (hk : scope.kind = .function) : codeAny (model prog w) A (.call (.ref f) args) R s := by
  obtain ⟨FG, BG, st, lv⟩ := groundX (R := R) B F News.nil hA hf hke
  have hcl : (s.heap).CodeRec cdv qual := codeRec_of (X₀.keeps F.keep) hcd
  refine codeAny_call_function hroom ((X₀.keeps F.keep) _ _ ho) rfl hco hgen rfl hcl (hbind _ _ _ _ ?_)
  refine wpAny_newFunctionEnv_cells hk (kindsX hkind _) fun env' he s' x => ?_
  subst he
  refine ⟨(T.nolimit.keeps F.keep).keeps x.toInCall.keep, codeAny_func ?_⟩
  obtain ⟨h₁, tk, rfl, _⟩ := x.done
  have hk₁ := x.toInCall.keep
  obtain ⟨cells, NC, Y⟩ := Cl.news (h₀ := s.heap) (Nat.le_refl _) fun n c hm => ⟨x.cell n c (lookup_of_mem_nodup (cellsFrom_names scope.names 0 (s.heap.objs.size + 1) [] [] rfl ▸ hnd) hm), x.above n c hm⟩
  exact wpAny_mono (h _ s.heap.objs.size h₁ tk cells rfl FG ⟨x.toInCall.ns, hk₁, Nat.le_refl _⟩ NC Y BG (X₀.keeps st) (T.keeps st)) (fun fl s' hl => lv _ _ hl) fun _ _ y => y
end

theorem enterM {prog : Program} {w : World} {A₀ A : Around} {s : Shared} {base h₀ : Heap} {outer : List Env} {L : Addr} {m : Str → Option Value} {env : Env} {K : Frag}
  {p : Program} {loose : List Str} {mean : ExcName → Option Value} {mg mb : Str → Option Value}
  {R : Result → Shared → Prop} {name qual : Str} {params : Arguments} {body : List Stmt} {scope : Scope} {dV kV doc pm cdv ct oc : Value} {an od : Option Addr} {osl : Array (Option Value)} {f : Addr} {args : Args} (binds rs : List (Str × Value)) (mm : Str → Option Value)
    (B : Below A₀ base outer h₀) (F : Fr h₀ L s.heap m) (X₀ : K.In h₀) (T : Top p loose mean mg mb h₀) (hA : A.frames = some (env :: outer)) (hf : env.frame = some L) (hke : env.scope.kind = .function)
    (ho : K.lookup f = some ⟨oc, od, .func (fnOf name qual params body scope dV kV doc pm an cdv ct), osl⟩) (hcd : codeIn K cdv qual = true) (hroom : A.depth < recursionLimit)
    (hbind : BindsTo s (fnOf name qual params body scope dV kV doc pm an cdv ct) args binds) (hloc : ∀ y ∈ binds, scope.names.lookup y.1 = some .local)
    (hrs : binds.reverse = rs) (hmm : ∀ y, rs.lookup y = mm y)
    (h : ∀ L' h₁ tk, Fr h₀ L s.heap m → Fr s.heap L' h₁ mm → News s.heap L' h₁ [] → Below A base (env :: outer) s.heap → K.In s.heap → Top p loose mean mg mb s.heap →
      wpAny (model prog w) (A.deeper (envOf qual scope L' f cdv)) (execs body (envOf qual scope L' f cdv))
        (fun fl s' => LeaveK h₀ L m s.heap R (match fl with | .ret v => v | _ => .none) s')
        (fun e s' => wpAny (model prog w) (A.deeper (envOf qual scope L' f cdv)) (leaving (envOf qual scope L' f cdv) e) (fun _ s'' => R (.error e) s'') (fun e' s'' => R (.error e') s'') s')
        { s with heap := h₁, toks := tk })
    (hco : scope.isCoroutine = false) (hgen : scope.isGenerator = false) (hk : scope.kind = .function)
    (hcell : ∀ x ∈ scope.names, x.2 ≠ .cell) : codeAny (model prog w) A (.call (.ref f) args) R s :=
  enterP B F X₀ T hA hf hke ho hcd hroom hbind hloc (fun g L' h₁ e FG F' N' B' X' T' => by
    subst e
    have em : (fun y => binds.reverse.lookup y) = mm := funext fun y => by rw [hrs]; exact hmm y
    rw [em] at F'
    exact h L' h₁ _ FG F' N' B' X' T') hco hgen hk hcell
theorem lk_nil (y : Str) : List.lookup y ([] : List (Str × Value)) = none := rfl
theorem lk_cons (y n : Str) (v : Value) (r : List (Str × Value)) (m : Str → Option Value) (h : List.lookup y r = m y) : List.lookup y ((n, v) :: r) = if y = n then some v else m y := by
  rw [List.lookup_cons]
  by_cases e : y = n
  · subst e; simp
  · rw [if_neg e, ← h]
    have : (y == n) = false := by simpa using e
    simp [this]

theorem lk_cons' (y n : Str) (v : Value) (r : List (Str × Value)) {b : Option Value} (h : List.lookup y r = b) : List.lookup y ((n, v) :: r) = if y = n then some v else b :=
  lk_cons y n v r (fun _ => b) h

structure Cx (w : World) (p : Program) (loose : List Str) (mean : ExcName → Option Value) (mg mb : Str → Option Value) (dp un : Nat) (cs : Scope) (outer : List Env) (A₀ : Around) (base h₀ : Heap) (L : Addr) (m : Str → Option Value) (s : Shared) (N : Nat) : Prop where
  B : Below A₀ base outer h₀
  F : Fr h₀ L s.heap m
  X : (hK w.params).In h₀
  T : Top p loose mean mg mb h₀
  hk : cs.kind = .function
  hd : dp + N < recursionLimit
  hu : un + 8 * N < cLine

structure LH (h : Heap) (l : Addr) (ns : List Int) : Prop where
  ex : ∃ vs n, h.get? l = some (listOf vs.toArray n) ∧ IntsAre vs ns
end Mine
namespace Mine
open PySem PySem.W PySem.Spec PySem.Calls PyProof.Rows
abbrev RetL (h₀ : Heap) (L : Addr) (m : Str → Option Value) (s : Shared) (Q : Value → Shared → Prop) (xs : List Int) : Prop :=
  ∀ r ws n h' tk', Fr h₀ L h' m → s.heap.StaysIn h' → s.heap.get? r = none → h'.get? r = some (listOf ws.toArray n) → IntsAre ws xs → Q (.ref r) { s with heap := h', toks := tk' }
abbrev RetI (h₀ : Heap) (L : Addr) (m : Str → Option Value) (s : Shared) (Q : Value → Shared → Prop) (x : Int) : Prop :=
  ∀ t h' tk', Fr h₀ L h' m → s.heap.StaysIn h' → Q (.int x t) { s with heap := h', toks := tk' }
abbrev RetB (h₀ : Heap) (L : Addr) (m : Str → Option Value) (s : Shared) (Q : Value → Shared → Prop) (x : Bool) : Prop :=
  ∀ h' tk', Fr h₀ L h' m → s.heap.StaysIn h' → Q (.bool x) { s with heap := h', toks := tk' }
abbrev RetO (h₀ : Heap) (L : Addr) (m : Str → Option Value) (s : Shared) (Q : Value → Shared → Prop) (x : Option Int) : Prop :=
  ∀ v h' tk', Fr h₀ L h' m → s.heap.StaysIn h' → (match x with | none => v = Value.none | some i => ∃ t, v = .int i t) → Q v { s with heap := h', toks := tk' }
def numP (x : Bool × List Int) : PyData := .tuple [.bool x.1, .list (x.2.map .int)]
abbrev NumH (h : Heap) (v : Value) (x : Bool × List Int) : Prop := ∃ as, Reads h v (numP x) as
abbrev RetN (h₀ : Heap) (L : Addr) (m : Str → Option Value) (s : Shared) (Q : Value → Shared → Prop) (x : Bool × List Int) : Prop :=
  ∀ v h' tk', Fr h₀ L h' m → s.heap.StaysIn h' → NumH h' v x → Q v { s with heap := h', toks := tk' }
section
variable {h₀ h' : Heap} {L L' : Addr} {m m' : Str → Option Value} {s : Shared} {Q : Value → Shared → Prop} {news : List (Addr × Obj)} {tk' : Nat}
theorem retL {xs ys : List Int} {r : Addr} {ws : List Value} {n : Nat} (ret : RetL h₀ L m s Q xs) (F : Fr h₀ L h' m) (F' : Fr s.heap L' h' m') (N' : News s.heap L' h' news) (hm : (r, listOf ws.toArray n) ∈ news)
    (hi : IntsAre ws ys) (e : ys = xs) : Q (.ref r) { s with heap := h', toks := tk' } := ret r ws n h' tk' F F'.keep (N' _ hm).2.2 (N' _ hm).1 (e ▸ hi)
theorem retI {x y : Int} {t : Tok} (ret : RetI h₀ L m s Q x) (F : Fr h₀ L h' m) (F' : Fr s.heap L' h' m') (e : y = x) : Q (.int y t) { s with heap := h', toks := tk' } := by
  subst e; exact ret t h' tk' F F'.keep
theorem retB {x y : Bool} (ret : RetB h₀ L m s Q x) (F : Fr h₀ L h' m) (F' : Fr s.heap L' h' m') (e : y = x) : Q (.bool y) { s with heap := h', toks := tk' } := by
  subst e; exact ret h' tk' F F'.keep
theorem retN {x : Bool × List Int} {v : Value} (ret : RetN h₀ L m s Q x) (F : Fr h₀ L h' m) (F' : Fr s.heap L' h' m') (e : NumH h' v x) : Q v { s with heap := h', toks := tk' } := ret v h' tk' F F'.keep e
theorem newsL {h : Heap} {r : Addr} {o : Obj} (F : Fr h₀ L h m) (N : News h₀ L h news) (k : h.StaysIn h') (hn : h.get? r = none) (ho : h'.get? r = some o) : News h₀ L h' ((r, o) :: news) := by
  intro p hp
  rcases List.mem_cons.mp hp with rfl | hp
  · refine ⟨ho, fun e => ?_, ?_⟩
    · obtain ⟨oL, es, ep, hL, _⟩ := F.ns
      have e' : r = L := e
      rw [e', hL] at hn; cases hn
    · cases q : h₀.get? r with
      | none => rfl
      | some o' => rw [F.keep _ _ q] at hn; cases hn
  · exact ⟨k _ _ (N p hp).1, (N p hp).2⟩
theorem newsK {h : Heap} (N : News h₀ L h news) (k : h.StaysIn h') : News h₀ L h' news := fun p hp => ⟨k _ _ (N p hp).1, (N p hp).2⟩
theorem NumH.keeps {h : Heap} {v : Value} {x : Bool × List Int} (a : NumH h v x) (k : h.StaysIn h') : NumH h' v x := let ⟨as, r⟩ := a; ⟨as, PyProof.Rows.Reads.keeps k r⟩
theorem ints_of_reads {h : Heap} : ∀ {vs : List Value} {ns : List Int} {as : List Addr}, ReadsAll h vs (ns.map PyData.int) as → IntsAre vs ns
  | _, [], _, r => by cases r; exact .nil
  | _, n :: ns, _, r => by
    cases r with
    | cons h1 h2 => cases h1; exact .cons _ _ (ints_of_reads h2)
theorem reads_of_ints {h : Heap} {vs : List Value} {ns : List Int} (i : IntsAre vs ns) : ReadsAll h vs (ns.map PyData.int) [] := by
  induction i with
  | nil => exact .nil
  | cons n t _ ih => exact .cons (.int n t) ih
inductive NumO (h : Heap) (v : Value) (x : Bool × List Int) : Prop
  | mk (t l : Addr) (vs : List Value) (e : v = .ref t) (it : IsTup h t #[.bool x.1, .ref l]) (il : h.IsList l vs.toArray) (ii : IntsAre vs x.2) : NumO h v x
theorem NumH.open {h : Heap} {v : Value} {x : Bool × List Int} (a : NumH h v x) : NumO h v x := by
  obtain ⟨as, r⟩ := a
  unfold numP at r
  cases r with
  | tuple h1 h2 h3 h4 =>
    rename_i a o vs n
    obtain ⟨vl⟩ := vs
    cases h4 with
    | cons p q =>
      cases p
      cases q with
      | cons p q =>
        cases q
        cases p with
        | list g1 g2 g3 g4 =>
          rename_i l o' vs' n' _
          refine ⟨a, l, vs'.toList, rfl, ?_, ⟨_, g1, g2, n', by simpa using g3⟩, ints_of_reads g4⟩
          exact ⟨_, h1, h2, n, h3⟩
theorem NumH.mk {h : Heap} {t l : Addr} {vs : List Value} {x : Bool × List Int} (h1 : IsTup h t #[.bool x.1, .ref l]) (h2 : h.IsList l vs.toArray) (h3 : IntsAre vs x.2) : NumH h (.ref t) x := by
  obtain ⟨o, a1, a2, n, a3⟩ := h1
  obtain ⟨o', b1, b2, n', b3⟩ := h2
  exact ⟨_, .tuple a1 a2 a3 (.cons (.bool _) (.cons (.list b1 b2 b3 (reads_of_ints h3)) .nil))⟩
end
end Mine
namespace Mine
open PySem PySem.W PySem.Spec PySem.Calls PyProof.Rows
theorem n_push {r : Addr} {us : List Value} {v : Value} {n : Nat} {news : List (Addr × Obj)} (h : (r, listOf (us.toArray.push v) n) ∈ news) : (r, listOf (us ++ [v]).toArray n) ∈ news := by
  rw [List.push_toArray] at h; exact h
theorem ints_snoc {us : List Value} {f : List Int} {c : Int} {t : Tok} (h : IntsAre us f) : IntsAre (us ++ [.int c t]) (f ++ [c]) := by
  induction h with
  | nil => exact .cons _ _ .nil
  | cons n t _ ih => exact .cons n t ih
end Mine
namespace Mine
open PySem PySem.W PySem.Spec PySem.Calls PyProof.Rows
theorem enterCM {prog : Program} {w : World} {A₀ A : Around} {s : Shared} {base h₀ : Heap} {outer : List Env} {L : Addr} {m : Str → Option Value} {env : Env} {K : Frag}
  {p : Program} {loose : List Str} {mean : ExcName → Option Value} {mg mb : Str → Option Value}
  {R : Result → Shared → Prop} {name qual : Str} {params : Arguments} {body : List Stmt} {scope : Scope} {dV kV doc pm cdv ct oc : Value} {an od : Option Addr} {osl : Array (Option Value)} {f : Addr} {args : Args} (binds : List (Str × Value)) (mm cm : Str → Option Value)
    (B : Below A₀ base outer h₀) (F : Fr h₀ L s.heap m) (X₀ : K.In h₀) (T : Top p loose mean mg mb h₀) (hA : A.frames = some (env :: outer)) (hf : env.frame = some L) (hke : env.scope.kind = .function)
    (ho : K.lookup f = some ⟨oc, od, .func (fnOf name qual params body scope dV kV doc pm an cdv ct), osl⟩) (hcd : codeIn K cdv qual = true) (hroom : A.depth < recursionLimit)
    (hbind : BindsTo s (fnOf name qual params body scope dV kV doc pm an cdv ct) args binds) (hkind : (binds.all fun y => scope.names.lookup y.1 == some .local || scope.names.lookup y.1 == some .cell) = true)
    (hnd : ((cellsFrom 0 scope.names []).map (·.1)).Nodup)
    (hmm : ∀ L', bindL (envOfC qual scope L' f cdv).kindOf binds (fun _ => none) = mm) (hcm : ∀ L', bindC (envOfC qual scope L' f cdv).kindOf binds (fun _ => none) = cm)
    (h : ∀ L' h₁ tk cells, Fr h₀ L s.heap m → Fr s.heap L' h₁ mm → News s.heap L' h₁ cells → CellsAre cm (cellsFrom (L' + 1) scope.names []) cells → Below A base (env :: outer) s.heap → K.In s.heap → Top p loose mean mg mb s.heap →
      wpAny (model prog w) (A.deeper (envOfC qual scope L' f cdv)) (execs body (envOfC qual scope L' f cdv))
        (fun fl s' => LeaveK h₀ L m s.heap R (match fl with | .ret v => v | _ => .none) s')
        (fun e s' => wpAny (model prog w) (A.deeper (envOfC qual scope L' f cdv)) (leaving (envOfC qual scope L' f cdv) e) (fun _ s'' => R (.error e) s'') (fun e' s'' => R (.error e') s'') s')
        { s with heap := h₁, toks := tk })
    (hco : scope.isCoroutine = false) (hgen : scope.isGenerator = false) (hk : scope.kind = .function) : codeAny (model prog w) A (.call (.ref f) args) R s :=
  enterC B F X₀ T hA hf hke ho hcd hroom hbind hkind hnd (fun g L' h₁ tk cells e FG F' N' Y' B' X' T' => by
    subst e
    rw [hmm] at F'
    rw [hcm] at Y'
    exact h L' h₁ tk cells FG F' N' Y' B' X' T') hco hgen hk
def num (W z : Int) : Bool × List Int := (decide (z < 0), limbs W z.natAbs)
abbrev RetT (h₀ : Heap) (L : Addr) (m : Str → Option Value) (s : Shared) (Q : Value → Shared → Prop) (x : Bool × List Int) : Prop :=
  ∀ t l vs n n' h' tk', Fr h₀ L h' m → s.heap.StaysIn h' → s.heap.get? t = none → s.heap.get? l = none → h'.get? t = some { cls := .type "tuple", data := .seq #[.bool x.1, .ref l] n } → h'.get? l = some (listOf vs.toArray n') → IntsAre vs x.2 → Q (.ref t) { s with heap := h', toks := tk' }
theorem RetN.toT {h₀ : Heap} {L : Addr} {m : Str → Option Value} {s : Shared} {Q : Value → Shared → Prop} {x : Bool × List Int} (r : RetN h₀ L m s Q x) : RetT h₀ L m s Q x :=
  fun t l vs n n' h' tk' F S _ _ e1 e2 i => r (.ref t) h' tk' F S (NumH.mk (x := x) ⟨_, e1, rfl, n, rfl⟩ ⟨_, e2, rfl, n', rfl⟩ i)
theorem retT {h₀ h' : Heap} {L L' : Addr} {m m' : Str → Option Value} {s : Shared} {Q : Value → Shared → Prop} {news : List (Addr × Obj)} {tk' : Nat} {x : Bool × List Int} {b : Bool} {t l : Addr} {vs : List Value} {ns : List Int} {n n' : Nat} (ret : RetT h₀ L m s Q x) (F : Fr h₀ L h' m) (F' : Fr s.heap L' h' m') (N' : News s.heap L' h' news)
    (ht : (t, ({ cls := .type "tuple", data := .seq #[.bool b, .ref l] n } : Obj)) ∈ news) (hl : (l, listOf vs.toArray n') ∈ news) (hi : IntsAre vs ns) (e : (b, ns) = x) : Q (.ref t) { s with heap := h', toks := tk' } := by
  subst e
  exact ret t l vs n n' h' tk' F F'.keep (N' _ ht).2.2 (N' _ hl).2.2 (N' _ ht).1 (N' _ hl).1 hi
end Mine
namespace Mine
open PySem PySem.W PySem.Spec PySem.Calls PyProof.Rows
theorem newsT {h₀ h' : Heap} {L : Addr} {m : Str → Option Value} {news : List (Addr × Obj)} {h : Heap} {t l : Addr} {o o' : Obj} (F : Fr h₀ L h m) (N : News h₀ L h news) (k : h.StaysIn h') (hn : h.get? t = none) (hn' : h.get? l = none) (ho : h'.get? t = some o) (ho' : h'.get? l = some o') : News h₀ L h' ((t, o) :: (l, o') :: news) := by
  intro p hp
  rcases List.mem_cons.mp hp with rfl | hp
  · exact newsL F N k hn ho _ (.head _)
  · exact newsL F N k hn' ho' p hp
end Mine
namespace Mine
open PySem PySem.W PySem.Spec PySem.Calls PyProof.Rows
theorem sum_mine {prog : Program} {w : World} {A : Around} {E : Value → Shared → Prop} {s : Shared} {l : Addr} {vs : List Value} {ns : List Int} {Q : Value → Shared → Prop} (hh : A.handled = none) (hl : s.heap.IsList l vs.toArray) (hi : IntsAre vs ns)
    (h : ∀ h' tk t', s.heap.StaysIn h' → Q (.int ns.sum t') { s with heap := h', toks := tk }) : wpAny (model prog w) A (call (.builtin "sum") [.ref l]) Q E s := by
  obtain ⟨xs, hx⟩ := hi.allInts.items
  have hn : numsOf vs.toArray.toList = ns := by rw [show vs.toArray.toList = vs from rfl, hi.numsOf]
  rw [hx] at hl hn
  rw [nums_intItems] at hn
  refine sum_intListG hh hl fun h' tk t' hk => ?_
  have := h h' tk t' hk
  rw [preSum_eq, List.take_of_length_le (by simp), hn]
  exact this
end Mine
namespace Mine
open PySem PySem.W PySem.Spec PySem.Calls PyProof.Rows
section
variable {h₀ h' : Heap} {L L' : Addr} {m m' : Str → Option Value} {s : Shared} {Q : Value → Shared → Prop} {tk' : Nat}
theorem retOn {x : Option Int} (ret : RetO h₀ L m s Q x) (F : Fr h₀ L h' m) (F' : Fr s.heap L' h' m') (e : x = none) : Q .none { s with heap := h', toks := tk' } := by
  subst e; exact ret .none h' tk' F F'.keep rfl
theorem retOs {x : Option Int} {i : Int} {t : Tok} (ret : RetO h₀ L m s Q x) (F : Fr h₀ L h' m) (F' : Fr s.heap L' h' m') (e : x = some i) : Q (.int i t) { s with heap := h', toks := tk' } := by
  subst e; exact ret (.int i t) h' tk' F F'.keep ⟨t, rfl⟩
end
def NextIs (z : Int) (start wanted : Int) (r : Option Int) : Prop :=
  (∀ a, r = some a → start ≤ a ∧ z / 2 ^ a.toNat % 2 = wanted ∧ ∀ j : Int, start ≤ j → j < a → z / 2 ^ j.toNat % 2 ≠ wanted) ∧ (r = none → ∀ j : Int, start ≤ j → z / 2 ^ j.toNat % 2 ≠ wanted)
theorem news_tail {g h : Heap} {L : Addr} {p : Addr × Obj} {r : List (Addr × Obj)} (N : News g L h (p :: r)) : News g L h r := fun q hq => N q (.tail _ hq)
theorem let_A {α : Type} {M : Model} {A : Around} {t : Sem α} {Q : α → Shared → Prop} {E : Value → Shared → Prop} {s : Shared} (h : let ak := A; wpAny M ak t Q E s) : wpAny M A t Q E s := h
theorem repack {α : Type} {M : Model} {A : Around} {t : Sem α} {Q : α → Shared → Prop} {E : Value → Shared → Prop} {S : Shared} (s0 : Shared) {h' : Heap} {tk : Nat} (e : S = { s0 with heap := h', toks := tk }) (h : ∀ tk', wpAny M A t Q E { s0 with heap := h', toks := tk' }) : wpAny M A t Q E S := e ▸ h tk
end Mine
namespace Mine
open PySem PySem.W PyProof.Rows

theorem split_pow {W : Int} (z : Int) (n : Nat) : z = z % W ^ n + W ^ n * (z / W ^ n) := (Int.emod_add_mul_ediv z (W ^ n)).symm

theorem lin_dig {W A S R D : Int} {j : Nat} (hW : 2 ≤ W) (hA : A = S + W ^ j * R) (hD : D % W = R % W) : dg W A j = (S / W ^ j + D) % W := by
  have hp := powPos hW j
  unfold dg
  rw [hA, Int.add_mul_ediv_left _ _ (by omega), Int.add_emod, ← hD, ← Int.add_emod]
theorem lin_cy {W S D : Int} {j : Nat} (hW : 2 ≤ W) : (S + W ^ j * D) / W ^ (j + 1) = (S / W ^ j + D) / W := by
  have hp := powPos hW j
  rw [Int.pow_succ, ← Int.ediv_ediv_of_nonneg (Int.le_of_lt hp), Int.add_mul_ediv_left _ _ (by omega)]

theorem dg_mod {W : Int} (z : Int) (j : Nat) : dg W z j % W = (z / W ^ j) % W := by unfold dg; rw [Int.emod_emod_of_dvd _ (Int.dvd_refl W)]

theorem add_dig {W : Int} (hW : 2 ≤ W) (x y : Int) (j : Nat) : dg W (x + y) j = ((x % W ^ j + y % W ^ j) / W ^ j + (dg W x j + dg W y j)) % W := by
  refine lin_dig (R := x / W ^ j + y / W ^ j) hW ?_ ?_
  · have h1 := split_pow (W := W) x j
    have h2 := split_pow (W := W) y j
    rw [Int.mul_add]; omega
  · rw [Int.add_emod, dg_mod, dg_mod, ← Int.add_emod]
theorem add_cy {W : Int} (hW : 2 ≤ W) (x y : Int) (j : Nat) : (x % W ^ (j + 1) + y % W ^ (j + 1)) / W ^ (j + 1) = ((x % W ^ j + y % W ^ j) / W ^ j + (dg W x j + dg W y j)) / W := by
  rw [← lin_cy hW, emod_succ hW x, emod_succ hW y, Int.mul_add]
  congr 1
  omega
theorem sub_dig {W : Int} (hW : 2 ≤ W) (x y : Int) (j : Nat) : dg W (x - y) j = ((x % W ^ j - y % W ^ j) / W ^ j + (dg W x j - dg W y j)) % W := by
  refine lin_dig (R := x / W ^ j - y / W ^ j) hW ?_ ?_
  · have h1 := split_pow (W := W) x j
    have h2 := split_pow (W := W) y j
    rw [Int.mul_sub]; omega
  · rw [Int.sub_emod, dg_mod, dg_mod, ← Int.sub_emod]
theorem sub_cy {W : Int} (hW : 2 ≤ W) (x y : Int) (j : Nat) : (x % W ^ (j + 1) - y % W ^ (j + 1)) / W ^ (j + 1) = ((x % W ^ j - y % W ^ j) / W ^ j + (dg W x j - dg W y j)) / W := by
  rw [← lin_cy hW, emod_succ hW x, emod_succ hW y, Int.mul_sub]
  congr 1
  omega
theorem inc_dig {W : Int} (hW : 2 ≤ W) (x : Int) (j : Nat) : dg W (x + 1) j = ((x % W ^ j + 1) / W ^ j + dg W x j) % W := by
  refine lin_dig (R := x / W ^ j) hW ?_ ?_
  · have h1 := split_pow (W := W) x j
    omega
  · exact dg_mod _ _
theorem inc_cy {W : Int} (hW : 2 ≤ W) (x : Int) (j : Nat) : (x % W ^ (j + 1) + 1) / W ^ (j + 1) = ((x % W ^ j + 1) / W ^ j + dg W x j) / W := by
  rw [← lin_cy hW, emod_succ hW x]
  congr 1
  omega
theorem mul_dig {W : Int} (hW : 2 ≤ W) (x F : Int) (j : Nat) : dg W (x * F) j = ((x % W ^ j * F) / W ^ j + dg W x j * F) % W := by
  refine lin_dig (R := x / W ^ j * F) hW ?_ ?_
  · have h1 := split_pow (W := W) x j
    conv => lhs; rw [h1]
    rw [Int.add_mul, Int.mul_assoc]
  · rw [Int.mul_emod, dg_mod, ← Int.mul_emod]
theorem mul_cy {W : Int} (hW : 2 ≤ W) (x F : Int) (j : Nat) : (x % W ^ (j + 1) * F) / W ^ (j + 1) = ((x % W ^ j * F) / W ^ j + dg W x j * F) / W := by
  rw [← lin_cy hW, emod_succ hW x, Int.add_mul, Int.mul_assoc]

theorem dg_of_lt {W x : Int} {n : Nat} (h0 : 0 ≤ x) (h : x < W ^ n) : dg W x n = 0 := by
  unfold dg; rw [Int.ediv_eq_zero_of_lt h0 h]; rfl
theorem fin_carry {W A c : Int} {n : Nat} {l : List Int} (hW : 2 ≤ W) (h0 : 0 ≤ A) (hl : l = row W A n) (hc : c = A / W ^ n) (hlt : c < W) (h : 0 < c) : l ++ [c] = limbs W A := by
  have hp := powPos hW n
  have e : dg W A n = c := by
    unfold dg; rw [← hc]; exact Int.emod_eq_of_lt (by omega) hlt
  refine IsLimbs.limbs hW ⟨h0, ?_, ?_, ?_⟩
  · simp only [List.length_append, List.length_cons, List.length_nil, hl, row_length, Nat.zero_add]
    rw [row_succ, e]
  · simp only [List.length_append, List.length_cons, List.length_nil, hl, row_length, Nat.zero_add]
    rw [Int.pow_succ, Int.mul_comm]
    exact (Int.ediv_lt_iff_lt_mul hp).mp (hc ▸ hlt)
  · intro m hm
    simp only [List.length_append, List.length_cons, List.length_nil, hl, row_length, Nat.zero_add] at hm
    refine Int.le_trans (pow_le_pow hW (Nat.le_of_lt_succ hm)) ?_
    refine Int.not_lt.mp fun hlt' => ?_
    rw [hc, Int.ediv_eq_zero_of_lt h0 hlt'] at h
    omega
theorem fin_none {W A c : Int} {n : Nat} {l : List Int} (hW : 2 ≤ W) (h0 : 0 ≤ A) (hl : l = row W A n) (hc : c = A / W ^ n) (hle : ∀ m, m < n → W ^ m ≤ A) (h : ¬ 0 < c) : l = limbs W A := by
  have hp := powPos hW n
  refine IsLimbs.limbs hW ⟨h0, ?_, ?_, ?_⟩
  · rw [hl, row_length]
  · rw [hl, row_length]
    have : A / W ^ n = 0 := by
      have := Int.ediv_nonneg h0 (Int.le_of_lt hp)
      omega
    exact (ediv_lt_iff hp h0).mp this
  · rw [hl, row_length]; exact hle

theorem limbs_len_le {W x : Int} (hW : 2 ≤ W) (h0 : 0 ≤ x) {n : Nat} (h : x < W ^ n) : (limbs W x).length ≤ n := by
  have a := limbs_is hW h0
  refine Nat.le_of_not_lt fun hlt => ?_
  have := a.le _ hlt
  omega
theorem limbs_zero (W : Int) : limbs W 0 = [] := rfl
theorem limbs_eq_nil {W x : Int} (hW : 2 ≤ W) (h0 : 0 ≤ x) (h : (limbs W x).length = 0) : x = 0 := by
  have a := (limbs_is hW h0).lt
  rw [h] at a; simp at a; omega
theorem limbs_getD {W x : Int} (hW : 2 ≤ W) (h0 : 0 ≤ x) (i : Nat) : (limbs W x).getD i 0 = dg W x i := by
  have a := limbs_is hW h0
  by_cases hi : i < (limbs W x).length
  · rw [a.eq]
    have := row_getD W x (limbs W x).length i hi
    rw [← this]
  · have h1 : dg W x i = 0 := dg_of_lt h0 (Int.lt_of_lt_of_le a.lt (pow_le_pow hW (by omega)))
    rw [h1, List.getD_eq_getElem?_getD, List.getElem?_eq_none (by omega)]; rfl
theorem two_pow_le {k : Nat} (h : 2 ≤ k) : (2 : Int) ≤ 2 ^ k := by
  have := pow_le_pow (W := 2) (by omega) h
  omega
theorem two_pow_le9 {k : Nat} (h : k ≤ 9) : (2 : Int) ^ k ≤ 512 := pow_le_pow (W := 2) (by omega) h
theorem limbs_small {k : Nat} {x : Int} (h2 : 2 ≤ k) (h9 : k ≤ 9) (h0 : 0 ≤ x) (i : Nat) : ((limbs (2 ^ k) x).getD i 0).natAbs < 2 ^ 64 := by
  have hW := two_pow_le h2
  rw [limbs_getD hW h0]
  have a := dg_nonneg hW x i
  have b := dg_lt hW x i
  have c := two_pow_le9 h9
  omega
theorem limbs_mem_small {k : Nat} {x y : Int} (h2 : 2 ≤ k) (h9 : k ≤ 9) (h0 : 0 ≤ x) (hm : y ∈ limbs (2 ^ k) x) : y.natAbs < 2 ^ 64 := by
  obtain ⟨i, hi, rfl⟩ := List.getElem_of_mem hm
  have := limbs_small h2 h9 h0 i
  rwa [List.getD_eq_getElem?_getD, List.getElem?_eq_getElem hi] at this
end Mine
namespace Mine
open PySem PySem.W PyProof.Rows

theorem getD_at {W x i : Int} {na : List Int} {j : Nat} (ea : na = limbs W x) (hW : 2 ≤ W) (h0 : 0 ≤ x) (h : i.toNat = j) : na.getD i.toNat 0 = dg W x j := by
  rw [ea, limbs_getD hW h0, h]
theorem mask_mod (t : Int) (k : Nat) : Builtin.bitAnd t (1 * 2 ^ ((k : Nat) : Int).toNat - 1) = t % 2 ^ k := by
  rw [Int.one_mul, Int.toNat_natCast]; exact kbt_mask t k
theorem shr_div (t : Int) (k : Nat) : t.fdiv (2 ^ ((k : Nat) : Int).toNat) = t / 2 ^ k := by
  rw [Int.toNat_natCast]; exact Int.fdiv_eq_ediv_of_nonneg _ (Int.le_of_lt (kbt_pos k))
theorem snoc_row {W A d : Int} {f : List Int} (hf : f = row W A f.length) (hd : d = dg W A f.length) : f ++ [d] = row W A (f ++ [d]).length := by
  rw [List.length_append, List.length_cons, List.length_nil, row_succ, ← hf, hd]
theorem len_snoc {α : Type} (f : List α) (d : α) : (f ++ [d]).length = f.length + 1 := by simp

theorem add_turn {k : Nat} {x y c t : Int} {f : List Int} (hk2 : 2 ≤ k) (hf : f = row (2 ^ k) (x + y) f.length) (hc : c = (x % (2 ^ k) ^ f.length + y % (2 ^ k) ^ f.length) / (2 ^ k) ^ f.length)
    (ht : t = c + (dg (2 ^ k) x f.length + dg (2 ^ k) y f.length)) :
    f ++ [Builtin.bitAnd t (1 * 2 ^ (k : Int).toNat - 1)] = row (2 ^ k) (x + y) (f ++ [Builtin.bitAnd t (1 * 2 ^ (k : Int).toNat - 1)]).length ∧
    t.fdiv (2 ^ (k : Int).toNat) = (x % (2 ^ k) ^ (f ++ [Builtin.bitAnd t (1 * 2 ^ (k : Int).toNat - 1)]).length + y % (2 ^ k) ^ (f ++ [Builtin.bitAnd t (1 * 2 ^ (k : Int).toNat - 1)]).length) / (2 ^ k) ^ (f ++ [Builtin.bitAnd t (1 * 2 ^ (k : Int).toNat - 1)]).length := by
  have hW := two_pow_le hk2
  refine ⟨snoc_row hf ?_, ?_⟩
  · rw [mask_mod, ht, hc, add_dig hW]
  · rw [shr_div, len_snoc, add_cy hW, ht, hc]
theorem add_turn1 {k : Nat} {x y c i : Int} {f na nb : List Int} (hk2 : 2 ≤ k) (ea : na = limbs (2 ^ k) x) (eb : nb = limbs (2 ^ k) y) (h0x : 0 ≤ x) (h0y : 0 ≤ y) (hi : i.toNat = f.length) (hf : f = row (2 ^ k) (x + y) f.length) (hc : c = (x % (2 ^ k) ^ f.length + y % (2 ^ k) ^ f.length) / (2 ^ k) ^ f.length) :
    f ++ [Builtin.bitAnd (c + (na.getD i.toNat 0 + nb.getD i.toNat 0)) (1 * 2 ^ (k : Int).toNat - 1)] = row (2 ^ k) (x + y) (f ++ [Builtin.bitAnd (c + (na.getD i.toNat 0 + nb.getD i.toNat 0)) (1 * 2 ^ (k : Int).toNat - 1)]).length ∧
    (c + (na.getD i.toNat 0 + nb.getD i.toNat 0)).fdiv (2 ^ (k : Int).toNat) = (x % (2 ^ k) ^ (f ++ [Builtin.bitAnd (c + (na.getD i.toNat 0 + nb.getD i.toNat 0)) (1 * 2 ^ (k : Int).toNat - 1)]).length + y % (2 ^ k) ^ (f ++ [Builtin.bitAnd (c + (na.getD i.toNat 0 + nb.getD i.toNat 0)) (1 * 2 ^ (k : Int).toNat - 1)]).length) / (2 ^ k) ^ (f ++ [Builtin.bitAnd (c + (na.getD i.toNat 0 + nb.getD i.toNat 0)) (1 * 2 ^ (k : Int).toNat - 1)]).length :=
  add_turn hk2 hf hc (by rw [getD_at ea (two_pow_le hk2) h0x hi, getD_at eb (two_pow_le hk2) h0y hi])
theorem add_turn2 {k : Nat} {x y c i : Int} {f na nb : List Int} (hk2 : 2 ≤ k) (ea : na = limbs (2 ^ k) x) (eb : nb = limbs (2 ^ k) y) (h0x : 0 ≤ x) (h0y : 0 ≤ y) (hi : i.toNat = f.length) (hf : f = row (2 ^ k) (x + y) f.length) (hc : c = (x % (2 ^ k) ^ f.length + y % (2 ^ k) ^ f.length) / (2 ^ k) ^ f.length) :
    f ++ [Builtin.bitAnd (c + (nb.getD i.toNat 0 + na.getD i.toNat 0)) (1 * 2 ^ (k : Int).toNat - 1)] = row (2 ^ k) (x + y) (f ++ [Builtin.bitAnd (c + (nb.getD i.toNat 0 + na.getD i.toNat 0)) (1 * 2 ^ (k : Int).toNat - 1)]).length ∧
    (c + (nb.getD i.toNat 0 + na.getD i.toNat 0)).fdiv (2 ^ (k : Int).toNat) = (x % (2 ^ k) ^ (f ++ [Builtin.bitAnd (c + (nb.getD i.toNat 0 + na.getD i.toNat 0)) (1 * 2 ^ (k : Int).toNat - 1)]).length + y % (2 ^ k) ^ (f ++ [Builtin.bitAnd (c + (nb.getD i.toNat 0 + na.getD i.toNat 0)) (1 * 2 ^ (k : Int).toNat - 1)]).length) / (2 ^ k) ^ (f ++ [Builtin.bitAnd (c + (nb.getD i.toNat 0 + na.getD i.toNat 0)) (1 * 2 ^ (k : Int).toNat - 1)]).length := by
  rw [Int.add_comm (nb.getD i.toNat 0)]
  exact add_turn1 hk2 ea eb h0x h0y hi hf hc
theorem dg_above {W x : Int} {j : Nat} (hW : 2 ≤ W) (h0 : 0 ≤ x) (h : (limbs W x).length ≤ j) : dg W x j = 0 := by
  have a := limbs_is hW h0
  exact dg_of_lt h0 (Int.lt_of_lt_of_le a.lt (pow_le_pow hW h))
theorem add_turn3 {k : Nat} {x y c i : Int} {f na nb : List Int} (hk2 : 2 ≤ k) (ea : na = limbs (2 ^ k) x) (eb : nb = limbs (2 ^ k) y) (h0x : 0 ≤ x) (h0y : 0 ≤ y) (hi : i.toNat = f.length) (hb : nb.length ≤ f.length) (hf : f = row (2 ^ k) (x + y) f.length) (hc : c = (x % (2 ^ k) ^ f.length + y % (2 ^ k) ^ f.length) / (2 ^ k) ^ f.length) :
    f ++ [Builtin.bitAnd (c + na.getD i.toNat 0) (1 * 2 ^ (k : Int).toNat - 1)] = row (2 ^ k) (x + y) (f ++ [Builtin.bitAnd (c + na.getD i.toNat 0) (1 * 2 ^ (k : Int).toNat - 1)]).length ∧
    (c + na.getD i.toNat 0).fdiv (2 ^ (k : Int).toNat) = (x % (2 ^ k) ^ (f ++ [Builtin.bitAnd (c + na.getD i.toNat 0) (1 * 2 ^ (k : Int).toNat - 1)]).length + y % (2 ^ k) ^ (f ++ [Builtin.bitAnd (c + na.getD i.toNat 0) (1 * 2 ^ (k : Int).toNat - 1)]).length) / (2 ^ k) ^ (f ++ [Builtin.bitAnd (c + na.getD i.toNat 0) (1 * 2 ^ (k : Int).toNat - 1)]).length :=
  add_turn hk2 hf hc (by rw [getD_at ea (two_pow_le hk2) h0x hi, dg_above (two_pow_le hk2) h0y (by rw [← eb]; exact hb), Int.add_zero])
theorem add_turn4 {k : Nat} {x y c i : Int} {f na nb : List Int} (hk2 : 2 ≤ k) (ea : na = limbs (2 ^ k) x) (eb : nb = limbs (2 ^ k) y) (h0x : 0 ≤ x) (h0y : 0 ≤ y) (hi : i.toNat = f.length) (ha : na.length ≤ f.length) (hf : f = row (2 ^ k) (x + y) f.length) (hc : c = (x % (2 ^ k) ^ f.length + y % (2 ^ k) ^ f.length) / (2 ^ k) ^ f.length) :
    f ++ [Builtin.bitAnd (c + nb.getD i.toNat 0) (1 * 2 ^ (k : Int).toNat - 1)] = row (2 ^ k) (x + y) (f ++ [Builtin.bitAnd (c + nb.getD i.toNat 0) (1 * 2 ^ (k : Int).toNat - 1)]).length ∧
    (c + nb.getD i.toNat 0).fdiv (2 ^ (k : Int).toNat) = (x % (2 ^ k) ^ (f ++ [Builtin.bitAnd (c + nb.getD i.toNat 0) (1 * 2 ^ (k : Int).toNat - 1)]).length + y % (2 ^ k) ^ (f ++ [Builtin.bitAnd (c + nb.getD i.toNat 0) (1 * 2 ^ (k : Int).toNat - 1)]).length) / (2 ^ k) ^ (f ++ [Builtin.bitAnd (c + nb.getD i.toNat 0) (1 * 2 ^ (k : Int).toNat - 1)]).length :=
  add_turn hk2 hf hc (by rw [getD_at eb (two_pow_le hk2) h0y hi, dg_above (two_pow_le hk2) h0x (by rw [← ea]; exact ha), Int.zero_add])
theorem add_end {k : Nat} {x y c : Int} {f na nb : List Int} (hk2 : 2 ≤ k) (ea : na = limbs (2 ^ k) x) (eb : nb = limbs (2 ^ k) y) (h0x : 0 ≤ x) (h0y : 0 ≤ y) (hl : f.length = max na.length nb.length) (hf : f = row (2 ^ k) (x + y) f.length) (hc : c = (x % (2 ^ k) ^ f.length + y % (2 ^ k) ^ f.length) / (2 ^ k) ^ f.length) :
    (0 < c → f ++ [c] = limbs (2 ^ k) (x + y)) ∧ (¬ 0 < c → f = limbs (2 ^ k) (x + y)) := by
  have hW := two_pow_le hk2
  have ia := limbs_is hW h0x
  have ib := limbs_is hW h0y
  rw [← ea] at ia
  rw [← eb] at ib
  have hx : x < (2 ^ k) ^ f.length := Int.lt_of_lt_of_le ia.lt (pow_le_pow hW (by omega))
  have hy : y < (2 ^ k) ^ f.length := Int.lt_of_lt_of_le ib.lt (pow_le_pow hW (by omega))
  rw [Int.emod_eq_of_lt h0x hx, Int.emod_eq_of_lt h0y hy] at hc
  have hp := powPos hW f.length
  refine ⟨fun h => fin_carry hW (by omega) hf hc ?_ h, fun h => fin_none hW (by omega) hf hc ?_ h⟩
  · have : c < 2 := by rw [hc]; exact (Int.ediv_lt_iff_lt_mul hp).mpr (by omega)
    omega
  · intro m hm
    rcases Nat.lt_or_ge m na.length with h1 | h1
    · have := ia.le m h1; omega
    · have := ib.le m (by omega); omega
theorem inc_turn {k : Nat} {x c i : Int} {f na pre post : List Int} (hk2 : 2 ≤ k) (ea : na = limbs (2 ^ k) x) (h0x : 0 ≤ x) (hn : na = pre ++ i :: post) (hi : f.length = pre.length) (hf : f = row (2 ^ k) (x + 1) f.length) (hc : c = (x % (2 ^ k) ^ f.length + 1) / (2 ^ k) ^ f.length) :
    f ++ [Builtin.bitAnd (c + i) (1 * 2 ^ (k : Int).toNat - 1)] = row (2 ^ k) (x + 1) (f ++ [Builtin.bitAnd (c + i) (1 * 2 ^ (k : Int).toNat - 1)]).length ∧
    (c + i).fdiv (2 ^ (k : Int).toNat) = (x % (2 ^ k) ^ (f ++ [Builtin.bitAnd (c + i) (1 * 2 ^ (k : Int).toNat - 1)]).length + 1) / (2 ^ k) ^ (f ++ [Builtin.bitAnd (c + i) (1 * 2 ^ (k : Int).toNat - 1)]).length := by
  have hW := two_pow_le hk2
  have e : i = dg (2 ^ k) x f.length := by
    rw [← limbs_getD hW h0x, ← ea, hn, hi]
    simp
  refine ⟨snoc_row hf ?_, ?_⟩
  · rw [mask_mod, hc, e, inc_dig hW]
  · rw [shr_div, len_snoc, inc_cy hW, hc, e]
theorem inc_end {k : Nat} {x c : Int} {f na : List Int} (hk2 : 2 ≤ k) (ea : na = limbs (2 ^ k) x) (h0x : 0 ≤ x) (hl : f.length = na.length) (hf : f = row (2 ^ k) (x + 1) f.length) (hc : c = (x % (2 ^ k) ^ f.length + 1) / (2 ^ k) ^ f.length) :
    (0 < c → f ++ [c] = limbs (2 ^ k) (x + 1)) ∧ (¬ 0 < c → f = limbs (2 ^ k) (x + 1)) := by
  have hW := two_pow_le hk2
  have ia := limbs_is hW h0x
  rw [← ea] at ia
  have hx : x < (2 ^ k) ^ f.length := by rw [hl]; exact ia.lt
  rw [Int.emod_eq_of_lt h0x hx] at hc
  have hp := powPos hW f.length
  refine ⟨fun h => fin_carry hW (by omega) hf hc ?_ h, fun h => fin_none hW (by omega) hf hc ?_ h⟩
  · have : c < 2 := by rw [hc]; exact (Int.ediv_lt_iff_lt_mul hp).mpr (by omega)
    omega
  · intro m hm
    have := ia.le m (by omega); omega
end Mine
namespace Mine
open PySem PySem.W PyProof.Rows

theorem and_disj (v : Int) : ∀ (c : Nat) (u : Int), 0 ≤ u → u < 2 ^ c → Builtin.bitAnd u (v * 2 ^ c) = 0 := by
  intro c
  induction c with
  | zero =>
    intro u h0 h1
    have : u = 0 := by simp at h1; omega
    subst this
    rw [bitAnd_comm]; exact bitAnd_zero _
  | succ c ih =>
    intro u h0 h1
    have e : v * 2 ^ (c + 1) = 2 * (v * 2 ^ c) := by rw [Int.pow_succ, ← Int.mul_assoc, Int.mul_comm]
    rw [e, kbt_halves]
    rw [Int.pow_succ] at h1
    rw [show 2 * (v * 2 ^ c) / 2 = v * 2 ^ c by omega, ih (u / 2) (by omega) (by omega)]
    rw [if_neg (by omega)]; rfl
theorem or_disj (v : Int) (c : Nat) (u : Int) (h0 : 0 ≤ u) (h1 : u < 2 ^ c) : Builtin.bitOr u (v * 2 ^ c) = u + v * 2 ^ c := by
  rw [bitOr_and, and_disj v c u h0 h1]; omega

theorem pow_pow2 (k q : Nat) : ((2 : Int) ^ k) ^ q = 2 ^ (k * q) := by rw [Int.pow_mul]
theorem two_split (n k : Nat) (hk : 0 < k) : (2 : Int) ^ n = (2 ^ k) ^ (n / k) * 2 ^ (n % k) := by
  rw [pow_pow2, ← Int.pow_add, Nat.div_add_mod]
theorem fdiv_nat (n k : Nat) : ((n : Int).fdiv (k : Int)) = ((n / k : Nat) : Int) := by
  rw [Int.fdiv_eq_ediv_of_nonneg _ (by omega)]; rfl
theorem fmod_nat (n k : Nat) : ((n : Int).fmod (k : Int)) = ((n % k : Nat) : Int) := by
  rw [Int.fmod_eq_emod_of_nonneg _ (by omega)]; rfl

theorem emod_mul_eq {a b : Int} (x : Int) (ha : 0 < a) (hb : 0 < b) : x % (a * b) = x % a + a * (x / a % b) := by
  have h1 : x % a + a * (x / a) = x := Int.emod_add_mul_ediv x a
  have h2 : (x / a) % b + b * (x / a / b) = x / a := Int.emod_add_mul_ediv _ _
  have b1 := Int.emod_nonneg x (show a ≠ 0 by omega)
  have b2 := Int.emod_lt_of_pos x ha
  have c1 := Int.emod_nonneg (x / a) (show b ≠ 0 by omega)
  have c2 := Int.emod_lt_of_pos (x / a) hb
  have key : (x % a + a * (x / a % b)) + (a * b) * (x / a / b) = x := by
    rw [Int.mul_assoc, Int.add_assoc, ← Int.mul_add, h2, h1]
  have lt : x % a + a * (x / a % b) < a * b := by
    have : a * (x / a % b) ≤ a * (b - 1) := Int.mul_le_mul_of_nonneg_left (by omega) (Int.le_of_lt ha)
    rw [Int.mul_sub, Int.mul_one] at this
    omega
  have ge : 0 ≤ x % a + a * (x / a % b) := by
    have : 0 ≤ a * (x / a % b) := Int.mul_nonneg (Int.le_of_lt ha) c1
    omega
  exact ((Int.ediv_emod_unique (Int.mul_pos ha hb)).mpr ⟨key, ge, lt⟩).2
theorem mod_div (y : Int) {r k : Nat} (h : r ≤ k) : (y % 2 ^ k) / 2 ^ r = (y / 2 ^ r) % 2 ^ (k - r) := by
  have hr := kbt_pos r
  have hkr := kbt_pos (k - r)
  have hk : (2 : Int) ^ k = 2 ^ r * 2 ^ (k - r) := by rw [← Int.pow_add]; congr 1; omega
  have h1 : y = y % 2 ^ k + 2 ^ k * (y / 2 ^ k) := (Int.emod_add_mul_ediv y _).symm
  have h2 : y / 2 ^ r = (y % 2 ^ k) / 2 ^ r + 2 ^ (k - r) * (y / 2 ^ k) := by
    conv => lhs; rw [h1, hk, Int.mul_assoc, ← hk]
    rw [Int.add_mul_ediv_left _ _ (by omega)]
  rw [h2, Int.add_mul_emod_self_left]
  refine (Int.emod_eq_of_lt ?_ ?_).symm
  · exact Int.ediv_nonneg (Int.emod_nonneg _ (by have := kbt_pos k; omega)) (Int.le_of_lt hr)
  · refine (Int.ediv_lt_iff_lt_mul hr).mpr ?_
    rw [Int.mul_comm, ← hk]; exact Int.emod_lt_of_pos _ (kbt_pos k)
theorem emod_two_pow (y : Int) {a : Nat} (h : 0 < a) : y % 2 ^ a % 2 = y % 2 := by
  refine Int.emod_emod_of_dvd _ ?_
  obtain ⟨b, rfl⟩ := Nat.exists_eq_add_of_le h
  rw [Int.pow_add]; exact Int.dvd_mul_right _ _

theorem bit_in {k n : Nat} {x : Int} (hk : 0 < k) : dg (2 ^ k) x (n / k) / 2 ^ (n % k) % 2 = x / 2 ^ n % 2 := by
  have hr : n % k < k := Nat.mod_lt _ hk
  unfold dg
  rw [mod_div _ (Nat.le_of_lt hr), emod_two_pow _ (by omega), Int.ediv_ediv_of_nonneg (Int.le_of_lt (powPos (two_pow_ge hk) _)), ← two_split n k hk]
where
  two_pow_ge {k : Nat} (hk : 0 < k) : (2 : Int) ≤ 2 ^ k := by
    have := pow_le_pow (W := 2) (by omega) (show 1 ≤ k from hk)
    simpa using this
theorem bit_out {k n : Nat} {x : Int} (hk : 2 ≤ k) (h0 : 0 ≤ x) (h : (limbs (2 ^ k) x).length ≤ n / k) : x / 2 ^ n % 2 = 0 := by
  have hW := two_pow_le hk
  have a := limbs_is hW h0
  have : x < 2 ^ n := by
    refine Int.lt_of_lt_of_le a.lt (Int.le_trans (pow_le_pow hW h) ?_)
    rw [pow_pow2]
    exact pow_le_pow (W := 2) (by omega) (Nat.mul_div_le n k)
  rw [Int.ediv_eq_zero_of_lt h0 this]; rfl
theorem bit_val {k n : Nat} {x : Int} {na : List Int} (hk : 2 ≤ k) (ea : na = limbs (2 ^ k) x) (h0 : 0 ≤ x) :
    Builtin.bitAnd ((na.getD ((n : Int).fdiv (k : Int)).toNat 0).fdiv (2 ^ ((n : Int).fmod (k : Int)).toNat)) 1 = x / 2 ^ n % 2 := by
  rw [fdiv_nat, fmod_nat, Int.toNat_natCast, Int.toNat_natCast, ea, limbs_getD (two_pow_le hk) h0, Int.fdiv_eq_ediv_of_nonneg _ (Int.le_of_lt (kbt_pos _)), bitAnd_m1]
  exact bit_in (by omega)
theorem bit_none {k n : Nat} {x : Int} {na : List Int} (hk : 2 ≤ k) (ea : na = limbs (2 ^ k) x) (h0 : 0 ≤ x) (h : ¬ (n : Int).fdiv (k : Int) < na.length) : (0 : Int) = x / 2 ^ n % 2 := by
  rw [fdiv_nat] at h
  exact (bit_out hk h0 (by rw [← ea]; omega)).symm

theorem low_all {k n : Nat} {x : Int} {na : List Int} (hk : 2 ≤ k) (ea : na = limbs (2 ^ k) x) (h0 : 0 ≤ x) (h : (na.length : Int) ≤ (n : Int).fdiv (k : Int)) : na = limbs (2 ^ k) (x % 2 ^ n) := by
  rw [fdiv_nat] at h
  have hW := two_pow_le hk
  have a := limbs_is hW h0
  have : x < 2 ^ n := by
    refine Int.lt_of_lt_of_le a.lt (Int.le_trans (pow_le_pow hW (show _ ≤ n / k by rw [← ea]; omega)) ?_)
    rw [pow_pow2]
    exact pow_le_pow (W := 2) (by omega) (Nat.mul_div_le n k)
  rw [Int.emod_eq_of_lt h0 this]; exact ea
theorem low_row {k n : Nat} {x : Int} {na : List Int} (hk : 2 ≤ k) (ea : na = limbs (2 ^ k) x) (h0 : 0 ≤ x) (h : ¬ (na.length : Int) ≤ (n : Int).fdiv (k : Int)) :
    na.take ((n : Int).fdiv (k : Int)).toNat ++ [Builtin.bitAnd (na.getD ((n : Int).fdiv (k : Int)).toNat 0) (1 * 2 ^ ((n : Int).fmod (k : Int)).toNat - 1)] = row (2 ^ k) (x % 2 ^ n) (n / k + 1) ∧ x % 2 ^ n < (2 ^ k) ^ (n / k + 1) := by
  have hW := two_pow_le hk
  have hk0 : 0 < k := by omega
  have hr : n % k < k := Nat.mod_lt _ hk0
  rw [fdiv_nat] at h
  have hq := powPos hW (n / k)
  have hp2 := kbt_pos (n % k)
  have hs := two_split n k hk0
  rw [fdiv_nat, fmod_nat, Int.toNat_natCast, mask_mod]
  -- x % 2^n = x % W^q + W^q * (x / W^q % 2^r)
  have e1 : x % 2 ^ n = x % (2 ^ k) ^ (n / k) + (2 ^ k) ^ (n / k) * (x / (2 ^ k) ^ (n / k) % 2 ^ (n % k)) := by
    rw [hs, emod_mul_eq _ hq hp2]
  have lt1 := Int.emod_lt_of_pos x hq
  have ge1 := Int.emod_nonneg x (show (2 ^ k : Int) ^ (n / k) ≠ 0 by omega)
  have lt2 := Int.emod_lt_of_pos (x / (2 ^ k) ^ (n / k)) hp2
  have ge2 := Int.emod_nonneg (x / (2 ^ k) ^ (n / k)) (show (2 : Int) ^ (n % k) ≠ 0 by omega)
  have hle : (2 : Int) ^ (n % k) ≤ 2 ^ k := pow_le_pow (W := 2) (by omega) (Nat.le_of_lt hr)
  have ed : x % 2 ^ n / (2 ^ k) ^ (n / k) = x / (2 ^ k) ^ (n / k) % 2 ^ (n % k) := by
    rw [e1, Int.add_mul_ediv_left _ _ (by omega), Int.ediv_eq_zero_of_lt ge1 lt1, Int.zero_add]
  constructor
  · rw [row_succ]
    congr 1
    · conv => lhs; rw [ea, (limbs_is hW h0).eq]
      rw [row_take _ _ _ _ (by rw [← ea]; omega)]
      unfold row
      apply List.map_congr_left
      intro i hi
      have hi := List.mem_range.mp hi
      have hp := powPos hW i
      -- digits below agree
      have hq' : (2 ^ k : Int) ^ (n / k) = (2 ^ k) ^ i * (2 ^ k * (2 ^ k) ^ (n / k - i - 1)) := by
        rw [← Int.mul_assoc, ← Int.pow_succ, ← Int.pow_add]; congr 1; omega
      have h3 : (2 : Int) ^ n = (2 ^ k) ^ i * (2 ^ k * ((2 ^ k) ^ (n / k - i - 1) * 2 ^ (n % k))) := by
        rw [hs, hq']; simp only [Int.mul_assoc]
      have h4 : x = x % 2 ^ n + (2 ^ k) ^ i * (2 ^ k * ((2 ^ k) ^ (n / k - i - 1) * 2 ^ (n % k) * (x / 2 ^ n))) := by
        have := (Int.emod_add_mul_ediv x (2 ^ n)).symm
        rw [h3] at this
        rw [h3]
        simp only [Int.mul_assoc] at this ⊢
        exact this
      unfold dg
      conv => lhs; rw [h4]
      rw [Int.add_mul_ediv_left _ _ (by omega), Int.add_mul_emod_self_left]
    · congr 1
      rw [ea, limbs_getD hW h0]
      unfold dg
      rw [ed]
      rw [Int.emod_eq_of_lt (a := x / (2 ^ k) ^ (n / k) % 2 ^ (n % k)) ge2 (by omega)]
      exact Int.emod_emod_of_dvd _ (by
        have : (2 : Int) ^ k = 2 ^ (n % k) * 2 ^ (k - n % k) := by rw [← Int.pow_add]; congr 1; omega
        rw [this]; exact Int.dvd_mul_right _ _)
  · rw [e1, Int.pow_succ]
    have h5 : (2 ^ k : Int) ^ (n / k) * (x / (2 ^ k) ^ (n / k) % 2 ^ (n % k)) ≤ (2 ^ k : Int) ^ (n / k) * (2 ^ k - 1) := Int.mul_le_mul_of_nonneg_left (by omega) (Int.le_of_lt hq)
    rw [Int.mul_sub, Int.mul_one] at h5
    omega
end Mine
namespace Mine
open PySem PySem.W PyProof.Rows

theorem digit_of {W x i : Int} {na pre post : List Int} (ea : na = limbs W x) (hW : 2 ≤ W) (h0 : 0 ≤ x) (hn : na = pre ++ i :: post) : i = dg W x pre.length := by
  rw [← limbs_getD hW h0, ← ea, hn]; simp
theorem mul_carry {W x F : Int} {j : Nat} (hW : 2 ≤ W) (hF : 0 < F) : 0 ≤ (x % W ^ j * F) / W ^ j ∧ (x % W ^ j * F) / W ^ j < F := by
  have hp := powPos hW j
  have a := Int.emod_nonneg x (show W ^ j ≠ 0 by omega)
  have b := Int.emod_lt_of_pos x hp
  refine ⟨Int.ediv_nonneg (Int.mul_nonneg a (by omega)) (by omega), (Int.ediv_lt_iff_lt_mul hp).mpr ?_⟩
  rw [Int.mul_comm F]
  exact Int.mul_lt_mul_of_pos_right b hF
theorem shl_turn {k n : Nat} {x c i : Int} {f f0 na pre post : List Int} (hk2 : 2 ≤ k) (ea : na = limbs (2 ^ k) x) (h0x : 0 ≤ x) (hn : na = pre ++ i :: post) (hf : f = f0 ++ row (2 ^ k) (x * 2 ^ (n % k)) pre.length)
    (hc : c = (x % (2 ^ k) ^ pre.length * 2 ^ (n % k)) / (2 ^ k) ^ pre.length) :
    f ++ [Builtin.bitAnd (Builtin.bitOr c (i * 2 ^ ((n : Int).fmod (k : Int)).toNat)) (1 * 2 ^ (k : Int).toNat - 1)] = f0 ++ row (2 ^ k) (x * 2 ^ (n % k)) (pre ++ [i]).length ∧
    (Builtin.bitOr c (i * 2 ^ ((n : Int).fmod (k : Int)).toNat)).fdiv (2 ^ (k : Int).toNat) = (x % (2 ^ k) ^ (pre ++ [i]).length * 2 ^ (n % k)) / (2 ^ k) ^ (pre ++ [i]).length := by
  have hW := two_pow_le hk2
  have e := digit_of ea hW h0x hn
  have hc' := mul_carry (x := x) (j := pre.length) hW (kbt_pos (n % k))
  rw [fmod_nat, Int.toNat_natCast, or_disj i (n % k) c (by rw [hc]; exact hc'.1) (by rw [hc]; exact hc'.2), mask_mod, shr_div, len_snoc, mul_cy hW, row_succ, mul_dig hW, hf, hc, e]
  simp
theorem zeros_eq (q : Nat) : (List.replicate q [(0 : Int)]).flatten = List.replicate q 0 := by
  induction q with
  | zero => rfl
  | succ q ih => rw [List.replicate_succ, List.flatten_cons, ih]; rfl
theorem row_shift {W : Int} (hW : 2 ≤ W) (y : Int) (q j : Nat) : List.replicate q 0 ++ row W y j = row W (y * W ^ q) (q + j) := by
  unfold row
  rw [List.range_add, List.map_append, List.map_map]
  congr 1
  · apply List.ext_getElem
    · simp
    · intro i h1 h2
      simp only [List.getElem_replicate, List.getElem_map, List.getElem_range]
      have hi : i < q := by simpa using h1
      unfold dg
      have : W ^ q = W ^ i * (W * W ^ (q - i - 1)) := by
        rw [← Int.mul_assoc, ← Int.pow_succ, ← Int.pow_add]; congr 1; omega
      rw [this, ← Int.mul_assoc, Int.mul_comm y, Int.mul_assoc, Int.mul_ediv_cancel_left _ (by have := powPos hW i; omega)]
      rw [Int.mul_comm, Int.mul_assoc, Int.mul_emod_right]
  · apply List.map_congr_left
    intro i _
    simp only [Function.comp]
    unfold dg
    rw [Int.pow_add, Int.mul_comm y, Int.mul_ediv_mul_of_pos _ _ (powPos hW q)]
theorem shl_end {k n : Nat} {x c : Int} {f na : List Int} (hk2 : 2 ≤ k) (ea : na = limbs (2 ^ k) x) (h0x : 0 ≤ x) (hne : (na.length : Int) ≠ 0) (hf : f = (List.replicate ((n : Int).fdiv (k : Int)).toNat [0]).flatten ++ row (2 ^ k) (x * 2 ^ (n % k)) na.length)
    (hc : c = (x % (2 ^ k) ^ na.length * 2 ^ (n % k)) / (2 ^ k) ^ na.length) :
    (0 < c → f ++ [c] = limbs (2 ^ k) (x * 2 ^ n)) ∧ (¬ 0 < c → f = limbs (2 ^ k) (x * 2 ^ n)) := by
  have hW := two_pow_le hk2
  have ia := limbs_is hW h0x
  rw [← ea] at ia
  have hF := kbt_pos (n % k)
  have hq := powPos hW (n / k)
  have hl := powPos hW na.length
  have hcc := mul_carry (x := x) (j := na.length) hW hF
  rw [Int.emod_eq_of_lt h0x ia.lt] at hc hcc
  rw [fdiv_nat, Int.toNat_natCast, zeros_eq, row_shift hW] at hf
  have e : x * 2 ^ (n % k) * (2 ^ k) ^ (n / k) = x * 2 ^ n := by
    rw [two_split n k (by omega), Int.mul_assoc, Int.mul_comm (2 ^ (n % k))]
  rw [e] at hf
  have hFW : (2 : Int) ^ (n % k) ≤ 2 ^ k := pow_le_pow (W := 2) (by omega) (Nat.le_of_lt (Nat.mod_lt _ (by omega)))
  have hc2 : c = x * 2 ^ n / (2 ^ k) ^ (n / k + na.length) := by
    rw [hc, ← e, Int.pow_add, Int.mul_comm ((2 ^ k) ^ (n / k)) ((2 ^ k) ^ na.length), Int.mul_ediv_mul_of_pos_left _ _ hq]
  have h0 : 0 ≤ x * 2 ^ n := Int.mul_nonneg h0x (Int.le_of_lt (kbt_pos n))
  refine ⟨fun h => fin_carry hW h0 hf hc2 (by omega) h, fun h => fin_none hW h0 hf hc2 ?_ h⟩
  intro m hm
  have h1 := ia.le (na.length - 1) (by omega)
  refine Int.le_trans (pow_le_pow hW (show m ≤ (na.length - 1) + n / k by omega)) ?_
  rw [Int.pow_add, ← e]
  refine Int.le_trans (Int.mul_le_mul_of_nonneg_right h1 (Int.le_of_lt hq)) ?_
  refine Int.mul_le_mul_of_nonneg_right ?_ (Int.le_of_lt hq)
  have := Int.mul_le_mul_of_nonneg_left (show (1 : Int) ≤ 2 ^ (n % k) by omega) h0x
  omega
theorem shl_nil {k n : Nat} {x : Int} {na : List Int} (hk2 : 2 ≤ k) (ea : na = limbs (2 ^ k) x) (h0x : 0 ≤ x) (h : (na.length : Int) = 0) : [] = limbs (2 ^ k) (x * 2 ^ n) := by
  have : x = 0 := limbs_eq_nil (two_pow_le hk2) h0x (by rw [← ea]; omega)
  rw [this, Int.zero_mul]; rfl

theorem shr_dig {k n : Nat} {x : Int} {i j : Nat} (hk2 : 2 ≤ k) (hi : i = n / k + j) :
    Builtin.bitAnd (Builtin.bitOr ((dg (2 ^ k) x i).fdiv (2 ^ (n % k))) (dg (2 ^ k) x (i + 1) * 2 ^ (k - n % k))) (1 * 2 ^ ((k : Nat) : Int).toNat - 1) = dg (2 ^ k) (x / 2 ^ n) j := by
  have hW := two_pow_le hk2
  have hk0 : 0 < k := by omega
  have hr : n % k < k := Nat.mod_lt _ hk0
  have hp := kbt_pos (n % k)
  have hkr := kbt_pos (k - n % k)
  have hpi := powPos hW i
  have hpj := powPos hW j
  have hpq := powPos hW (n / k)
  have hkk : (2 : Int) ^ k = 2 ^ (n % k) * 2 ^ (k - n % k) := by rw [← Int.pow_add]; congr 1; omega
  have u0 : 0 ≤ dg (2 ^ k) x i / 2 ^ (n % k) := Int.ediv_nonneg (dg_nonneg hW x i) (Int.le_of_lt hp)
  have u1 : dg (2 ^ k) x i / 2 ^ (n % k) < 2 ^ (k - n % k) := by
    refine (Int.ediv_lt_iff_lt_mul hp).mpr ?_
    rw [Int.mul_comm, ← hkk]; exact dg_lt hW x i
  rw [mask_mod, Int.fdiv_eq_ediv_of_nonneg _ (Int.le_of_lt hp), or_disj _ _ _ u0 u1]
  have e1 : x / 2 ^ n / (2 ^ k) ^ j = x / (2 ^ k) ^ i / 2 ^ (n % k) := by
    rw [Int.ediv_ediv_of_nonneg (Int.le_of_lt (kbt_pos n)), Int.ediv_ediv_of_nonneg (Int.le_of_lt hpi), two_split n k hk0, hi, Int.pow_add]
    congr 1
    rw [Int.mul_assoc, Int.mul_assoc, Int.mul_comm (2 ^ (n % k))]
  have h2 : x / (2 ^ k) ^ i / 2 ^ (n % k) = dg (2 ^ k) x i / 2 ^ (n % k) + 2 ^ (k - n % k) * (x / (2 ^ k) ^ (i + 1)) := by
    have h1 : x / (2 ^ k) ^ i = dg (2 ^ k) x i + 2 ^ k * (x / (2 ^ k) ^ (i + 1)) := by
      have := (Int.emod_add_mul_ediv (x / (2 ^ k) ^ i) (2 ^ k)).symm
      rwa [Int.ediv_ediv_of_nonneg (Int.le_of_lt hpi), ← Int.pow_succ] at this
    conv => lhs; rw [h1, hkk, Int.mul_assoc, ← hkk]
    rw [Int.add_mul_ediv_left _ _ (by omega)]
  show _ = x / 2 ^ n / (2 ^ k) ^ j % 2 ^ k
  rw [e1, h2, Int.mul_comm _ ((2 : Int) ^ (k - n % k))]
  rw [Int.add_emod, Int.mul_emod, dg_mod, ← Int.mul_emod, ← Int.add_emod]
theorem sub_nat_cast {k r : Nat} (h : r ≤ k) : ((k : Int) - (r : Int)).toNat = k - r := by omega
theorem shr_turn1 {k n : Nat} {x i : Int} {f na : List Int} (hk2 : 2 ≤ k) (ea : na = limbs (2 ^ k) x) (h0x : 0 ≤ x) (hi : i = (n : Int).fdiv (k : Int) + (f.length : Int)) (hf : f = row (2 ^ k) (x / 2 ^ n) f.length) :
    f ++ [Builtin.bitAnd (Builtin.bitOr ((na.getD i.toNat 0).fdiv (2 ^ ((n : Int).fmod (k : Int)).toNat)) (na.getD (i + 1).toNat 0 * 2 ^ ((k : Int) - (n : Int).fmod (k : Int)).toNat)) (1 * 2 ^ (k : Int).toNat - 1)] =
      row (2 ^ k) (x / 2 ^ n) (f ++ [Builtin.bitAnd (Builtin.bitOr ((na.getD i.toNat 0).fdiv (2 ^ ((n : Int).fmod (k : Int)).toNat)) (na.getD (i + 1).toNat 0 * 2 ^ ((k : Int) - (n : Int).fmod (k : Int)).toNat)) (1 * 2 ^ (k : Int).toNat - 1)]).length := by
  have hW := two_pow_le hk2
  refine snoc_row hf ?_
  rw [fdiv_nat] at hi
  have hr : n % k < k := Nat.mod_lt _ (by omega)
  rw [fmod_nat, Int.toNat_natCast, sub_nat_cast (Nat.le_of_lt hr), ea, limbs_getD hW h0x, limbs_getD hW h0x, show (i + 1).toNat = i.toNat + 1 by generalize n / k = q at hi; omega]
  exact shr_dig hk2 (by generalize n / k = q at hi ⊢; omega)
theorem shr_turn0 {k n : Nat} {x i : Int} {f na : List Int} (hk2 : 2 ≤ k) (ea : na = limbs (2 ^ k) x) (h0x : 0 ≤ x) (hi : i = (n : Int).fdiv (k : Int) + (f.length : Int)) (hge : ¬ i + 1 < na.length) (hf : f = row (2 ^ k) (x / 2 ^ n) f.length) :
    f ++ [Builtin.bitAnd (Builtin.bitOr ((na.getD i.toNat 0).fdiv (2 ^ ((n : Int).fmod (k : Int)).toNat)) (0 * 2 ^ ((k : Int) - (n : Int).fmod (k : Int)).toNat)) (1 * 2 ^ (k : Int).toNat - 1)] =
      row (2 ^ k) (x / 2 ^ n) (f ++ [Builtin.bitAnd (Builtin.bitOr ((na.getD i.toNat 0).fdiv (2 ^ ((n : Int).fmod (k : Int)).toNat)) (0 * 2 ^ ((k : Int) - (n : Int).fmod (k : Int)).toNat)) (1 * 2 ^ (k : Int).toNat - 1)]).length := by
  have hW := two_pow_le hk2
  refine snoc_row hf ?_
  rw [fdiv_nat] at hi
  have hr : n % k < k := Nat.mod_lt _ (by omega)
  have hz : dg (2 ^ k) x (i.toNat + 1) = 0 := dg_above hW h0x (by rw [← ea]; generalize n / k = q at hi; omega)
  rw [fmod_nat, Int.toNat_natCast, sub_nat_cast (Nat.le_of_lt hr), ea, limbs_getD hW h0x]
  conv => lhs; rw [← hz]
  exact shr_dig hk2 (by generalize n / k = q at hi ⊢; omega)
theorem shr_lt {k n : Nat} {x : Int} {na : List Int} {j : Nat} (hk2 : 2 ≤ k) (ea : na = limbs (2 ^ k) x) (h0x : 0 ≤ x) (hj : na.length ≤ n / k + j) : 0 ≤ x / 2 ^ n ∧ x / 2 ^ n < (2 ^ k) ^ j := by
  have hW := two_pow_le hk2
  have ia := limbs_is hW h0x
  rw [← ea] at ia
  refine ⟨Int.ediv_nonneg h0x (Int.le_of_lt (kbt_pos n)), (Int.ediv_lt_iff_lt_mul (kbt_pos n)).mpr ?_⟩
  refine Int.lt_of_lt_of_le ia.lt (Int.le_trans (pow_le_pow hW hj) ?_)
  rw [two_split n k (by omega), Int.pow_add, Int.mul_comm, ← Int.mul_assoc]
  have h1 := kbt_pos (n % k)
  have h2 : (0 : Int) ≤ (2 ^ k) ^ j * (2 ^ k) ^ (n / k) := Int.mul_nonneg (Int.le_of_lt (powPos hW _)) (Int.le_of_lt (powPos hW _))
  have := Int.mul_le_mul_of_nonneg_left (show (1 : Int) ≤ 2 ^ (n % k) by omega) h2
  omega

theorem sub_bor {W x y : Int} {j : Nat} (hW : 2 ≤ W) : -1 ≤ (x % W ^ j - y % W ^ j) / W ^ j ∧ (x % W ^ j - y % W ^ j) / W ^ j ≤ 0 := by
  have hp := powPos hW j
  have a1 := Int.emod_nonneg x (show W ^ j ≠ 0 by omega)
  have a2 := Int.emod_lt_of_pos x hp
  have b1 := Int.emod_nonneg y (show W ^ j ≠ 0 by omega)
  have b2 := Int.emod_lt_of_pos y hp
  constructor
  · exact (Int.le_ediv_iff_mul_le hp).mpr (by omega)
  · have : (x % W ^ j - y % W ^ j) / W ^ j < 1 := (Int.ediv_lt_iff_lt_mul hp).mpr (by omega)
    omega
theorem sub_turn {k : Nat} {x y b t u v : Int} {f : List Int} (hk2 : 2 ≤ k) (hf : f = row (2 ^ k) (x - y) f.length) (hb : b = -((x % (2 ^ k) ^ f.length - y % (2 ^ k) ^ f.length) / (2 ^ k) ^ f.length))
    (hu : u = dg (2 ^ k) x f.length) (hv : v = dg (2 ^ k) y f.length) (ht : t = u - b - v) :
    (t < 0 → f ++ [t + 1 * 2 ^ (k : Int).toNat] = row (2 ^ k) (x - y) (f ++ [t + 1 * 2 ^ (k : Int).toNat]).length ∧ (1 : Int) = -((x % (2 ^ k) ^ (f ++ [t + 1 * 2 ^ (k : Int).toNat]).length - y % (2 ^ k) ^ (f ++ [t + 1 * 2 ^ (k : Int).toNat]).length) / (2 ^ k) ^ (f ++ [t + 1 * 2 ^ (k : Int).toNat]).length)) ∧
    (¬ t < 0 → f ++ [t] = row (2 ^ k) (x - y) (f ++ [t]).length ∧ (0 : Int) = -((x % (2 ^ k) ^ (f ++ [t]).length - y % (2 ^ k) ^ (f ++ [t]).length) / (2 ^ k) ^ (f ++ [t]).length)) := by
  have hW := two_pow_le hk2
  have hbo := sub_bor (x := x) (y := y) (j := f.length) hW
  have x1 := dg_nonneg hW x f.length
  have x2 := dg_lt hW x f.length
  have y1 := dg_nonneg hW y f.length
  have y2 := dg_lt hW y f.length
  have et : t = (x % (2 ^ k) ^ f.length - y % (2 ^ k) ^ f.length) / (2 ^ k) ^ f.length + (dg (2 ^ k) x f.length - dg (2 ^ k) y f.length) := by omega
  constructor
  · intro h
    have e1 : t / 2 ^ k = -1 ∧ t % 2 ^ k = t + 2 ^ k := kbt_unique (by omega) (by omega) (by omega) (by omega)
    refine ⟨snoc_row hf ?_, ?_⟩
    · rw [sub_dig hW, ← et, e1.2, Int.one_mul, Int.toNat_natCast]
    · rw [len_snoc, sub_cy hW, ← et, e1.1]; rfl
  · intro h
    have e1 : t / 2 ^ k = 0 ∧ t % 2 ^ k = t := kbt_unique (by omega) (by omega) (by omega) (by omega)
    refine ⟨snoc_row hf ?_, ?_⟩
    · rw [sub_dig hW, ← et, e1.2]
    · rw [len_snoc, sub_cy hW, ← et, e1.1]; rfl

theorem cmp_step {W x y : Int} {j : Nat} (hW : 2 ≤ W) (h : x / W ^ (j + 1) = y / W ^ (j + 1)) (e : dg W x j = dg W y j) : x / W ^ j = y / W ^ j := by
  have hp := powPos hW j
  have h1 := (Int.emod_add_mul_ediv (x / W ^ j) W).symm
  have h2 := (Int.emod_add_mul_ediv (y / W ^ j) W).symm
  rw [Int.ediv_ediv_of_nonneg (Int.le_of_lt hp), ← Int.pow_succ] at h1 h2
  unfold dg at e
  rw [h1, h2, h, e]
theorem cmp_lt {W x y : Int} {j : Nat} (hW : 2 ≤ W) (h : x / W ^ (j + 1) = y / W ^ (j + 1)) (e : dg W x j < dg W y j) : x < y := by
  have hp := powPos hW j
  have h1 := (Int.emod_add_mul_ediv (x / W ^ j) W).symm
  have h2 := (Int.emod_add_mul_ediv (y / W ^ j) W).symm
  rw [Int.ediv_ediv_of_nonneg (Int.le_of_lt hp), ← Int.pow_succ] at h1 h2
  unfold dg at e
  refine Int.not_le.mp fun hle => ?_
  have h3 := Int.ediv_le_ediv hp hle
  have h4 : W * (x / W ^ (j + 1)) = W * (y / W ^ (j + 1)) := by rw [h]
  change x / W ^ j = x / W ^ j % W + W * (x / W ^ (j + 1)) at h1
  change y / W ^ j = y / W ^ j % W + W * (y / W ^ (j + 1)) at h2
  omega
end Mine
namespace Mine
open PySem PySem.W PyProof.Rows
theorem cmp_start {k : Nat} {x y : Int} {na nb : List Int} {j : Nat} (hk2 : 2 ≤ k) (ea : na = limbs (2 ^ k) x) (eb : nb = limbs (2 ^ k) y) (h : na.length = nb.length) (h0x : 0 ≤ x) (h0y : 0 ≤ y) (hj : j = na.length) : x / (2 ^ k) ^ j = y / (2 ^ k) ^ j := by
  have hW := two_pow_le hk2
  have ia := (limbs_is hW h0x).lt
  have ib := (limbs_is hW h0y).lt
  rw [← ea] at ia
  rw [← eb, ← h] at ib
  rw [hj, Int.ediv_eq_zero_of_lt h0x ia, Int.ediv_eq_zero_of_lt h0y ib]
end Mine
namespace Mine
open PySem PySem.W PyProof.Rows
theorem cmp_next {k : Nat} {x y n : Int} {na nb pre : List Int} (hk2 : 2 ≤ k) (ea : na = limbs (2 ^ k) x) (eb : nb = limbs (2 ^ k) y) (h0x : 0 ≤ x) (h0y : 0 ≤ y) (hn : n = (na.length : Int) - 1 - (pre.length : Int)) (hl : pre.length < ((na.length : Int) - 1 - -1).toNat)
    (hi : x / (2 ^ k) ^ (na.length - pre.length) = y / (2 ^ k) ^ (na.length - pre.length)) (e : na.getD n.toNat 0 = nb.getD n.toNat 0) :
    x / (2 ^ k) ^ (na.length - (pre ++ [n]).length) = y / (2 ^ k) ^ (na.length - (pre ++ [n]).length) := by
  have hW := two_pow_le hk2
  rw [len_snoc]
  rw [show na.length - pre.length = (na.length - (pre.length + 1)) + 1 by omega] at hi
  refine cmp_step hW hi ?_
  rw [getD_at ea hW h0x rfl, getD_at eb hW h0y rfl, show n.toNat = na.length - (pre.length + 1) by omega] at e
  exact e
theorem cmp_no {k : Nat} {x y n : Int} {na nb pre : List Int} (hk2 : 2 ≤ k) (ea : na = limbs (2 ^ k) x) (eb : nb = limbs (2 ^ k) y) (h0x : y ≤ x) (h0y : 0 ≤ y) (hn : n = (na.length : Int) - 1 - (pre.length : Int)) (hl : pre.length < ((na.length : Int) - 1 - -1).toNat)
    (hi : x / (2 ^ k) ^ (na.length - pre.length) = y / (2 ^ k) ^ (na.length - pre.length)) (e : na.getD n.toNat 0 < nb.getD n.toNat 0) : False := by
  have hW := two_pow_le hk2
  rw [show na.length - pre.length = (na.length - (pre.length + 1)) + 1 by omega] at hi
  rw [getD_at ea hW (Int.le_trans h0y h0x) rfl, getD_at eb hW h0y rfl, show n.toNat = na.length - (pre.length + 1) by omega] at e
  have := cmp_lt hW hi e
  omega
end Mine
namespace Mine
open PySem PySem.W PyProof.Rows
theorem sub_get1 {k : Nat} {x i : Int} {na : List Int} {j : Nat} (hk2 : 2 ≤ k) (ea : na = limbs (2 ^ k) x) (h0 : 0 ≤ x) (h : i.toNat = j) : na.getD i.toNat 0 = dg (2 ^ k) x j := getD_at ea (two_pow_le hk2) h0 h
theorem sub_get0 {k : Nat} {x : Int} {na : List Int} {j : Nat} (hk2 : 2 ≤ k) (ea : na = limbs (2 ^ k) x) (h0 : 0 ≤ x) (h : na.length ≤ j) : (0 : Int) = dg (2 ^ k) x j := (dg_above (two_pow_le hk2) h0 (by rw [← ea]; exact h)).symm
theorem sub_lt {k : Nat} {x y : Int} {na : List Int} {j : Nat} (hk2 : 2 ≤ k) (ea : na = limbs (2 ^ k) x) (h0 : 0 ≤ x) (h0y : 0 ≤ y) (h : j = na.length) : x - y < (2 ^ k) ^ j := by
  have := (limbs_is (two_pow_le hk2) h0).lt
  rw [← ea, ← h] at this
  omega
end Mine
namespace Mine
open PySem PySem.W PyProof.Rows
theorem limbs_one {k : Nat} (hk2 : 2 ≤ k) : [(1 : Int)] = limbs (2 ^ k) 1 := by
  have hW := two_pow_le hk2
  refine IsLimbs.limbs hW ⟨by decide, ?_, ?_, ?_⟩
  · simp only [List.length_cons, List.length_nil, Nat.zero_add]
    rw [show row (2 ^ k) 1 1 = [dg (2 ^ k) 1 0] from rfl, dg_zero, Int.emod_eq_of_lt (by decide) (by omega)]
  · simp only [List.length_cons, List.length_nil, Nat.zero_add, Int.pow_one]; omega
  · intro n hn
    have : n = 0 := by simpa using hn
    subst this; simp
end Mine
namespace Mine
open PySem PySem.W PyProof.Rows

theorem rep_flat (q : Nat) (v : Int) : (List.replicate q [v]).flatten = List.replicate q v := by
  induction q with
  | zero => rfl
  | succ q ih => rw [List.replicate_succ, List.flatten_cons, ih]; rfl
theorem dg_neg {W : Int} (hW : 2 ≤ W) (z : Int) (i : Nat) : dg W z i = W - 1 - dg W (-z - 1) i := by
  have hp := powPos hW i
  unfold dg
  rw [(kbt_below z hp).1, (kbt_below (-((-z - 1) / W ^ i) - 1) (show 0 < W by omega)).2]
  congr 2
  omega
theorem row_ext {W z : Int} {l : List Int} {n : Nat} (h : l.length = n) (e : ∀ i, i < n → l.getD i 0 = dg W z i) : l = row W z n := by
  apply List.ext_getElem
  · rw [h, row_length]
  · intro i h1 h2
    have := e i (by omega)
    rw [List.getD_eq_getElem?_getD, List.getElem?_eq_getElem h1] at this
    simp only [Option.getD_some] at this
    rw [this]
    simp [row]
theorem row_pad {k sz : Nat} {x : Int} {nx : List Int} (hk2 : 2 ≤ k) (ex : nx = limbs (2 ^ k) x) (h0 : 0 ≤ x) (hl : nx.length ≤ sz) : nx ++ (List.replicate ((sz : Int) - nx.length).toNat [0]).flatten = row (2 ^ k) x sz := by
  have hW := two_pow_le hk2
  rw [rep_flat]
  refine row_ext (by simp; omega) fun i hi => ?_
  rw [← limbs_getD hW h0, ← ex]
  by_cases h : i < nx.length
  · simp [List.getD_eq_getElem?_getD, List.getElem?_append_left h]
  · rw [List.getD_eq_getElem?_getD, List.getD_eq_getElem?_getD, List.getElem?_append_right (by omega), List.getElem?_eq_none (l := nx) (by omega)]
    rw [List.getElem?_replicate]
    split <;> rfl
theorem map_flip {k : Nat} {x : Int} {l : List Int} {n : Nat} (hk2 : 2 ≤ k) (hl : l = row (2 ^ k) x n) : l.map (fun d => 1 * 2 ^ (k : Int).toNat - 1 - d) = row (2 ^ k) (-x - 1) n := by
  have hW := two_pow_le hk2
  subst hl
  unfold row
  rw [List.map_map]
  apply List.map_congr_left
  intro i _
  show 1 * 2 ^ (k : Int).toNat - 1 - dg (2 ^ k) x i = dg (2 ^ k) (-x - 1) i
  rw [dg_neg hW (-x - 1), Int.one_mul, Int.toNat_natCast]
  congr 2
  omega
theorem row_flip {k sz : Nat} {z : Int} {nl : List Int} (hk2 : 2 ≤ k) (hz : z < 0) (el : nl = limbs (2 ^ k) (z.natAbs - 1)) (hl : (limbs (2 ^ k) z.natAbs).length ≤ sz) :
    nl.map (fun d => 1 * 2 ^ (k : Int).toNat - 1 - d) ++ (List.replicate ((sz : Int) - nl.length).toNat [1 * 2 ^ (k : Int).toNat - 1]).flatten = row (2 ^ k) z sz := by
  have hW := two_pow_le hk2
  have h0 : (0 : Int) ≤ (z.natAbs : Int) - 1 := by omega
  have e : -z - 1 = (z.natAbs : Int) - 1 := by omega
  have hle : nl.length ≤ sz := by
    rw [el]
    refine limbs_len_le hW h0 ?_
    have a := (limbs_is hW (show (0 : Int) ≤ (z.natAbs : Int) by omega)).lt
    have b := pow_le_pow hW hl
    omega
  have key : nl ++ (List.replicate ((sz : Int) - nl.length).toNat [0]).flatten = row (2 ^ k) (-z - 1) sz := by
    rw [e]; exact row_pad hk2 el h0 hle
  have := map_flip hk2 key.symm.symm
  rw [List.map_append, rep_flat, List.map_replicate] at this
  rw [rep_flat]
  have e2 : -(-z - 1) - 1 = z := by omega
  rw [e2, Int.sub_zero] at this
  exact this
theorem num_fst {k : Nat} {z : Int} {b : Bool} (e : (num (2 ^ k) z).1 = b) : (b = true → z < 0) ∧ (b = false → 0 ≤ z) := by
  subst e
  unfold num
  simp
theorem numof_sign {k sz : Nat} {z : Int} {na : List Int} (hk2 : 2 ≤ k) (ea : na = row (2 ^ k) z sz) (hsz : 0 < sz) (h1 : -(2 ^ k) ^ sz ≤ 2 * z) (h2 : 2 * z < (2 ^ k) ^ sz) :
    ((na.getD (-1 + (na.length : Int)).toNat 0).fdiv (2 ^ ((k : Int) - 1).toNat) = 0 → 0 ≤ z) ∧ ((na.getD (-1 + (na.length : Int)).toNat 0).fdiv (2 ^ ((k : Int) - 1).toNat) ≠ 0 → z < 0) := by
  have hW := two_pow_le hk2
  have hl : na.length = sz := by rw [ea, row_length]
  have hi : (-1 + (na.length : Int)).toNat = sz - 1 := by omega
  have hp := powPos hW (sz - 1)
  have hH := kbt_pos (k - 1)
  have eW : (2 : Int) ^ k = 2 * 2 ^ (k - 1) := by
    rw [← Int.pow_succ']; congr 1; omega
  have eS : ((2 : Int) ^ k) ^ sz = (2 ^ k) ^ (sz - 1) * (2 * 2 ^ (k - 1)) := by
    rw [← eW, ← Int.pow_succ]; congr 1; omega
  rw [hi, ea, row_getD _ _ _ _ (by omega), show ((k : Int) - 1).toNat = k - 1 by omega, Int.fdiv_eq_ediv_of_nonneg _ (Int.le_of_lt hH)]
  rw [eS] at h1 h2
  have q1 : z / (2 ^ k) ^ (sz - 1) < 2 ^ (k - 1) := by
    refine (Int.ediv_lt_iff_lt_mul hp).mpr ?_
    rw [Int.mul_comm]
    rw [Int.mul_left_comm] at h2
    omega
  have q2 : - 2 ^ (k - 1) ≤ z / (2 ^ k) ^ (sz - 1) := by
    refine (Int.le_ediv_iff_mul_le hp).mpr ?_
    rw [Int.neg_mul, Int.mul_comm]
    rw [Int.mul_left_comm] at h1
    omega
  unfold dg
  constructor
  · intro h
    refine Int.not_lt.mp fun hz => ?_
    have q3 : z / (2 ^ k) ^ (sz - 1) < 0 := Int.ediv_neg_of_neg_of_pos hz hp
    have q4 : (z / (2 ^ k) ^ (sz - 1)) % 2 ^ k = z / (2 ^ k) ^ (sz - 1) + 2 ^ k := (kbt_unique (q := -1) (r := z / (2 ^ k) ^ (sz - 1) + 2 ^ k) (show (0 : Int) < 2 ^ k by omega) (by omega) (by omega) (by omega)).2
    rw [q4] at h
    have : 1 ≤ (z / (2 ^ k) ^ (sz - 1) + 2 ^ k) / 2 ^ (k - 1) := (Int.le_ediv_iff_mul_le hH).mpr (by omega)
    omega
  · intro h
    refine Int.not_le.mp fun hz => h ?_
    have q3 : 0 ≤ z / (2 ^ k) ^ (sz - 1) := Int.ediv_nonneg hz (Int.le_of_lt hp)
    rw [Int.emod_eq_of_lt q3 (by omega), Int.ediv_eq_zero_of_lt q3 q1]
theorem numof_pos {k sz : Nat} {z : Int} {na : List Int} (hk2 : 2 ≤ k) (ea : na = row (2 ^ k) z sz) (h2 : 2 * z < (2 ^ k) ^ sz) (hz : 0 ≤ z) : na = row (2 ^ k) z na.length ∧ z < (2 ^ k) ^ na.length := by
  have hl : na.length = sz := by rw [ea, row_length]
  rw [hl]
  exact ⟨ea, by omega⟩
theorem numof_neg {k sz : Nat} {z : Int} {na : List Int} (hk2 : 2 ≤ k) (ea : na = row (2 ^ k) z sz) (h1 : -(2 ^ k) ^ sz ≤ 2 * z) (hz : z < 0) :
    na.map (fun d => 1 * 2 ^ (k : Int).toNat - 1 - d) = row (2 ^ k) (-z - 1) (na.map (fun d => 1 * 2 ^ (k : Int).toNat - 1 - d)).length ∧ -z - 1 < (2 ^ k) ^ (na.map (fun d => 1 * 2 ^ (k : Int).toNat - 1 - d)).length := by
  have hl : na.length = sz := by rw [ea, row_length]
  rw [List.length_map, hl]
  exact ⟨map_flip hk2 ea, by omega⟩
theorem num_pos {k : Nat} {z : Int} (hz : 0 ≤ z) : (false, limbs (2 ^ k) z) = num (2 ^ k) z := by
  unfold num
  rw [decide_eq_false (by omega), show (z.natAbs : Int) = z by omega]
theorem num_neg {k : Nat} {z : Int} (hz : z < 0) : (true, limbs (2 ^ k) (-z)) = num (2 ^ k) z := by
  unfold num
  rw [decide_eq_true hz, show (z.natAbs : Int) = -z by omega]
end Mine
namespace Mine
open PySem PySem.W PyProof.Rows
structure IsBitOp (f : Int → Int → Int) : Prop where
  div : ∀ x y, f x y / 2 = f (x / 2) (y / 2)
  mod : ∀ x y, f x y % 2 = f (x % 2) (y % 2) % 2
  zero : f 0 0 = 0
  sgn : ∀ x y, (x = 0 ∨ x = -1) → (y = 0 ∨ y = -1) → f x y = 0 ∨ f x y = -1
  bits : ∀ x y, (x = 0 ∨ x = 1) → (y = 0 ∨ y = 1) → f x y = 0 ∨ f x y = 1
theorem isBitOp_and : IsBitOp Builtin.bitAnd := by
  refine ⟨fun x y => ?_, fun x y => ?_, rfl, ?_, ?_⟩
  · rw [kbt_halves x y]; split <;> omega
  · rw [kbt_halves x y, kbt_halves (x % 2) (y % 2)]
    rw [show x % 2 % 2 = x % 2 by omega, show y % 2 % 2 = y % 2 by omega]
    split <;> omega
  · rintro x y (rfl | rfl) (rfl | rfl) <;> decide
  · rintro x y (rfl | rfl) (rfl | rfl) <;> decide
theorem isBitOp_or : IsBitOp Builtin.bitOr := by
  refine ⟨fun x y => ?_, fun x y => ?_, rfl, ?_, ?_⟩
  · rw [bitOr_and, bitOr_and, kbt_halves x y]; split <;> omega
  · rw [bitOr_and, bitOr_and, kbt_halves x y, kbt_halves (x % 2) (y % 2)]
    rw [show x % 2 % 2 = x % 2 by omega, show y % 2 % 2 = y % 2 by omega]
    split <;> omega
  · rintro x y (rfl | rfl) (rfl | rfl) <;> decide
  · rintro x y (rfl | rfl) (rfl | rfl) <;> decide
theorem isBitOp_xor : IsBitOp Builtin.bitXor := by
  refine ⟨fun x y => ?_, fun x y => ?_, rfl, ?_, ?_⟩
  · rw [bitXor_and, bitXor_and, kbt_halves x y]; split <;> omega
  · rw [bitXor_and, bitXor_and, kbt_halves x y, kbt_halves (x % 2) (y % 2)]
    rw [show x % 2 % 2 = x % 2 by omega, show y % 2 % 2 = y % 2 by omega]
    split <;> omega
  · rintro x y (rfl | rfl) (rfl | rfl) <;> decide
  · rintro x y (rfl | rfl) (rfl | rfl) <;> decide
theorem halve_pow (x : Int) (n : Nat) : x % 2 ^ (n + 1) / 2 = x / 2 % 2 ^ n := by
  have := mod_div x (r := 1) (k := n + 1) (by omega)
  simpa using this
namespace IsBitOp
variable {f : Int → Int → Int}
theorem div_pow (h : IsBitOp f) : ∀ (n : Nat) (x y : Int), f x y / 2 ^ n = f (x / 2 ^ n) (y / 2 ^ n)
  | 0, x, y => by simp
  | n + 1, x, y => by
    have e : ∀ z : Int, z / 2 ^ (n + 1) = z / 2 / 2 ^ n := fun z => by rw [Int.pow_succ', Int.ediv_ediv_of_nonneg (by decide)]
    rw [e, e x, e y, h.div, h.div_pow n]
theorem ext2 {a b : Int} (h1 : a / 2 = b / 2) (h2 : a % 2 = b % 2) : a = b := by omega
theorem mod_pow (h : IsBitOp f) : ∀ (n : Nat) (x y : Int), f x y % 2 ^ n = f (x % 2 ^ n) (y % 2 ^ n)
  | 0, x, y => by simp [Int.emod_one, h.zero]
  | n + 1, x, y => by
    refine ext2 ?_ ?_
    · rw [halve_pow, h.div, h.mod_pow n, h.div (x % 2 ^ (n + 1)), halve_pow, halve_pow]
    · rw [emod_two_pow _ (by omega), h.mod, h.mod (x % 2 ^ (n + 1)), emod_two_pow _ (by omega), emod_two_pow _ (by omega)]
theorem dg (h : IsBitOp f) (k : Nat) (x y : Int) (i : Nat) : f (Mine.dg (2 ^ k) x i) (Mine.dg (2 ^ k) y i) = Mine.dg (2 ^ k) (f x y) i := by
  unfold Mine.dg
  rw [pow_pow2, h.div_pow, h.mod_pow]
theorem row (h : IsBitOp f) (k : Nat) (x y : Int) (n : Nat) : ∀ {l l' : List Int}, l = Mine.row (2 ^ k) x n → l' = Mine.row (2 ^ k) y n → List.zipWith f l l' = Mine.row (2 ^ k) (f x y) n := by
  intro l l' e e'
  subst e e'
  unfold Mine.row
  rw [List.zipWith_map, List.zipWith_self]
  apply List.map_congr_left
  intro i _
  exact h.dg k x y i
theorem range (h : IsBitOp f) {x y : Int} {n : Nat} (hx : -2 ^ n ≤ x ∧ x < 2 ^ n) (hy : -2 ^ n ≤ y ∧ y < 2 ^ n) : -2 ^ n ≤ f x y ∧ f x y < 2 ^ n := by
  have hp := kbt_pos n
  have s : ∀ z : Int, -2 ^ n ≤ z ∧ z < 2 ^ n → z / 2 ^ n = 0 ∨ z / 2 ^ n = -1 := by
    intro z hz
    have a : -1 ≤ z / 2 ^ n := (Int.le_ediv_iff_mul_le hp).mpr (by omega)
    have b : z / 2 ^ n < 1 := (Int.ediv_lt_iff_lt_mul hp).mpr (by omega)
    omega
  have r := h.sgn _ _ (s x hx) (s y hy)
  rw [← h.div_pow] at r
  have e := (Int.emod_add_mul_ediv (f x y) (2 ^ n))
  have e1 := Int.emod_nonneg (f x y) (show (2 : Int) ^ n ≠ 0 by omega)
  have e2 := Int.emod_lt_of_pos (f x y) hp
  rcases r with r | r
  · rw [r, Int.mul_zero] at e; omega
  · rw [r, Int.mul_neg, Int.mul_one] at e; omega
end IsBitOp
theorem num_range {k n : Nat} {z : Int} (hk2 : 2 ≤ k) (h : (limbs (2 ^ k) z.natAbs).length ≤ n) : -2 ^ (k * n) ≤ z ∧ z < 2 ^ (k * n) := by
  have hW := two_pow_le hk2
  have a := (limbs_is hW (show (0 : Int) ≤ (z.natAbs : Int) by omega)).lt
  have b := pow_le_pow hW h
  rw [pow_pow2 k n] at b
  omega
theorem op_range {f : Int → Int → Int} (hf : IsBitOp f) {k n : Nat} {x y : Int} (hk2 : 2 ≤ k) (hx : (limbs (2 ^ k) x.natAbs).length ≤ n) (hy : (limbs (2 ^ k) y.natAbs).length ≤ n) :
    -(2 ^ k) ^ (n + 1) ≤ 2 * f x y ∧ 2 * f x y < (2 ^ k) ^ (n + 1) := by
  have r := hf.range (num_range hk2 hx) (num_range hk2 hy)
  have hW := two_pow_le hk2
  have hp := powPos hW n
  rw [← pow_pow2] at r
  rw [Int.pow_succ]
  have := Int.mul_le_mul_of_nonneg_left hW (Int.le_of_lt hp)
  omega
end Mine
namespace Mine
open PySem PySem.W PyProof.Rows
theorem zb_neg (z : Int) (n : Nat) : z / 2 ^ n % 2 = 1 - (-z - 1) / 2 ^ n % 2 := by
  have := dg_neg (W := 2) (by decide) z n
  unfold dg at this
  omega
theorem zb_cases (z : Int) (n : Nat) : z / 2 ^ n % 2 = 0 ∨ z / 2 ^ n % 2 = 1 := by omega
theorem zb_add {z : Int} {n : Nat} (h : z / 2 ^ n % 2 = 0) (j : Nat) : (z + 2 ^ n) / 2 ^ j % 2 = if j = n then 1 else z / 2 ^ j % 2 := by
  have hj := kbt_pos j
  have hn := kbt_pos n
  rcases Nat.lt_trichotomy j n with hlt | rfl | hlt
  · rw [if_neg (Nat.ne_of_lt hlt)]
    have e : (2 : Int) ^ n = 2 ^ j * (2 * 2 ^ (n - j - 1)) := by
      rw [← Int.mul_assoc, ← Int.pow_succ, ← Int.pow_add]; congr 1; omega
    rw [e, Int.add_mul_ediv_left _ _ (by omega)]
    omega
  · rw [if_pos rfl, show z + 2 ^ j = z + 2 ^ j * 1 by omega, Int.add_mul_ediv_left _ _ (by omega)]
    omega
  · rw [if_neg (Nat.ne_of_gt hlt)]
    -- z = 2^n q + r, q even
    have e : (2 : Int) ^ j = 2 ^ n * (2 * 2 ^ (j - n - 1)) := by
      rw [← Int.mul_assoc, ← Int.pow_succ, ← Int.pow_add]; congr 1; omega
    have hp := kbt_pos (j - n - 1)
    rw [e, ← Int.ediv_ediv_of_nonneg (Int.le_of_lt hn), ← Int.ediv_ediv_of_nonneg (Int.le_of_lt hn)]
    rw [show z + 2 ^ n = z + 2 ^ n * 1 by omega, Int.add_mul_ediv_left _ _ (by omega)]
    rw [← Int.ediv_ediv_of_nonneg (by decide), ← Int.ediv_ediv_of_nonneg (by decide)]
    rw [show (z / 2 ^ n + 1) / 2 = z / 2 ^ n / 2 by omega]
theorem zb_sub {z : Int} {n : Nat} (h : z / 2 ^ n % 2 = 1) (j : Nat) : (z - 2 ^ n) / 2 ^ j % 2 = if j = n then 0 else z / 2 ^ j % 2 := by
  have h0 : (z - 2 ^ n) / 2 ^ n % 2 = 0 := by
    have hn := kbt_pos n
    rw [show z - 2 ^ n = z + 2 ^ n * (-1) by omega, Int.add_mul_ediv_left _ _ (by omega)]
    omega
  have := zb_add h0 j
  rw [show z - 2 ^ n + 2 ^ n = z by omega] at this
  by_cases hj : j = n
  · subst hj; rw [if_pos rfl]; exact h0
  · rw [if_neg hj] at this ⊢; exact this.symm
theorem neg_out {z : Int} {n : Nat} (hz : z < 0) (h : z / 2 ^ n % 2 = 0) : z + 2 ^ n < 0 := by
  have hn := kbt_pos n
  have h1 : z / 2 ^ n < 0 := Int.ediv_neg_of_neg_of_pos hz hn
  have h2 : z / 2 ^ n ≤ -2 := by omega
  have h3 := Int.emod_add_mul_ediv z (2 ^ n)
  have h4 := Int.emod_lt_of_pos z hn
  have h5 := Int.mul_le_mul_of_nonneg_left h2 (Int.le_of_lt hn)
  omega
theorem pos_in {z : Int} {n : Nat} (hz : 0 ≤ z) (h : z / 2 ^ n % 2 = 1) : 2 ^ n ≤ z := by
  have hn := kbt_pos n
  have h1 : 0 ≤ z / 2 ^ n := Int.ediv_nonneg hz (Int.le_of_lt hn)
  have h2 : 1 ≤ z / 2 ^ n := by omega
  have := (Int.le_ediv_iff_mul_le hn).mp h2
  omega
def setB (z : Int) (n : Nat) : Int := if z / 2 ^ n % 2 = 1 then z else z + 2 ^ n
def clearB (z : Int) (n : Nat) : Int := if z / 2 ^ n % 2 = 0 then z else z - 2 ^ n
def flipB (z : Int) (n : Nat) : Int := if z / 2 ^ n % 2 = 1 then z - 2 ^ n else z + 2 ^ n
theorem num_of_pos {k : Nat} {z : Int} {l : List Int} (h : 0 ≤ z) (e : l = limbs (2 ^ k) z) : (false, l) = num (2 ^ k) z := by rw [e]; exact num_pos h
theorem num_of_neg {k : Nat} {z : Int} {l : List Int} (h : z < 0) (e : l = limbs (2 ^ k) (-z)) : (true, l) = num (2 ^ k) z := by rw [e]; exact num_neg h
end Mine
namespace Mine
theorem pow_lt2 {a b : Nat} (h : a < b) : (2 : Int) ^ a < 2 ^ b := by
  have h1 := pow_le_pow (W := 2) (by decide) h
  have h2 := powPos (W := 2) (by decide) a
  have h3 : (2 : Int) ^ (a + 1) = 2 ^ a * 2 := Int.pow_succ 2 a
  change (2 : Int) ^ (a + 1) ≤ 2 ^ b at h1
  omega
end Mine
namespace Mine
theorem sb_neg {z : Int} {n : Nat} (hz : z < 0) : 1 - ((z.natAbs : Int) - 1) / 2 ^ n % 2 = z / 2 ^ n % 2 := by
  rw [zb_neg z n, show -z - 1 = (z.natAbs : Int) - 1 by omega]
theorem sb_pos {z : Int} {n : Nat} (hz : 0 ≤ z) : (z.natAbs : Int) / 2 ^ n % 2 = z / 2 ^ n % 2 := by
  rw [show (z.natAbs : Int) = z by omega]
theorem set_neg {k n : Nat} {z : Int} (hz : z < 0) (h : z / 2 ^ n % 2 ≠ 1) : (true, limbs (2 ^ k) (z.natAbs - 2 ^ n)) = num (2 ^ k) (setB z n) := by
  have h0 : z / 2 ^ n % 2 = 0 := by have := zb_cases z n; omega
  have := neg_out hz h0
  rw [setB, if_neg h]
  exact num_of_neg this (by congr 1; omega)
theorem set_pos {k n : Nat} {z : Int} (hz : 0 ≤ z) (h : z / 2 ^ n % 2 ≠ 1) : (false, limbs (2 ^ k) (z.natAbs + 2 ^ n)) = num (2 ^ k) (setB z n) := by
  have := PySem.W.kbt_pos n
  rw [setB, if_neg h]
  exact num_of_pos (by omega) (by congr 1; omega)
theorem clr_neg {k n : Nat} {z : Int} (hz : z < 0) (h : z / 2 ^ n % 2 ≠ 0) : (true, limbs (2 ^ k) (z.natAbs + 2 ^ n)) = num (2 ^ k) (clearB z n) := by
  have := PySem.W.kbt_pos n
  rw [clearB, if_neg h]
  exact num_of_neg (by omega) (by congr 1; omega)
theorem clr_pos {k n : Nat} {z : Int} (hz : 0 ≤ z) (h : z / 2 ^ n % 2 ≠ 0) : (false, limbs (2 ^ k) (z.natAbs - 2 ^ n)) = num (2 ^ k) (clearB z n) := by
  have h0 : z / 2 ^ n % 2 = 1 := by have := zb_cases z n; omega
  have := pos_in hz h0
  rw [clearB, if_neg h]
  exact num_of_pos (by omega) (by congr 1; omega)
theorem set_same {z : Int} {n : Nat} (h : z / 2 ^ n % 2 = 1) : setB z n = z := if_pos h
theorem clr_same {z : Int} {n : Nat} (h : z / 2 ^ n % 2 = 0) : clearB z n = z := if_pos h
end Mine
namespace Mine
theorem flip_clr {z : Int} {n : Nat} (h : z / 2 ^ n % 2 = 1) : flipB z n = clearB z n := by rw [flipB, if_pos h, clearB, if_neg (by omega)]
theorem flip_set {z : Int} {n : Nat} (h : z / 2 ^ n % 2 ≠ 1) : flipB z n = setB z n := by rw [flipB, if_neg h, setB, if_neg h]
end Mine
namespace Mine
open PySem PySem.W PyProof.Rows
def popF : Nat → Int → Int
  | 0, _ => 0
  | f + 1, x => if x ≤ 0 then 0 else x % 2 + popF f (x / 2)
def pop (x : Int) : Int := popF x.toNat x
theorem popF_eq : ∀ (f : Nat) (x : Int), x.toNat ≤ f → popF f x = pop x := by
  have key : ∀ (f g : Nat) (x : Int), x.toNat ≤ f → x.toNat ≤ g → popF f x = popF g x := by
    intro f
    induction f with
    | zero =>
      intro g x hf _
      cases g with
      | zero => rfl
      | succ g => unfold popF; rw [if_pos (by omega)]
    | succ f ih =>
      intro g x hf hg
      cases g with
      | zero => unfold popF; rw [if_pos (by omega)]
      | succ g =>
        unfold popF
        by_cases hx : x ≤ 0
        · rw [if_pos hx, if_pos hx]
        · rw [if_neg hx, if_neg hx, ih g (x / 2) (by omega) (by omega)]
  intro f x h
  exact key f x.toNat x h (Nat.le_refl _)
theorem pop_zero {x : Int} (h : x ≤ 0) : pop x = 0 := by
  unfold pop
  rw [show x.toNat = 0 by omega]; rfl
theorem pop_step {x : Int} (h : 0 ≤ x) : pop x = x % 2 + pop (x / 2) := by
  by_cases h0 : x = 0
  · subst h0; rfl
  · conv => lhs; unfold pop
    obtain ⟨f, e⟩ : ∃ f, x.toNat = f + 1 := ⟨x.toNat - 1, by omega⟩
    rw [e]
    conv => lhs; unfold popF
    rw [if_neg (by omega), popF_eq f (x / 2) (by omega)]
theorem pop_nonneg : ∀ (f : Nat) (x : Int), x.toNat ≤ f → 0 ≤ pop x := by
  intro f
  induction f with
  | zero => intro x h; rw [pop_zero (by omega)]; exact Int.le_refl _
  | succ f ih =>
    intro x h
    by_cases hx : x ≤ 0
    · rw [pop_zero hx]; exact Int.le_refl _
    · rw [pop_step (by omega)]
      have := ih (x / 2) (by omega)
      omega
theorem low_out : ∀ (f : Nat) (x : Int), 0 < x → x.toNat ≤ f → pop (Builtin.bitAnd x (x - 1)) = pop x - 1 ∧ 0 ≤ Builtin.bitAnd x (x - 1) ∧ Builtin.bitAnd x (x - 1) < x := by
  intro f
  induction f with
  | zero => intro x h hf; omega
  | succ f ih =>
    intro x h hf
    rw [kbt_halves]
    by_cases hb : x % 2 = 1
    · rw [if_neg (by omega), show (x - 1) / 2 = x / 2 by omega, bitAnd_self, Int.add_zero]
      refine ⟨?_, by omega, by omega⟩
      rw [pop_step (x := x) (by omega), pop_step (x := 2 * (x / 2)) (by omega), show 2 * (x / 2) % 2 = 0 by omega, show 2 * (x / 2) / 2 = x / 2 by omega]
      omega
    · rw [if_neg (by omega), show (x - 1) / 2 = x / 2 - 1 by omega, Int.add_zero]
      obtain ⟨i1, i2, i3⟩ := ih (x / 2) (by omega) (by omega)
      refine ⟨?_, by omega, by omega⟩
      generalize hy : Builtin.bitAnd (x / 2) (x / 2 - 1) = y at i1 i2 i3 ⊢
      rw [pop_step (x := x) (by omega), pop_step (x := 2 * y) (by omega), show 2 * y % 2 = 0 by omega, show 2 * y / 2 = y by omega]
      omega
theorem ones_turn {x0 l f : Int} (h : 0 < l) (h0 : f + pop l = pop x0) : 0 ≤ Builtin.bitAnd l (l - 1) ∧ f + 1 + pop (Builtin.bitAnd l (l - 1)) = pop x0 := by
  obtain ⟨a, b, _⟩ := low_out l.toNat l h (Nat.le_refl _)
  exact ⟨b, by omega⟩
theorem ones_less {l : Int} (h : 0 < l) : (Builtin.bitAnd l (l - 1)).toNat < l.toNat := by
  obtain ⟨_, b, c⟩ := low_out l.toNat l h (Nat.le_refl _)
  omega
theorem pop_split : ∀ (k : Nat) (x : Int), 0 ≤ x → pop x = pop (x % 2 ^ k) + pop (x / 2 ^ k) := by
  intro k
  induction k with
  | zero => intro x _; simp [Int.emod_one, pop_zero (Int.le_refl 0)]
  | succ k ih =>
    intro x h
    have hp := kbt_pos (k + 1)
    rw [pop_step h, ih (x / 2) (by omega)]
    have m0 := Int.emod_nonneg x (show (2 : Int) ^ (k + 1) ≠ 0 by omega)
    rw [pop_step (x := x % 2 ^ (k + 1)) m0, halve_pow, emod_two_pow _ (by omega), Int.pow_succ', ← Int.ediv_ediv_of_nonneg (by decide)]
    omega
theorem pop_limbsF {k : Nat} (hk : 2 ≤ k) : ∀ (f : Nat) (x : Int), 0 ≤ x → x.toNat ≤ f → ((limbsF f (2 ^ k) x).map pop).sum = pop x := by
  have hW := two_pow_le hk
  intro f
  induction f with
  | zero =>
    intro x h hf
    rw [pop_zero (by omega)]; rfl
  | succ f ih =>
    intro x h hf
    unfold limbsF
    by_cases hx : x ≤ 0
    · rw [if_pos hx, pop_zero hx]; rfl
    · rw [if_neg hx, List.map_cons, List.sum_cons]
      have hlt : x / 2 ^ k < x := Int.ediv_lt_self_of_pos_of_ne_one (by omega) (by omega)
      have h0 : 0 ≤ x / 2 ^ k := Int.ediv_nonneg h (by omega)
      rw [ih (x / 2 ^ k) h0 (by omega), ← pop_split k x h]
theorem pop_limbs {k : Nat} (hk : 2 ≤ k) {x : Int} (h : 0 ≤ x) : ((limbs (2 ^ k) x).map pop).sum = pop x := pop_limbsF hk _ x h (Nat.le_refl _)
end Mine
namespace Mine
theorem limbs_mem_nonneg {k : Nat} {x y : Int} (h2 : 2 ≤ k) (h0 : 0 ≤ x) (hm : y ∈ limbs (2 ^ k) x) : 0 ≤ y := by
  obtain ⟨i, hi, rfl⟩ := List.getElem_of_mem hm
  have := limbs_getD (two_pow_le h2) h0 i
  rw [List.getD_eq_getElem?_getD, List.getElem?_eq_getElem hi] at this
  have := dg_nonneg (two_pow_le h2) x i
  simp at *
  omega
end Mine
namespace Mine
theorem filter_all {α : Type} (l : List α) : List.filter (fun _ => true) l = l := List.filter_eq_self.mpr fun _ _ => rfl
end Mine
namespace Mine
open PySem PySem.W PyProof.Rows
theorem bit_row {k n sz : Nat} {z at' : Int} {na : List Int} (hk : 2 ≤ k) (ea : na = row (2 ^ k) z sz) (hn : at' = (n : Int)) (hlt : n < sz * k) :
    Builtin.bitAnd ((na.getD (at'.fdiv (k : Int)).toNat 0).fdiv (2 ^ (at'.fmod (k : Int)).toNat)) 1 = z / 2 ^ at'.toNat % 2 := by
  subst hn
  rw [fdiv_nat, fmod_nat, Int.toNat_natCast, Int.toNat_natCast, Int.toNat_natCast, ea, row_getD _ _ _ _ ((Nat.div_lt_iff_lt_mul (by omega)).mpr hlt), Int.fdiv_eq_ediv_of_nonneg _ (Int.le_of_lt (kbt_pos _)), bitAnd_m1]
  exact bit_in (by omega)
theorem bit_above {k n : Nat} {z : Int} (hk : 2 ≤ k) (h : (limbs (2 ^ k) z.natAbs).length * k ≤ n) : z / 2 ^ n % 2 = if z < 0 then 1 else 0 := by
  have r := num_range hk (Nat.le_refl (limbs (2 ^ k) z.natAbs).length)
  have hle : (2 : Int) ^ (k * (limbs (2 ^ k) z.natAbs).length) ≤ 2 ^ n := pow_le_pow (W := 2) (by decide) (by rw [Nat.mul_comm]; exact h)
  have hp := kbt_pos n
  by_cases hz : z < 0
  · rw [if_pos hz]
    have : z / 2 ^ n = -1 := by
      have a : -1 ≤ z / 2 ^ n := (Int.le_ediv_iff_mul_le hp).mpr (by omega)
      have b : z / 2 ^ n < 0 := Int.ediv_neg_of_neg_of_pos hz hp
      omega
    rw [this]; rfl
  · rw [if_neg hz, Int.ediv_eq_zero_of_lt (by omega) (by omega)]; rfl
end Mine
namespace Mine
open PySem PySem.W PyProof.Rows
theorem scan_fact {k n sz j : Nat} {at' : Int} (hk : 2 ≤ k) (hat : at' = (n : Int) + (j : Int)) (hj : j < (((sz : Int) + 1) * (k : Int) - (n : Int)).toNat) :
    0 ≤ at'.fdiv (k : Int) ∧ at'.fdiv (k : Int) < (sz : Int) + 1 ∧ 0 ≤ at'.fmod (k : Int) ∧ at'.fmod (k : Int) < k ∧ at' = ((n + j : Nat) : Int) ∧ n + j < (sz + 1) * k := by
  have hlt : n + j < (sz + 1) * k := by
    have : (((sz + 1) * k : Nat) : Int) = ((sz : Int) + 1) * (k : Int) := by simp
    rw [← this] at hj
    omega
  have e : at' = ((n + j : Nat) : Int) := by omega
  subst e
  rw [fdiv_nat, fmod_nat]
  refine ⟨Int.natCast_nonneg _, ?_, Int.natCast_nonneg _, Int.ofNat_lt.mpr (Nat.mod_lt _ (by omega)), by omega, hlt⟩
  have := (Nat.div_lt_iff_lt_mul (show 0 < k by omega)).mpr hlt
  omega
theorem scan_bound {k sz : Nat} (h9 : k ≤ 9) (hs : sz < 2 ^ 14) : 0 ≤ ((sz : Int) + 1) * (k : Int) ∧ ((sz : Int) + 1) * (k : Int) < 2 ^ 20 := by
  have : (sz + 1) * k ≤ (2 ^ 14) * 9 := Nat.mul_le_mul (by omega) h9
  have e : (((sz + 1) * k : Nat) : Int) = ((sz : Int) + 1) * (k : Int) := by simp
  rw [← e]
  omega
def NoneYet (z : Int) (n : Nat) (wn : Int) (pre : List Int) : Prop := ∀ i : Int, (n : Int) ≤ i → i < (n : Int) + (pre.length : Int) → z / 2 ^ i.toNat % 2 ≠ wn
theorem noneYet_nil {z : Int} {n : Nat} {wn : Int} : NoneYet z n wn [] := fun i h1 h2 => by simp at h2; omega
theorem noneYet_next {z : Int} {n : Nat} {wn a : Int} {pre : List Int} (h : NoneYet z n wn pre) (ha : a = (n : Int) + (pre.length : Int)) (hb : z / 2 ^ a.toNat % 2 ≠ wn) : NoneYet z n wn (pre ++ [a]) := by
  intro i h1 h2
  rw [len_snoc] at h2
  by_cases e : i = a
  · subst e; exact hb
  · exact h i h1 (by omega)
theorem scan_found {z : Int} {n : Nat} {wn a : Int} {pre : List Int} (h : NoneYet z n wn pre) (ha : a = (n : Int) + (pre.length : Int)) (hb : z / 2 ^ a.toNat % 2 = wn) : NextIs z n wn (some a) :=
  ⟨fun b e => by cases e; exact ⟨by omega, hb, fun j h1 h2 => h j h1 (by omega)⟩, fun e => nomatch e⟩
theorem scan_top {k n : Nat} {z wn : Int} {nx : List Int} {b : Bool} {pre : List Int} (hk : 2 ≤ k) (ex : nx = limbs (2 ^ k) z.natAbs) (eb : (num (2 ^ k) z).1 = b) (h : NoneYet z n wn pre) (hl : pre.length = (((nx.length : Int) + 1) * (k : Int) - (n : Int)).toNat) (hw : (if b = true then (1 : Int) else 0) = wn) (r : Int)
    (hr : r = max (n : Int) (((nx.length : Int) + 1) * (k : Int))) : NextIs z n wn (some r) := by
  have e : (((nx.length + 1) * k : Nat) : Int) = ((nx.length : Int) + 1) * (k : Int) := by simp
  rw [← e] at hl hr
  have hle : nx.length * k ≤ (nx.length + 1) * k := Nat.mul_le_mul_right _ (by omega)
  have hb : z / 2 ^ r.toNat % 2 = wn := by
    rw [bit_above hk (by rw [← ex]; omega), ← hw]
    cases b with
    | true => rw [if_pos ((num_fst eb).1 rfl)]; rfl
    | false => rw [if_neg (by have := (num_fst eb).2 rfl; omega)]; rfl
  refine ⟨fun a ea => by cases ea; exact ⟨by omega, hb, fun j h1 h2 => h j h1 (by omega)⟩, fun ea => nomatch ea⟩
theorem scan_none {k n : Nat} {z wn : Int} {nx : List Int} {b : Bool} {pre : List Int} (hk : 2 ≤ k) (ex : nx = limbs (2 ^ k) z.natAbs) (eb : (num (2 ^ k) z).1 = b) (h : NoneYet z n wn pre) (hl : pre.length = (((nx.length : Int) + 1) * (k : Int) - (n : Int)).toNat) (hw : (if b = true then (1 : Int) else 0) ≠ wn) : NextIs z n wn none := by
  have e : (((nx.length + 1) * k : Nat) : Int) = ((nx.length : Int) + 1) * (k : Int) := by simp
  rw [← e] at hl
  have hle : nx.length * k ≤ (nx.length + 1) * k := Nat.mul_le_mul_right _ (by omega)
  refine ⟨fun a ea => (nomatch ea), fun _ j hj => ?_⟩
  by_cases hlt : j < (n : Int) + (pre.length : Int)
  · exact h j hj hlt
  · rw [bit_above hk (by rw [← ex]; omega)]
    cases b with
    | true => rw [if_pos ((num_fst eb).1 rfl)]; exact hw
    | false => rw [if_neg (by have := (num_fst eb).2 rfl; omega)]; exact hw
end Mine
namespace Mine
open PySem PySem.W PySem.Spec PySem.Calls PyProof.Rows
theorem signed_end {h₀ h : Heap} {L : Addr} {m : Str → Option Value} {news : List (Addr × Obj)} {t l : Addr} {b c : Bool} {va : List Value} {na : List Int} {n : Nat} (F : Fr h₀ L h m) (N : News h₀ L h news)
    (ht : (t, ({ cls := .type "tuple", data := .seq #[.bool c, .ref l] n } : Obj)) ∈ news) (ha : h₀.IsList l va.toArray) (ia : IntsAre va na) (e : c = b) : NumH h (.ref t) (b, na) := by
  subst e
  exact NumH.mk (x := (c, na)) ⟨_, (N _ ht).1, rfl, n, rfl⟩ (ha.at fun o q => F.keep _ o q) ia
end Mine
namespace Mine
open PySem PySem.W PySem.Spec PySem.Calls PyProof.Rows
theorem handed_opt {x : Option Int} {v : Value} (e : match x with | none => v = Value.none | some i => ∃ t, v = .int i t) : handedIn v = true := by
  cases x with
  | none => have e' : v = Value.none := e; subst e'; rfl
  | some i => obtain ⟨t, rfl⟩ := e; rfl
end Mine
namespace Mine
open PySem PySem.W PyProof.Rows
theorem shift_up {k n : Nat} {z : Int} {b : Bool} {l : List Int} (hk : 2 ≤ k) (eb : (num (2 ^ k) z).1 = b) (el : l = limbs (2 ^ k) ((z.natAbs : Int) * 2 ^ n)) : (b && decide (0 < (l.length : Int)), l) = num (2 ^ k) (z * 2 ^ n) := by
  have hp := kbt_pos n
  have hW := two_pow_le hk
  subst el
  cases b with
  | true =>
    have hz := (num_fst eb).1 rfl
    have h1 : z * 2 ^ n < 0 := Int.mul_neg_of_neg_of_pos hz hp
    have h2 : (z.natAbs : Int) * 2 ^ n = -(z * 2 ^ n) := by rw [show (z.natAbs : Int) = -z by omega, Int.neg_mul]
    have h3 : 0 < (limbs (2 ^ k) (-(z * 2 ^ n))).length := Nat.pos_of_ne_zero fun e => by
      have := limbs_eq_nil hW (by omega) e
      omega
    rw [h2, Bool.true_and, decide_eq_true (by omega)]
    exact num_neg h1
  | false =>
    have hz := (num_fst eb).2 rfl
    have h1 : 0 ≤ z * 2 ^ n := Int.mul_nonneg hz (Int.le_of_lt hp)
    rw [Bool.false_and, show (z.natAbs : Int) = z by omega]
    exact num_pos h1
theorem shift_dn_pos {k n : Nat} {z : Int} {l : List Int} (eb : (num (2 ^ k) z).1 = false) (el : l = limbs (2 ^ k) ((z.natAbs : Int) / 2 ^ n)) : (false && decide (0 < (l.length : Int)), l) = num (2 ^ k) (z / 2 ^ n) := by
  have hz := (num_fst eb).2 rfl
  subst el
  rw [Bool.false_and, show (z.natAbs : Int) = z by omega]
  exact num_pos (Int.ediv_nonneg hz (Int.le_of_lt (kbt_pos n)))
theorem neg_floor {z : Int} {n : Nat} (hz : z < 0) : -(z / 2 ^ n) = (z.natAbs : Int) / 2 ^ n + (if (z.natAbs : Int) % 2 ^ n = 0 then 0 else 1) := by
  have hp := kbt_pos n
  have e : (z.natAbs : Int) = -z := by omega
  rw [e]
  have h1 := Int.emod_add_mul_ediv (-z) (2 ^ n)
  have b1 := Int.emod_nonneg (-z) (show (2 : Int) ^ n ≠ 0 by omega)
  have b2 := Int.emod_lt_of_pos (-z) hp
  by_cases h : -z % 2 ^ n = 0
  · rw [if_pos h]
    have : z / 2 ^ n = -(-z / 2 ^ n) ∧ z % 2 ^ n = 0 := kbt_unique hp (by rw [Int.mul_neg]; omega) (by omega) hp
    omega
  · rw [if_neg h]
    have : z / 2 ^ n = -(-z / 2 ^ n) - 1 ∧ z % 2 ^ n = 2 ^ n - -z % 2 ^ n := kbt_unique hp (by rw [Int.mul_sub, Int.mul_neg, Int.mul_one]; omega) (by omega) (by omega)
    omega
theorem neg_floor_neg {z : Int} {n : Nat} (hz : z < 0) : z / 2 ^ n < 0 := Int.ediv_neg_of_neg_of_pos hz (kbt_pos n)
theorem shift_dn_neg {k n : Nat} {z : Int} {l : List Int} (hk : 2 ≤ k) (eb : (num (2 ^ k) z).1 = true) (el : l = limbs (2 ^ k) (-(z / 2 ^ n))) : (true && decide (0 < (l.length : Int)), l) = num (2 ^ k) (z / 2 ^ n) := by
  have hz := (num_fst eb).1 rfl
  have hW := two_pow_le hk
  have h1 := neg_floor_neg (n := n) hz
  have h3 : 0 < l.length := Nat.pos_of_ne_zero fun e => by
    rw [el] at e
    have := limbs_eq_nil hW (by omega) e
    omega
  rw [Bool.true_and, decide_eq_true (by omega), el]
  exact num_neg h1
theorem low_some {k n : Nat} {x : Int} (hk : 2 ≤ k) (h : 0 < ((limbs (2 ^ k) (x % 2 ^ n)).length : Int)) : x % 2 ^ n ≠ 0 := fun e => by
  rw [e] at h; simp [limbs_zero] at h
theorem low_none {k n : Nat} {x : Int} (hk : 2 ≤ k) (h : ¬ 0 < ((limbs (2 ^ k) (x % 2 ^ n)).length : Int)) : x % 2 ^ n = 0 :=
  limbs_eq_nil (two_pow_le hk) (Int.emod_nonneg _ (by have := kbt_pos n; omega)) (by omega)
end Mine
namespace Mine
theorem emod_le_self {a b : Int} (h : 0 ≤ a) (hb : 0 < b) : a % b ≤ a := by
  have h1 := Int.emod_add_mul_ediv a b
  have h2 := Int.mul_nonneg (Int.le_of_lt hb) (Int.ediv_nonneg h (Int.le_of_lt hb))
  omega
end Mine
namespace Mine
open PySem PySem.W PyProof.Rows
theorem dn_up {k n : Nat} {z : Int} {b : Bool} {l : List Int} (hb : (b = true → z < 0) ∧ (b = false → 0 ≤ z)) (h : b = true) (hm : (z.natAbs : Int) % 2 ^ n ≠ 0) (el : l = limbs (2 ^ k) ((z.natAbs : Int) / 2 ^ n + 1)) : l = limbs (2 ^ k) (-(z / 2 ^ n)) := by
  rw [neg_floor (hb.1 h), if_neg hm]; exact el
theorem dn_eq {k n : Nat} {z : Int} {b : Bool} {l : List Int} (hb : (b = true → z < 0) ∧ (b = false → 0 ≤ z)) (h : b = true) (hm : (z.natAbs : Int) % 2 ^ n = 0) (el : l = limbs (2 ^ k) ((z.natAbs : Int) / 2 ^ n)) : l = limbs (2 ^ k) (-(z / 2 ^ n)) := by
  rw [neg_floor (hb.1 h), if_pos hm, Int.add_zero]; exact el
end Mine
namespace Mine
open PySem PySem.W PyProof.Rows
theorem dn_end1 {k n : Nat} {z : Int} {b : Bool} {l : List Int} (hk : 2 ≤ k) (eb : (num (2 ^ k) z).1 = b) (h : b = true) (hm : (z.natAbs : Int) % 2 ^ n ≠ 0) (el : limbs (2 ^ k) ((z.natAbs : Int) / 2 ^ n + 1) = l) : (b && decide (0 < (l.length : Int)), l) = num (2 ^ k) (z / 2 ^ n) := by
  have e := dn_up (num_fst eb) h hm el.symm
  subst h
  exact shift_dn_neg hk eb e
theorem dn_end2 {k n : Nat} {z : Int} {b : Bool} {l : List Int} (hk : 2 ≤ k) (eb : (num (2 ^ k) z).1 = b) (h : b = true) (hm : (z.natAbs : Int) % 2 ^ n = 0) (el : limbs (2 ^ k) ((z.natAbs : Int) / 2 ^ n) = l) : (b && decide (0 < (l.length : Int)), l) = num (2 ^ k) (z / 2 ^ n) := by
  have e := dn_eq (num_fst eb) h hm el.symm
  subst h
  exact shift_dn_neg hk eb e
theorem dn_end3 {k n : Nat} {z : Int} {b : Bool} {l : List Int} (eb : (num (2 ^ k) z).1 = b) (h : b = false) (el : limbs (2 ^ k) ((z.natAbs : Int) / 2 ^ n) = l) : (b && decide (0 < (l.length : Int)), l) = num (2 ^ k) (z / 2 ^ n) := by
  subst h
  exact shift_dn_pos eb el.symm
end Mine
namespace Mine
open PySem PySem.W PyProof.Rows
def spow (P : List Int) : Int := (P.map fun p => (2 : Int) ^ p.toNat).sum
def zt (b : Bool) (P : List Int) : Int := if b then -(spow P) - 1 else spow P
theorem spow_nonneg (P : List Int) : 0 ≤ spow P := by
  unfold spow
  induction P with
  | nil => exact Int.le_refl _
  | cons p r ih =>
    rw [List.map_cons, List.sum_cons]
    have := kbt_pos p.toNat
    omega
theorem zt_true (P : List Int) : zt true P = -(spow P) - 1 := rfl
theorem zt_false (P : List Int) : zt false P = spow P := rfl
theorem zt_neg {b : Bool} {P : List Int} : zt b P < 0 ↔ b = true := by
  have := spow_nonneg P
  cases b
  · rw [zt_false]; constructor
    · intro h; omega
    · intro h; cases h
  · rw [zt_true]; constructor
    · intro _; rfl
    · intro _; omega
theorem num_zt {k : Nat} {b : Bool} {P : List Int} {l : List Int} {x : Int} (hx : x = spow P + (if b = true then 1 else 0)) (e : l = limbs (2 ^ k) x) : (b, l) = num (2 ^ k) (zt b P) := by
  have := spow_nonneg P
  subst hx
  cases b with
  | true =>
    rw [e]
    refine num_of_neg (zt_neg.mpr rfl) ?_
    rw [zt_true]; congr 1
    simp only [if_true]; omega
  | false =>
    rw [e]
    refine num_of_pos (by rw [zt_false]; exact this) ?_
    rw [zt_false]; simp
theorem number_turn {k : Nat} {x sz : Int} {f : List Int} (hk : 2 ≤ k) (h0 : 0 ≤ x) (hf : f = row (2 ^ k) x f.length) (hs : sz = x / (2 ^ k) ^ f.length) (hp : 0 < sz) :
    (f ++ [sz.fmod (2 ^ ((k : Nat) : Int).toNat)]).length ≤ (limbs (2 ^ k) x).length ∧
    f ++ [sz.fmod (2 ^ ((k : Nat) : Int).toNat)] = row (2 ^ k) x (f ++ [sz.fmod (2 ^ ((k : Nat) : Int).toNat)]).length ∧
    sz.fdiv (2 ^ ((k : Nat) : Int).toNat) = x / (2 ^ k) ^ (f ++ [sz.fmod (2 ^ ((k : Nat) : Int).toNat)]).length := by
  have hW := two_pow_le hk
  have hW0 := powPos hW f.length
  rw [Int.toNat_natCast, Int.fmod_eq_emod_of_nonneg _ (by omega), Int.fdiv_eq_ediv_of_nonneg _ (by omega)]
  refine ⟨?_, snoc_row hf (by rw [hs]; rfl), ?_⟩
  · rw [len_snoc]
    refine Nat.succ_le_of_lt (Nat.lt_of_not_le fun hle => ?_)
    have a := (limbs_is hW h0).lt
    have b := pow_le_pow hW hle
    rw [hs, Int.ediv_eq_zero_of_lt h0 (Int.lt_of_lt_of_le a b)] at hp
    omega
  · rw [len_snoc, Int.pow_succ, hs, Int.ediv_ediv_of_nonneg (Int.le_of_lt hW0)]
theorem number_less {k : Nat} {sz : Int} (hk : 2 ≤ k) (hp : 0 < sz) : (sz.fdiv (2 ^ ((k : Nat) : Int).toNat)).toNat < sz.toNat := by
  have hW := two_pow_le hk
  rw [Int.toNat_natCast, Int.fdiv_eq_ediv_of_nonneg _ (by omega)]
  have h1 : sz / 2 ^ k < sz := Int.ediv_lt_self_of_pos_of_ne_one hp (by omega)
  have h2 : 0 ≤ sz / 2 ^ k := Int.ediv_nonneg (by omega) (by omega)
  omega
theorem number_end {k : Nat} {x sz : Int} {f : List Int} (hk : 2 ≤ k) (h0 : 0 ≤ x) (hl : f.length ≤ (limbs (2 ^ k) x).length) (hf : f = row (2 ^ k) x f.length) (hs : sz = x / (2 ^ k) ^ f.length) (hp : ¬ 0 < sz) : f = limbs (2 ^ k) x := by
  have hW := two_pow_le hk
  have hW0 := powPos hW f.length
  have ia := limbs_is hW h0
  have h1 : 0 ≤ x / (2 ^ k) ^ f.length := Int.ediv_nonneg h0 (Int.le_of_lt hW0)
  have h2 : x < (2 ^ k) ^ f.length := (ediv_lt_iff hW0 h0).mp (by omega)
  have h3 := limbs_len_le hW h0 h2
  have h4 : f.length = (limbs (2 ^ k) x).length := Nat.le_antisymm hl h3
  rw [hf, h4]; exact ia.eq.symm
end Mine
namespace Mine
theorem any_mem {P : List Int} {q : Int} {b : Bool} : ((P.any fun x => x == q) != b) = (decide (q ∈ P) != b) := by
  congr 1
  rw [Bool.eq_iff_iff]
  simp
end Mine
namespace Mine
theorem x0_nonneg {b : Bool} {P : List Int} : 0 ≤ spow P + (if b = true then 1 else 0) := by
  have := spow_nonneg P
  split <;> omega
theorem number_start {b : Bool} {P : List Int} {W : Int} : (List.map (fun a : Int => (2 : Int) ^ a.toNat) (List.filter (fun _ => true) P)).sum + (if b = true then 1 else 0) = (spow P + (if b = true then 1 else 0)) / W ^ ([] : List Int).length := by
  rw [filter_all]; simp [spow]
end Mine
namespace Mine
def NextHas (b : Bool) (P : List Int) (n : Int) (i : Bool) (r : Option Int) : Prop :=
  (∀ a, r = some a → n ≤ a ∧ (decide (a ∈ P) != b) = i ∧ ∀ j : Int, n ≤ j → j < a → (decide (j ∈ P) != b) ≠ i) ∧ (r = none → ∀ j : Int, n ≤ j → (decide (j ∈ P) != b) ≠ i)
end Mine
namespace Mine
open PySem PySem.W PyProof.Rows
def NoneHas (b : Bool) (P : List Int) (n : Int) (i : Bool) (pre : List Int) : Prop := ∀ j : Int, n ≤ j → j < n + (pre.length : Int) → (decide (j ∈ P) != b) ≠ i
theorem noneHas_nil {b i : Bool} {P : List Int} {n : Int} : NoneHas b P n i [] := fun j h1 h2 => by simp at h2; omega
theorem noneHas_next {b i : Bool} {P : List Int} {n a : Int} {pre : List Int} (h : NoneHas b P n i pre) (ha : a = n + (pre.length : Int)) (hb : (decide (a ∈ P) != b) ≠ i) : NoneHas b P n i (pre ++ [a]) := by
  intro j h1 h2
  rw [len_snoc] at h2
  by_cases e : j = a
  · subst e; exact hb
  · exact h j h1 (by omega)
theorem next_found {b i : Bool} {P : List Int} {n a : Int} {pre : List Int} (h : NoneHas b P n i pre) (ha : a = n + (pre.length : Int)) (hb : (decide (a ∈ P) != b) = i) : NextHas b P n i (some a) :=
  ⟨fun c e => by cases e; exact ⟨by omega, hb, fun j h1 h2 => h j h1 (by omega)⟩, fun e => (nomatch e)⟩
theorem max_bd {P : List Int} {n : Nat} {M : Int} (hP : ∀ p ∈ P, 0 ≤ p ∧ p < 2 ^ 13) (hn : n < 2 ^ 13) (hm : M ∈ [(n : Int)] ++ P) : 0 ≤ M ∧ M < 2 ^ 13 := by
  rcases List.mem_append.mp hm with h | h
  · rw [List.mem_singleton.mp h]; omega
  · exact hP M h
theorem next_none {b i : Bool} {P : List Int} {n : Nat} {M : Int} {pre : List Int} (h : NoneHas b P n i pre) (hM : ∀ a ∈ [(n : Int)] ++ P, a ≤ M) (hl : pre.length = (M + 2 - (n : Int)).toNat) : NextHas b P n i none := by
  have hn := hM n (List.mem_append.mpr (.inl (List.mem_singleton.mpr rfl)))
  have out : ∀ j : Int, M < j → j ∉ P := fun j hj hm => by
    have := hM j (List.mem_append.mpr (.inr hm)); omega
  have h1 := h (M + 1) (by omega) (by omega)
  rw [decide_eq_false (out _ (by omega))] at h1
  refine ⟨fun a e => (nomatch e), fun _ j hj => ?_⟩
  by_cases hlt : j < (n : Int) + (pre.length : Int)
  · exact h j hj hlt
  · rw [decide_eq_false (out j (by omega))]; exact h1
end Mine
namespace Mine
open PySem PySem.W PyProof.Rows
theorem big_pow (a : Int) : ∃ m : Nat, -2 ^ m ≤ a ∧ a < 2 ^ m := by
  refine ⟨a.natAbs, ?_⟩
  have h : ∀ n : Nat, (n : Int) < 2 ^ n := by
    intro n
    induction n with
    | zero => decide
    | succ n ih => rw [Int.pow_succ]; omega
  have := h a.natAbs
  omega
theorem low_of_bits {a b : Int} (h : ∀ j : Nat, a / 2 ^ j % 2 = b / 2 ^ j % 2) : ∀ m : Nat, a % 2 ^ m = b % 2 ^ m
  | 0 => by simp [Int.emod_one]
  | m + 1 => by
    have e1 := emod_succ (W := 2) (by decide) a m
    have e2 := emod_succ (W := 2) (by decide) b m
    unfold dg at e1 e2
    rw [e1, e2, low_of_bits h m, h m]
theorem top_bit {a : Int} {m : Nat} (h : -2 ^ m ≤ a ∧ a < 2 ^ m) : a / 2 ^ m = -(a / 2 ^ m % 2) := by
  have hp := kbt_pos m
  have h1 : -1 ≤ a / 2 ^ m := (Int.le_ediv_iff_mul_le hp).mpr (by omega)
  have h2 : a / 2 ^ m < 1 := (Int.ediv_lt_iff_lt_mul hp).mpr (by omega)
  omega
theorem bits_ext {a b : Int} (h : ∀ j : Nat, a / 2 ^ j % 2 = b / 2 ^ j % 2) : a = b := by
  obtain ⟨m1, h1⟩ := big_pow a
  obtain ⟨m2, h2⟩ := big_pow b
  have l1 := pow_le_pow (W := 2) (by decide) (Nat.le_max_left m1 m2)
  have l2 := pow_le_pow (W := 2) (by decide) (Nat.le_max_right m1 m2)
  have t1 := top_bit (a := a) (m := max m1 m2) (by omega)
  have t2 := top_bit (a := b) (m := max m1 m2) (by omega)
  rw [h] at t1
  have e1 := Int.emod_add_mul_ediv a (2 ^ max m1 m2)
  have e2 := Int.emod_add_mul_ediv b (2 ^ max m1 m2)
  rw [low_of_bits h, t1, ← t2] at e1
  omega
def hasB (b : Bool) (P : List Int) (q : Int) : Bool := decide (q ∈ P) != b
structure Told (P : List Int) : Prop where
  nonneg : ∀ p ∈ P, 0 ≤ p
  nodup : P.Nodup
theorem Told.tail {p : Int} {P : List Int} (h : Told (p :: P)) : Told P := ⟨fun q hq => h.nonneg q (.tail _ hq), (List.nodup_cons.mp h.nodup).2⟩
theorem spow_cons (p : Int) (P : List Int) : spow (p :: P) = spow P + 2 ^ p.toNat := by
  unfold spow; rw [List.map_cons, List.sum_cons]; omega
theorem spow_bit : ∀ {P : List Int}, Told P → ∀ j : Nat, spow P / 2 ^ j % 2 = if (j : Int) ∈ P then 1 else 0
  | [], _, j => by simp [spow]
  | p :: P, h, j => by
    have hp := h.nonneg p (.head _)
    have hn := (List.nodup_cons.mp h.nodup).1
    have ih := spow_bit h.tail
    have h0 : spow P / 2 ^ p.toNat % 2 = 0 := by
      rw [ih p.toNat, if_neg (by rw [Int.toNat_of_nonneg hp]; exact hn)]
    rw [spow_cons, zb_add h0, ih j]
    by_cases e : j = p.toNat
    · rw [if_pos e, if_pos (by rw [e, Int.toNat_of_nonneg hp]; exact .head _)]
    · rw [if_neg e]
      have : ((j : Int) ∈ p :: P) ↔ (j : Int) ∈ P := by
        rw [List.mem_cons]
        exact ⟨fun x => x.resolve_left fun q => e (by omega), .inr⟩
      by_cases hm : (j : Int) ∈ P
      · rw [if_pos hm, if_pos (this.mpr hm)]
      · rw [if_neg hm, if_neg fun x => hm (this.mp x)]
theorem zt_bit {b : Bool} {P : List Int} (h : Told P) (j : Nat) : zt b P / 2 ^ j % 2 = if hasB b P j = true then 1 else 0 := by
  have s := spow_bit h j
  cases b with
  | false =>
    rw [zt_false, s]
    unfold hasB
    by_cases hm : (j : Int) ∈ P <;> simp [hm]
  | true =>
    rw [zt_true, zb_neg, show -(-spow P - 1) - 1 = spow P by omega, s]
    unfold hasB
    by_cases hm : (j : Int) ∈ P <;> simp [hm]
theorem zt_ext {z : Int} {b : Bool} {P : List Int} (h : Told P) (e : ∀ j : Nat, z / 2 ^ j % 2 = if hasB b P j = true then 1 else 0) : z = zt b P := bits_ext fun j => by rw [e, zt_bit h]
theorem next_eq {b i : Bool} {P : List Int} {n : Nat} {wn : Int} {r r' : Option Int} (h : Told P) (hw : wn = if i = true then 1 else 0) (h1 : NextIs (zt b P) n wn r) (h2 : NextHas b P n i r') : r = r' := by
  have key : ∀ j : Int, (n : Int) ≤ j → (zt b P / 2 ^ j.toNat % 2 = wn ↔ (decide (j ∈ P) != b) = i) := by
    intro j hj
    have e := zt_bit (b := b) h j.toNat
    rw [Int.toNat_of_nonneg (by omega)] at e
    rw [e, hw]
    unfold hasB
    cases (decide (j ∈ P) != b) <;> cases i <;> simp
  cases r with
  | none =>
    cases r' with
    | none => rfl
    | some a =>
      obtain ⟨x, y, _⟩ := h2.1 a rfl
      exact absurd ((key a x).mpr y) (h1.2 rfl a x)
  | some a =>
    obtain ⟨x, y, q⟩ := h1.1 a rfl
    cases r' with
    | none => exact absurd ((key a x).mp y) (h2.2 rfl a x)
    | some a' =>
      obtain ⟨x', y', q'⟩ := h2.1 a' rfl
      have : a = a' := by
        rcases Int.lt_trichotomy a a' with hl | hl | hl
        · exact absurd ((key a x).mp y) (q' a x hl)
        · exact hl
        · exact absurd ((key a' x').mpr y') (q a' x' hl)
      rw [this]
theorem pop_add : ∀ (n : Nat) (z : Int), 0 ≤ z → z / 2 ^ n % 2 = 0 → pop (z + 2 ^ n) = pop z + 1
  | 0, z, h, e => by
    simp only [Int.pow_zero, Int.ediv_one] at e ⊢
    rw [pop_step (x := z + 1) (by omega), pop_step (x := z) h, show (z + 1) % 2 = 1 by omega, show (z + 1) / 2 = z / 2 by omega]
    omega
  | n + 1, z, h, e => by
    have hp := kbt_pos n
    have e2 : z / 2 / 2 ^ n % 2 = 0 := by rw [Int.ediv_ediv_of_nonneg (by decide), ← Int.pow_succ']; exact e
    rw [Int.pow_succ']
    rw [pop_step (x := z + 2 * 2 ^ n) (by omega), pop_step (x := z) h, show (z + 2 * 2 ^ n) % 2 = z % 2 by omega, show (z + 2 * 2 ^ n) / 2 = z / 2 + 2 ^ n by omega, pop_add n (z / 2) (by omega) e2]
    omega
theorem pop_spow : ∀ {P : List Int}, Told P → pop (spow P) = P.length
  | [], _ => by simp [spow]; exact pop_zero (Int.le_refl 0)
  | p :: P, h => by
    have hp := h.nonneg p (.head _)
    have hn := (List.nodup_cons.mp h.nodup).1
    have h0 : spow P / 2 ^ p.toNat % 2 = 0 := by
      rw [spow_bit h.tail p.toNat, if_neg (by rw [Int.toNat_of_nonneg hp]; exact hn)]
    rw [spow_cons, pop_add _ _ (spow_nonneg P) h0, pop_spow h.tail]
    simp
theorem op_bit {f : Int → Int → Int} (hf : IsBitOp f) (x y : Int) (j : Nat) : f x y / 2 ^ j % 2 = f (x / 2 ^ j % 2) (y / 2 ^ j % 2) := by
  rw [hf.div_pow]
  have := hf.mod_pow 1 (x / 2 ^ j) (y / 2 ^ j)
  simpa using this
theorem flip_bits {z : Int} {n : Nat} (j : Nat) : flipB z n / 2 ^ j % 2 = if j = n then 1 - z / 2 ^ n % 2 else z / 2 ^ j % 2 := by
  unfold flipB
  by_cases h : z / 2 ^ n % 2 = 1
  · rw [if_pos h, zb_sub h, h]; rfl
  · have h0 : z / 2 ^ n % 2 = 0 := by have := zb_cases z n; omega
    rw [if_neg h, zb_add h0, h0]; rfl
theorem pow_bits (n j : Nat) : (2 : Int) ^ n / 2 ^ j % 2 = if j = n then 1 else 0 := by
  have := zb_add (z := 0) (n := n) (by simp) j
  simpa using this
theorem xor_flip (z : Int) (n : Nat) : Builtin.bitXor (flipB z n) z = 2 ^ n := by
  refine bits_ext fun j => ?_
  rw [op_bit isBitOp_xor, flip_bits, pow_bits]
  by_cases h : j = n
  · subst h
    rw [if_pos rfl, if_pos rfl]
    rcases zb_cases z j with e | e <;> rw [e] <;> decide
  · rw [if_neg h, if_neg h]
    rcases zb_cases z j with e | e <;> rw [e] <;> decide
theorem zt_one (n : Nat) : zt false [(n : Int)] = 2 ^ n := by
  rw [zt_false]; unfold spow; simp
end Mine
namespace Mine
open PySem PySem.W PyProof.Rows
structure TB (P : List Int) (B : Nat) : Prop where
  t : Told P
  lt : ∀ p ∈ P, p < (B : Int)
theorem TB.mono {P : List Int} {B C : Nat} (h : TB P B) (hl : B ≤ C) : TB P C := ⟨h.t, fun p hp => by have := h.lt p hp; omega⟩
theorem TB.len : ∀ {B : Nat} {P : List Int}, TB P B → P.length ≤ B
  | 0, P, h => by
    cases P with
    | nil => exact Nat.le_refl _
    | cons p r =>
      have a := h.t.nonneg p (.head _)
      have b := h.lt p (.head _)
      omega
  | B + 1, P, h => by
    have h1 : TB (P.erase (B : Int)) B := by
      refine ⟨⟨fun p hp => h.t.nonneg p (List.mem_of_mem_erase hp), h.t.nodup.erase _⟩, fun p hp => ?_⟩
      have q := (List.Nodup.mem_erase_iff h.t.nodup).mp hp
      have := h.lt p q.2
      have := q.1
      omega
    have ih := TB.len h1
    have : P.length ≤ (P.erase (B : Int)).length + 1 := by
      by_cases hm : (B : Int) ∈ P
      · rw [List.length_erase_of_mem hm]; omega
      · rw [List.erase_of_not_mem hm]; omega
    omega
theorem spow_le {M : Int} : ∀ {P : List Int}, (∀ p ∈ P, (2 : Int) ^ p.toNat ≤ M) → spow P ≤ P.length * M
  | [], _ => by simp [spow]
  | p :: P, h => by
    have ih := spow_le (P := P) fun q hq => h q (.tail _ hq)
    have := h p (.head _)
    rw [spow_cons, List.length_cons, Int.natCast_add, Int.add_mul]
    omega
theorem nat_lt_two (n : Nat) : (n : Int) < 2 ^ n := by
  induction n with
  | zero => decide
  | succ n ih => rw [Int.pow_succ]; omega
theorem TB.spow {P : List Int} {B : Nat} (h : TB P B) : spow P + 1 ≤ 2 ^ (2 * B) := by
  have hp := kbt_pos B
  have h1 := spow_le (M := 2 ^ B) (P := P) fun p hp => by
    have a := h.t.nonneg p hp
    have b := h.lt p hp
    exact pow_le_pow (W := 2) (by decide) (by omega)
  have h2 : (P.length : Int) * 2 ^ B ≤ (2 ^ B - 1) * 2 ^ B := by
    refine Int.mul_le_mul_of_nonneg_right ?_ (Int.le_of_lt hp)
    have := h.len
    have := nat_lt_two B
    omega
  have h3 : (2 : Int) ^ (2 * B) = 2 ^ B * 2 ^ B := by rw [← Int.pow_add]; congr 1; omega
  rw [Int.sub_mul, Int.one_mul] at h2
  have := kbt_pos B
  omega
theorem TB.zt {P : List Int} {B : Nat} (h : TB P B) (b : Bool) : ((zt b P).natAbs : Int) ≤ 2 ^ (2 * B) := by
  have h1 := h.spow
  have h2 := spow_nonneg P
  cases b
  · rw [zt_false]; omega
  · rw [zt_true]; omega
theorem limbs_bd {k M N : Nat} {x : Int} (hk : 2 ≤ k) (h0 : 0 ≤ x) (h : x ≤ 2 ^ M) (hM : M + 1 < N) : (limbs (2 ^ k) x).length < N := by
  have hW := two_pow_le hk
  have h1 : (2 : Int) ^ M < (2 ^ k) ^ (M + 1) := by
    have a : (2 : Int) ^ M < 2 ^ (M + 1) := by have := kbt_pos M; rw [Int.pow_succ]; omega
    refine Int.lt_of_lt_of_le a ?_
    rw [← Int.pow_mul]
    refine pow_le_pow (W := 2) (by decide) ?_
    calc M + 1 = 1 * (M + 1) := by omega
      _ ≤ k * (M + 1) := Nat.mul_le_mul_right _ (by omega)
  have := limbs_len_le hW h0 (Int.lt_of_le_of_lt h h1)
  omega
theorem TB.bx {P : List Int} {B k : Nat} (h : TB P B) (hB : B ≤ 300) (hk : 2 ≤ k) (b : Bool) : (limbs (2 ^ k) (Mine.zt b P).natAbs).length < 2 ^ 14 :=
  limbs_bd hk (by omega) (h.zt b) (by omega)
theorem TB.bs {P : List Int} {B k : Nat} (h : TB P B) (hB : B ≤ 300) (hk : 2 ≤ k) (b : Bool) : (limbs (2 ^ k) (Mine.spow P + (if b = true then 1 else 0))).length < 2 ^ 14 := by
  refine limbs_bd (M := 2 * B) hk x0_nonneg ?_ (by omega)
  have := h.spow
  split <;> omega
theorem TB.pl {P : List Int} {B : Nat} (h : TB P B) (hB : B ≤ 300) : P.length < 2 ^ 13 := by have := h.len; omega
theorem TB.pp {P : List Int} {B : Nat} (h : TB P B) (hB : B ≤ 300) : ∀ p ∈ P, 0 ≤ p ∧ p < 2 ^ 13 := fun p hp => by
  have a := h.t.nonneg p hp
  have b := h.lt p hp
  omega
theorem TB.bflip {P : List Int} {B k n : Nat} (h : TB P B) (hB : B ≤ 300) (hk : 2 ≤ k) (hn : n ≤ 300) (b : Bool) : (limbs (2 ^ k) (flipB (Mine.zt b P) n).natAbs).length < 2 ^ 14 := by
  refine limbs_bd (M := 1000) hk (by omega) ?_ (by omega)
  have h1 := h.zt b
  have h2 : (2 : Int) ^ (2 * B) ≤ 2 ^ 999 := pow_le_pow (W := 2) (by decide) (by omega)
  have h3 : (2 : Int) ^ n ≤ 2 ^ 999 := pow_le_pow (W := 2) (by decide) (by omega)
  have h4 : (2 : Int) ^ 1000 = 2 ^ 999 * 2 := Int.pow_succ 2 999
  have h5 := kbt_pos n
  rw [h4]
  revert h1 h2 h3
  generalize (2 : Int) ^ 999 = G
  generalize (2 : Int) ^ (2 * B) = H
  intro h1 h2 h3
  unfold flipB
  split <;> omega
theorem xor_self (z : Int) : Builtin.bitXor z z = 0 := by
  refine bits_ext fun j => ?_
  rw [op_bit isBitOp_xor]
  rcases zb_cases z j with e | e <;> rw [e] <;> simp <;> decide
theorem cnt_told {b : Bool} {P : List Int} (h : Told P) : (if Mine.zt b P < 0 then none else some (pop (Mine.zt b P))) = if b = true then none else some (P.length : Int) := by
  cases b with
  | true => rw [if_pos (zt_neg.mpr rfl)]; rfl
  | false =>
    rw [if_neg fun h => by have := zt_neg.mp h; cases this]
    rw [zt_false, pop_spow h]; rfl
end Mine
namespace Mine
open PySem PySem.W PyProof.Rows
theorem num_zero (k : Nat) : num (2 ^ k) 0 = (false, []) := by
  unfold num limbs
  simp [limbsF]
theorem xor_num (k : Nat) (z : Int) : num (2 ^ k) (Builtin.bitXor z z) = (false, []) := by rw [xor_self, num_zero]
theorem TB.one (n : Nat) : TB [(n : Int)] (n + 1) := by
  refine ⟨⟨fun p hp => ?_, ?_⟩, fun p hp => ?_⟩
  · rw [List.mem_singleton.mp hp]; omega
  · simp
  · rw [List.mem_singleton.mp hp]; omega
theorem flip_num {k n : Nat} {z : Int} : num (2 ^ k) (Builtin.bitXor (flipB z n) z) = num (2 ^ k) (Mine.zt false [(n : Int)]) := by rw [xor_flip, zt_one]
end Mine
namespace Mine
open PySem PySem.W PyProof.Rows
def doneZ (f n : Nat) (z y : Int) : Int :=
  match f with
  | 0 => setB z n
  | 1 => clearB z n
  | 2 => flipB z n
  | 3 => Builtin.bitAnd z y
  | 4 => Builtin.bitOr z y
  | 5 => Builtin.bitXor z y
  | 6 => -z - 1
  | 7 => z * 2 ^ n
  | _ => z / 2 ^ n
theorem set_bits {z : Int} {n : Nat} (j : Nat) : setB z n / 2 ^ j % 2 = if j = n then 1 else z / 2 ^ j % 2 := by
  unfold setB
  by_cases h : z / 2 ^ n % 2 = 1
  · rw [if_pos h]
    by_cases e : j = n
    · subst e; rw [if_pos rfl, h]
    · rw [if_neg e]
  · have h0 : z / 2 ^ n % 2 = 0 := by have := zb_cases z n; omega
    rw [if_neg h, zb_add h0]
theorem clear_bits {z : Int} {n : Nat} (j : Nat) : clearB z n / 2 ^ j % 2 = if j = n then 0 else z / 2 ^ j % 2 := by
  unfold clearB
  by_cases h : z / 2 ^ n % 2 = 0
  · rw [if_pos h]
    by_cases e : j = n
    · subst e; rw [if_pos rfl, h]
    · rw [if_neg e]
  · have h0 : z / 2 ^ n % 2 = 1 := by have := zb_cases z n; omega
    rw [if_neg h, zb_sub h0]
theorem mem_one {P ns : List Int} {n : Nat} {c : Bool} (h : ns.Perm ((P.filter fun q => q != (n : Int)) ++ if c = true then [(n : Int)] else [])) (j : Int) : j ∈ ns ↔ (j ≠ n ∧ j ∈ P) ∨ (j = n ∧ c = true) := by
  rw [h.mem_iff, List.mem_append, List.mem_filter]
  have e : (j ∈ (if c = true then [(n : Int)] else [])) ↔ (j = n ∧ c = true) := by
    cases c <;> simp
  rw [e]
  constructor
  · rintro (⟨a, b⟩ | x)
    · exact .inl ⟨by simpa using b, a⟩
    · exact .inr x
  · rintro (⟨a, b⟩ | x)
    · exact .inl ⟨b, by simpa using a⟩
    · exact .inr x
theorem tb_one {P ns : List Int} {n M : Nat} {c : Bool} (hP : TB P M) (h : ns.Perm ((P.filter fun q => q != (n : Int)) ++ if c = true then [(n : Int)] else [])) : TB ns (M + n + 1) := by
  refine ⟨⟨fun p hp => ?_, ?_⟩, fun p hp => ?_⟩
  · rcases (mem_one h p).mp hp with ⟨_, x⟩ | ⟨rfl, _⟩
    · exact hP.t.nonneg p x
    · omega
  · rw [h.nodup_iff, List.nodup_append]
    refine ⟨hP.t.nodup.filter _, by cases c <;> simp, fun a ha b hb => ?_⟩
    have h1 := (List.mem_filter.mp ha).2
    have h2 : b = n := by
      cases c
      · simp at hb
      · simpa using hb
    rintro rfl
    subst h2
    simp at h1
  · rcases (mem_one h p).mp hp with ⟨_, x⟩ | ⟨rfl, _⟩
    · have := hP.lt p x; omega
    · omega
theorem zt_one' {P ns : List Int} {n M : Nat} {i b : Bool} {z : Int} (hP : TB P M) (h : ns.Perm ((P.filter fun q => q != (n : Int)) ++ if (i != b) = true then [(n : Int)] else []))
    (hz : ∀ j : Nat, z / 2 ^ j % 2 = if j = n then (if i = true then 1 else 0) else zt b P / 2 ^ j % 2) : z = zt b ns := by
  refine zt_ext (tb_one hP h).t fun j => ?_
  rw [hz]
  have hm := mem_one h (j : Int)
  unfold hasB
  by_cases e : j = n
  · subst e
    rw [if_pos rfl]
    have : ((j : Int) ∈ ns) ↔ ((i != b) = true) := by rw [hm]; simp
    cases i <;> cases b <;> simp_all
  · rw [if_neg e, zt_bit hP.t]
    unfold hasB
    have : ((j : Int) ∈ ns) ↔ (j : Int) ∈ P := by
      rw [hm]
      constructor
      · rintro (⟨_, x⟩ | ⟨x, _⟩)
        · exact x
        · exact absurd (by omega) e
      · exact fun x => .inl ⟨by omega, x⟩
    rw [decide_eq_decide.mpr this]
theorem bit_has {P : List Int} {n M : Nat} {b : Bool} (hP : TB P M) : zt b P / 2 ^ n % 2 = if (decide ((n : Int) ∈ P) != b) = true then 1 else 0 := zt_bit hP.t n
theorem zt_set {P ns : List Int} {n M : Nat} {b : Bool} (hP : TB P M) (h : ns.Perm ((P.filter fun q => q != (n : Int)) ++ if (true != b) = true then [(n : Int)] else [])) : zt b ns = setB (zt b P) n :=
  (zt_one' hP h fun j => by rw [set_bits]; rfl).symm
theorem zt_clear {P ns : List Int} {n M : Nat} {b : Bool} (hP : TB P M) (h : ns.Perm ((P.filter fun q => q != (n : Int)) ++ if (false != b) = true then [(n : Int)] else [])) : zt b ns = clearB (zt b P) n :=
  (zt_one' hP h fun j => by rw [clear_bits]; rfl).symm
theorem zt_flip {P ns : List Int} {n M : Nat} {b : Bool} (hP : TB P M) (h : ns.Perm ((P.filter fun q => q != (n : Int)) ++ if ((!(decide ((n : Int) ∈ P) != b)) != b) = true then [(n : Int)] else [])) : zt b ns = flipB (zt b P) n :=
  (zt_one' hP h fun j => by
    rw [flip_bits, bit_has hP]
    by_cases e : j = n
    · rw [if_pos e, if_pos e]
      cases (decide ((n : Int) ∈ P) != b) <;> simp
    · rw [if_neg e, if_neg e]).symm
theorem mem_join {P mP ns : List Int} (h : ns.Perm (P ++ mP.filter fun n => !(P.any fun x => x == n))) (j : Int) : j ∈ ns ↔ j ∈ P ∨ j ∈ mP := by
  rw [h.mem_iff, List.mem_append, List.mem_filter]
  have e : (P.any fun x => x == j) = decide (j ∈ P) := by rw [Bool.eq_iff_iff]; simp
  rw [e]
  by_cases hj : j ∈ P <;> simp [hj]
abbrev jt (op : Bool → Bool → Bool) (b mb : Bool) (P mP : List Int) (n : Int) : Bool := op (decide (n ∈ P) != b) (decide (n ∈ mP) != mb) != op b mb
theorem mem_jt {op : Bool → Bool → Bool} {b mb : Bool} {P mP ns : List Int} (h : ns.Perm (P ++ mP.filter fun n => !(P.any fun x => x == n))) (j : Int) : (j ∈ ns.filter fun n => jt op b mb P mP n) ↔ jt op b mb P mP j = true := by
  rw [List.mem_filter, mem_join h]
  constructor
  · exact fun x => x.2
  · intro x
    refine ⟨?_, x⟩
    by_cases h1 : j ∈ P
    · exact .inl h1
    · by_cases h2 : j ∈ mP
      · exact .inr h2
      · simp [jt, h1, h2] at x
theorem tb_jt {op : Bool → Bool → Bool} {b mb : Bool} {P mP ns : List Int} {M : Nat} (hP : TB P M) (hm : TB mP M) (h : ns.Perm (P ++ mP.filter fun n => !(P.any fun x => x == n))) : TB (ns.filter fun n => jt op b mb P mP n) M := by
  have hx : ∀ p ∈ (ns.filter fun n => jt op b mb P mP n), p ∈ P ∨ p ∈ mP := fun p hp => (mem_join h p).mp (List.mem_filter.mp hp).1
  refine ⟨⟨fun p hp => ?_, ?_⟩, fun p hp => ?_⟩
  · rcases hx p hp with x | x
    · exact hP.t.nonneg p x
    · exact hm.t.nonneg p x
  · refine List.Pairwise.filter _ ?_
    show ns.Nodup
    rw [h.nodup_iff, List.nodup_append]
    refine ⟨hP.t.nodup, hm.t.nodup.filter _, fun a ha c hc => ?_⟩
    have := (List.mem_filter.mp hc).2
    rintro rfl
    have : (P.any fun x => x == a) = true := by rw [List.any_eq_true]; exact ⟨a, ha, by simp⟩
    simp_all
  · rcases hx p hp with x | x
    · exact hP.lt p x
    · exact hm.lt p x
theorem zt_jt {f : Int → Int → Int} {op : Bool → Bool → Bool} {b mb : Bool} {P mP ns : List Int} {M : Nat} (hf : IsBitOp f) (ho : ∀ x y : Bool, f (if x = true then 1 else 0) (if y = true then 1 else 0) = if op x y = true then 1 else 0) (hP : TB P M) (hm : TB mP M) (h : ns.Perm (P ++ mP.filter fun n => !(P.any fun x => x == n))) :
    zt (op b mb) (ns.filter fun n => jt op b mb P mP n) = f (zt b P) (zt mb mP) := by
  refine (zt_ext (tb_jt hP hm h).t fun j => ?_).symm
  rw [op_bit hf, zt_bit hP.t, zt_bit hm.t, ho]
  have hmj := mem_jt (op := op) (b := b) (mb := mb) h (j : Int)
  have e : hasB (op b mb) (ns.filter fun n => jt op b mb P mP n) (j : Int) = op (hasB b P j) (hasB mb mP j) := by
    unfold hasB
    rw [decide_eq_decide.mpr hmj]
    simp only [jt]
    have key : ∀ x y : Bool, (decide ((x != y) = true) != y) = x := by decide
    exact key _ _
  rw [e]
theorem zt_and {b mb : Bool} {P mP ns : List Int} {M : Nat} (hP : TB P M) (hm : TB mP M) (h : ns.Perm (P ++ mP.filter fun n => !(P.any fun x => x == n))) :
    zt (b && mb) (ns.filter fun n => jt (fun x y => x && y) b mb P mP n) = Builtin.bitAnd (zt b P) (zt mb mP) :=
  zt_jt (op := fun x y => x && y) isBitOp_and (by decide) hP hm h
theorem zt_or {b mb : Bool} {P mP ns : List Int} {M : Nat} (hP : TB P M) (hm : TB mP M) (h : ns.Perm (P ++ mP.filter fun n => !(P.any fun x => x == n))) :
    zt (b || mb) (ns.filter fun n => jt (fun x y => x || y) b mb P mP n) = Builtin.bitOr (zt b P) (zt mb mP) :=
  zt_jt (op := fun x y => x || y) isBitOp_or (by decide) hP hm h
theorem zt_xor {b mb : Bool} {P mP ns : List Int} {M : Nat} (hP : TB P M) (hm : TB mP M) (h : ns.Perm (P ++ mP.filter fun n => !(P.any fun x => x == n))) :
    zt (b != mb) (ns.filter fun n => jt (fun x y => x != y) b mb P mP n) = Builtin.bitXor (zt b P) (zt mb mP) :=
  zt_jt (op := fun x y => x != y) isBitOp_xor (by decide) hP hm h
theorem zt_not (b : Bool) (P : List Int) : zt (!b) P = -(zt b P) - 1 := by
  cases b
  · simp only [Bool.not_false, zt_true, zt_false]
  · simp only [Bool.not_true, zt_true, zt_false]; omega
theorem spow_append (P R : List Int) : spow (P ++ R) = spow P + spow R := by
  unfold spow; rw [List.map_append, List.sum_append]
theorem spow_shift (n : Nat) : ∀ {P : List Int}, (∀ p ∈ P, 0 ≤ p) → spow (P.map fun q => q + (n : Int)) = spow P * 2 ^ n
  | [], _ => by simp [spow]
  | p :: P, h => by
    have hp := h p (.head _)
    have ih := spow_shift n (P := P) fun q hq => h q (.tail _ hq)
    rw [List.map_cons, spow_cons, spow_cons, ih, Int.add_mul, ← Int.pow_add]
    congr 2
    omega
theorem spow_range : ∀ n : Nat, spow (rangeKs 0 n) = 2 ^ n - 1
  | 0 => by simp [rangeKs, spow]
  | n + 1 => by
    have e : rangeKs 0 (n + 1) = rangeKs 0 n ++ [(n : Int)] := by
      unfold rangeKs
      rw [List.range_succ, List.map_append]
      simp
    rw [e, spow_append, spow_range n, Int.pow_succ]
    have : spow [(n : Int)] = 2 ^ n := by rw [← zt_false, zt_one]
    rw [this]
    omega
theorem zt_up {b : Bool} {P : List Int} {n M : Nat} (hP : TB P M) : zt b (rangeKs 0 (if b = true then n else 0) ++ P.map fun q => q + (n : Int)) = zt b P * 2 ^ n := by
  cases b
  · rw [zt_false, zt_false, spow_append, spow_shift n hP.t.nonneg]
    simp [rangeKs, spow]
  · rw [zt_true, zt_true, spow_append, spow_shift n hP.t.nonneg, if_pos rfl, spow_range, Int.sub_mul, Int.neg_mul]
    omega
theorem tb_up {b : Bool} {P : List Int} {n M : Nat} (hP : TB P M) : TB (rangeKs 0 (if b = true then n else 0) ++ P.map fun q => q + (n : Int)) (M + n) := by
  have h1 : ∀ p ∈ rangeKs 0 (if b = true then n else 0), 0 ≤ p ∧ p < (n : Int) := fun p hp => by
    have := mem_rangeKs hp
    split at this <;> omega
  have h2 : ∀ p ∈ P.map (fun q => q + (n : Int)), (n : Int) ≤ p ∧ p < (M : Int) + n := fun p hp => by
    obtain ⟨q, hq, rfl⟩ := List.mem_map.mp hp
    have a := hP.t.nonneg q hq
    have b := hP.lt q hq
    omega
  refine ⟨⟨fun p hp => ?_, ?_⟩, fun p hp => ?_⟩
  · rcases List.mem_append.mp hp with x | x
    · exact (h1 p x).1
    · have := h2 p x; omega
  · rw [List.nodup_append]
    refine ⟨?_, ?_, fun a ha c hc => ?_⟩
    · unfold rangeKs
      refine List.Pairwise.map _ (fun a b h => ?_) List.nodup_range
      intro e
      exact h (by omega)
    · refine List.Pairwise.map _ (fun a b h => ?_) hP.t.nodup
      intro e
      exact h (by omega)
    · have x := h1 a ha
      have y := h2 c hc
      omega
  · rcases List.mem_append.mp hp with x | x
    · have := h1 p x; omega
    · have := h2 p x; omega
theorem mem_down {P : List Int} {n : Nat} (j : Int) : (j ∈ (P.filter fun q => decide ((n : Int) ≤ q)).map fun q => q - (n : Int)) ↔ j + n ∈ P ∧ 0 ≤ j := by
  rw [List.mem_map]
  constructor
  · rintro ⟨q, hq, rfl⟩
    have := List.mem_filter.mp hq
    have h2 : (n : Int) ≤ q := by simpa using this.2
    exact ⟨by rw [Int.sub_add_cancel]; exact this.1, by omega⟩
  · rintro ⟨a, b⟩
    exact ⟨j + n, List.mem_filter.mpr ⟨a, decide_eq_true (by omega)⟩, by omega⟩
theorem tb_down {P : List Int} {n M : Nat} (hP : TB P M) : TB ((P.filter fun q => decide ((n : Int) ≤ q)).map fun q => q - (n : Int)) M := by
  refine ⟨⟨fun p hp => ((mem_down p).mp hp).2, ?_⟩, fun p hp => ?_⟩
  · refine List.Pairwise.map _ (fun a b h => ?_) (hP.t.nodup.filter _)
    intro e
    exact h (by omega)
  · have := hP.lt _ ((mem_down p).mp hp).1
    omega
theorem zt_down {b : Bool} {P : List Int} {n M : Nat} (hP : TB P M) : zt b ((P.filter fun q => decide ((n : Int) ≤ q)).map fun q => q - (n : Int)) = zt b P / 2 ^ n := by
  refine (zt_ext (tb_down hP).t fun j => ?_).symm
  have hp := kbt_pos n
  rw [Int.ediv_ediv_of_nonneg (Int.le_of_lt hp), ← Int.pow_add, zt_bit hP.t]
  unfold hasB
  have := mem_down (P := P) (n := n) (j : Int)
  have e : ((j : Int) ∈ (P.filter fun q => decide ((n : Int) ≤ q)).map fun q => q - (n : Int)) ↔ (((n + j : Nat) : Int) ∈ P) := by
    rw [this]
    constructor
    · rintro ⟨a, _⟩
      rw [show ((n + j : Nat) : Int) = (j : Int) + n by omega]; exact a
    · intro a
      refine ⟨?_, by omega⟩
      rw [show (j : Int) + n = ((n + j : Nat) : Int) by omega]; exact a
  rw [decide_eq_decide.mpr e]
theorem undo_flip (z : Int) (n : Nat) : flipB (flipB z n) n = z := by
  refine bits_ext fun j => ?_
  rw [flip_bits]
  by_cases e : j = n
  · subst e
    rw [if_pos rfl, flip_bits, if_pos rfl]; omega
  · rw [if_neg e, flip_bits, if_neg e]
theorem undo_xor (z y : Int) : Builtin.bitXor (Builtin.bitXor z y) y = z := by
  refine bits_ext fun j => ?_
  rw [op_bit isBitOp_xor, op_bit isBitOp_xor]
  rcases zb_cases z j with e | e <;> rcases zb_cases y j with e' | e' <;> rw [e, e'] <;> decide
theorem undo_up (z : Int) (n : Nat) : z * 2 ^ n / 2 ^ n = z := by
  have := kbt_pos n
  exact Int.mul_ediv_cancel _ (by omega)
theorem undo_all {f n : Nat} {z y : Int} (h : f = 2 ∨ f = 5 ∨ f = 6 ∨ f = 7) : doneZ (if f = 7 then 8 else f) n (doneZ f n z y) y = z := by
  rcases h with rfl | rfl | rfl | rfl
  · exact undo_flip z n
  · exact undo_xor z y
  · show -(-z - 1) - 1 = z; omega
  · exact undo_up z n
theorem apart_cnt {b mb : Bool} {P mP ns : List Int} {M : Nat} (hP : TB P M) (hm : TB mP M) (h : ns.Perm (P ++ mP.filter fun n => !(P.any fun x => x == n))) :
    (if decide (zt b P < 0) = decide (zt mb mP < 0) then some (pop (Builtin.bitXor (zt b P) (zt mb mP)).natAbs) else none) =
    if (b != mb) = true then none else some ((ns.filter fun n => jt (fun x y => x != y) b mb P mP n).length : Int) := by
  have e1 : decide (zt b P < 0) = b := by rw [Bool.eq_iff_iff, decide_eq_true_iff]; exact zt_neg
  have e2 : decide (zt mb mP < 0) = mb := by rw [Bool.eq_iff_iff, decide_eq_true_iff]; exact zt_neg
  rw [e1, e2, ← zt_xor hP hm h]
  have tb := (tb_jt (op := fun x y => x != y) (b := b) (mb := mb) hP hm h).t
  generalize (ns.filter fun n => jt (fun x y => x != y) b mb P mP n) = R at tb ⊢
  by_cases e : b = mb
  · subst e
    have : (b != b) = false := by simp
    rw [if_pos rfl, this, if_neg (by simp), zt_false]
    have h0 := spow_nonneg R
    rw [show ((spow R).natAbs : Int) = spow R by omega, pop_spow tb]
  · have : (b != mb) = true := by simpa using e
    rw [if_neg e, this, if_pos rfl]
end Mine
namespace Mine
open PySem PySem.W PySem.Spec PySem.Calls PyProof.Rows
set_option maxRecDepth 100000
set_option maxHeartbeats 0
local macro_rules | `(tactic| walk_at "my_in") => `(tactic| ((case kA => exact rfl); (case kF => exact rfl); (case kK => first | assumption | exact rfl); (case k1 => k_asm); (case k2 => k_asm); (case k3 => k_asm); (case k5 => k_asm); (case k6 => k_is); (case k7 => k_is); (case k8 => ktr_room); (case k9 => exact BindsTo.of_eq rfl); (case c5 => decide); (case kB => exact locs rfl); (case c2 => exact rfl); (case c3 => exact rfl); (case c4 => exact rfl); (case kR => exact rfl); (case kM => (intro y; (repeat refine lk_cons' _ _ _ _ ?_); exact rfl))))
local macro_rules | `(tactic| walk_at "my_inC") => `(tactic| ((case kA => exact rfl); (case kF => exact rfl); (case kK => first | assumption | exact rfl); (case k1 => k_asm); (case k2 => k_asm); (case k3 => k_asm); (case k5 => k_asm); (case k6 => k_is); (case k7 => k_is); (case k8 => ktr_room); (case k9 => exact BindsTo.of_eq rfl); (case kB => exact rfl); (case kD => decide +kernel); (case c2 => exact rfl); (case c3 => exact rfl); (case c4 => exact rfl); (case kM => (intro L'; rfl)); (case kC => (intro L'; rfl))))
local macro_rules | `(tactic| kmk_nums) => `(tactic| first | ((with_reducible refine' kmk_all ?gi); (case gi => l_ints)) | ((with_reducible refine' kmk_upto ?gi ?gx); (case gi => l_ints); (case gx => first | with_reducible assumption | decide | omega)))
local macro_rules | `(tactic| walk_at "eval ListComp") => `(tactic| k_extra "comp")
local macro_rules | `(tactic| walk_at "call type:zip") => `(tactic| k_extra "zip")
local macro_rules | `(tactic| wrow_close) => `(tactic| k_extra "ends")
theorem fill_U_bit : hK = hK ∧ PySem.Challenge.rw_sj0080_01 = PySem.Challenge.rw_sj0080_01 := by
  k_fill
  exact ⟨rfl, rfl⟩
section
variable {w : World} {p : Program} {loose : List Str} {mean : ExcName → Option Value} {mg mb : Str → Option Value} {dp un : Nat} {gd : Option (List Code)} {cn : Str} {cs : Scope} {a : Addr} {ccd : Value} {cl : List (Str × Addr)} {outer : List Env} {A₀ : Around} {base h₀ : Heap} {L : Addr} {m : Str → Option Value} {s : Shared} {Q E : Value → Shared → Prop}

theorem bit_spec {la : Addr} {va : List Value} {na : List Int} {k n : Nat} {tn tw : Tok} {x : Int}
    (C : Cx w p loose mean mg mb dp un cs outer A₀ base h₀ L m s 5)
    (ha : s.heap.IsList la va.toArray) (ia : IntsAre va na) (ba : na.length < 2 ^ 16)
    (hk2 : 2 ≤ k) (hk9 : k ≤ 9) (hn : n < 2 ^ 16) (ea : na = limbs (2 ^ k) x) (h0x : 0 ≤ x)
    (ret : RetI h₀ L m s Q (x / 2 ^ n % 2)) :
    wpAny (model PR w) (ktrTop dp un gd cn cs L a ccd cl outer) (call (.ref 95) [.ref la, .int (n : Int) tn, .int (k : Int) tw]) Q E s := by
  k_with_none
  have hfd : 0 ≤ (n : Int).fdiv (k : Int) := by rw [fdiv_nat]; exact Int.natCast_nonneg _
  have hfn : (n : Int).fdiv (k : Int) ≤ n := by rw [fdiv_nat]; exact Int.ofNat_le.mpr (Nat.div_le_self _ _)
  have hfm : 0 ≤ (n : Int).fmod (k : Int) := by rw [fmod_nat]; exact Int.natCast_nonneg _
  have hfl : (n : Int).fmod (k : Int) < k := by rw [fmod_nat]; exact Int.ofNat_lt.mpr (Nat.mod_lt _ (by omega))
  obtain ⟨B, F, X, T, hk, hd, hu⟩ := C
  refine wpAny_call ?_
  refine' enterM [(Str.ofString "a", Value.ref la), (Str.ofString "n", Value.int (n : Int) tn), (Str.ofString "w", Value.int (k : Int) tw)] [(Str.ofString "w", Value.int (k : Int) tw), (Str.ofString "n", Value.int (n : Int) tn), (Str.ofString "a", Value.ref la)] (fun y => if y = Str.ofString "w" then some (Value.int (k : Int) tw) else if y = Str.ofString "n" then some (Value.int (n : Int) tn) else if y = Str.ofString "a" then some (Value.ref la) else none) ?k1 ?k2 ?k3 ?k5 ?kA ?kF ?kK ?k6 ?k7 ?k8 ?k9 ?kB ?kR ?kM ?_ ?c2 ?c3 ?c4 ?c5
  walk_at "my_in"
  intro L' h' tk' FG' F' N' B' X' T'
  try dsimp only
  try k_fold
  refine let_A ?_
  intro ak
  k_with "execs cons" => ((with_reducible show wpAny _ _ _ _ _ (PySem.Shared.mk _ _ _ (HAdd.hAdd _ _) _)); refine repack s rfl ?_; intro tk9)
  k_steps
  · exact retI ret (by assumption) (by assumption) (bit_val hk2 ea h0x)
  · exact retI ret (by assumption) (by assumption) (bit_none hk2 ea h0x (by assumption))

end
end Mine
namespace Mine
open PySem PySem.W PySem.Spec PySem.Calls PyProof.Rows
set_option maxRecDepth 100000
set_option maxHeartbeats 0
local macro_rules | `(tactic| walk_at "my_in") => `(tactic| ((case kA => exact rfl); (case kF => exact rfl); (case kK => first | assumption | exact rfl); (case k1 => k_asm); (case k2 => k_asm); (case k3 => k_asm); (case k5 => k_asm); (case k6 => k_is); (case k7 => k_is); (case k8 => ktr_room); (case k9 => exact BindsTo.of_eq rfl); (case c5 => decide); (case kB => exact locs rfl); (case c2 => exact rfl); (case c3 => exact rfl); (case c4 => exact rfl); (case kR => exact rfl); (case kM => (intro y; (repeat refine lk_cons' _ _ _ _ ?_); exact rfl))))
local macro_rules | `(tactic| walk_at "my_inC") => `(tactic| ((case kA => exact rfl); (case kF => exact rfl); (case kK => first | assumption | exact rfl); (case k1 => k_asm); (case k2 => k_asm); (case k3 => k_asm); (case k5 => k_asm); (case k6 => k_is); (case k7 => k_is); (case k8 => ktr_room); (case k9 => exact BindsTo.of_eq rfl); (case kB => exact rfl); (case kD => decide +kernel); (case c2 => exact rfl); (case c3 => exact rfl); (case c4 => exact rfl); (case kM => (intro L'; rfl)); (case kC => (intro L'; rfl))))
local macro_rules | `(tactic| kmk_nums) => `(tactic| first | ((with_reducible refine' kmk_all ?gi); (case gi => l_ints)) | ((with_reducible refine' kmk_upto ?gi ?gx); (case gi => l_ints); (case gx => first | with_reducible assumption | decide | omega)))
local macro_rules | `(tactic| walk_at "eval ListComp") => `(tactic| k_extra "comp")
local macro_rules | `(tactic| walk_at "call type:zip") => `(tactic| k_extra "zip")
local macro_rules | `(tactic| wrow_close) => `(tactic| k_extra "ends")
section
variable {w : World} {p : Program} {loose : List Str} {mean : ExcName → Option Value} {mg mb : Str → Option Value} {dp un : Nat} {gd : Option (List Code)} {cn : Str} {cs : Scope} {a : Addr} {ccd : Value} {cl : List (Str × Addr)} {outer : List Env} {A₀ : Around} {base h₀ : Heap} {L : Addr} {m : Str → Option Value} {s : Shared} {Q E : Value → Shared → Prop}
theorem normal_turn {W x : Int} {ns : List Int} {e : Int} (hW : 2 ≤ W) (hr : ns = row W x ns.length) (h0 : 0 ≤ x) (h1 : e ≤ ns.length) (h2 : 0 < e) (h3 : x < W ^ e.toNat) (h4 : ns.getD (e - 1).toNat 0 = 0) : x < W ^ (e - 1).toNat := by
  have e1 : e.toNat = (e - 1).toNat + 1 := by omega
  rw [hr, row_getD _ _ _ _ (by omega)] at h4
  rw [e1] at h3
  have hp := powPos hW (e - 1).toNat
  have h5 := emod_succ hW x (e - 1).toNat
  rw [h4, Int.emod_eq_of_lt h0 h3, Int.mul_zero] at h5
  have := Int.emod_lt_of_pos x hp
  omega
theorem normal_end {W x : Int} {ns : List Int} {e : Int} (hW : 2 ≤ W) (hr : ns = row W x ns.length) (h0 : 0 ≤ x) (h1 : e ≤ ns.length) (h2 : 0 ≤ e) (h3 : x < W ^ e.toNat) (h4 : 0 < e → ns.getD (e - 1).toNat 0 ≠ 0) : ns.take e.toNat = limbs W x := by
  refine IsLimbs.limbs hW ?_
  have hl : (ns.take e.toNat).length = e.toNat := by rw [List.length_take]; omega
  refine ⟨h0, ?_, by rw [hl]; exact h3, fun n hn => ?_⟩
  · rw [hl]; conv => lhs; rw [hr]
    exact row_take _ _ _ _ (by omega)
  · rw [hl] at hn
    have h5 := h4 (by omega)
    rw [hr, row_getD _ _ _ _ (by omega)] at h5
    have h6 : W ^ (e - 1).toNat ≤ x := by
      refine Int.not_lt.mp fun hlt => h5 ?_
      unfold dg
      rw [Int.ediv_eq_zero_of_lt h0 hlt]; rfl
    exact Int.le_trans (pow_le_pow hW (by omega)) h6

theorem normal_spec {l : Addr} {vs : List Value} {ns : List Int} {W x : Int}
    (C : Cx w p loose mean mg mb dp un cs outer A₀ base h₀ L m s 5)
    (h2 : s.heap.IsList l vs.toArray) (h3 : IntsAre vs ns) (h4 : ns.length < 2 ^ 20) (hW : 2 ≤ W) (hr : ns = row W x ns.length) (h0 : 0 ≤ x) (hx : x < W ^ ns.length)
    (ret : RetL h₀ L m s Q (limbs W x)) :
    wpAny (model PR w) (ktrTop dp un gd cn cs L a ccd cl outer) (call (.ref 46) [.ref l]) Q E s := by
  k_with_none
  obtain ⟨B, F, X, T, hk, hd, hu⟩ := C
  refine wpAny_call ?_
  refine' enterM [(Str.ofString "a", Value.ref l)] [(Str.ofString "a", Value.ref l)] (fun y => if y = Str.ofString "a" then some (Value.ref l) else none) ?k1 ?k2 ?k3 ?k5 ?kA ?kF ?kK ?k6 ?k7 ?k8 ?k9 ?kB ?kR ?kM ?_ ?c2 ?c3 ?c4 ?c5
  walk_at "my_in"
  intro L' h' tk' FG' F' N' B' X' T'
  try dsimp only
  try k_fold
  refine let_A ?_
  intro ak
  k_with "execs cons" => ((with_reducible show wpAny _ _ _ _ _ (PySem.Shared.mk _ _ _ (HAdd.hAdd _ _) _)); refine repack s rfl ?_; intro tk9)
  k_with "exec While BoolOp cons nil" => k_while (fun _ (e : Int) => 0 ≤ e ∧ e ≤ ns.length ∧ x < W ^ e.toNat) (fun _ (e : Int) => e.toNat) "end"
  k_with "state" => exact ⟨by omega, by omega, normal_turn hW hr h0 (by assumption) (by assumption) (by assumption) (by assumption)⟩
  k_steps
  · exact retL ret (by assumption) (by assumption) (by assumption) (by k_mem) (by assumption) (normal_end hW hr h0 (by assumption) (by assumption) (by assumption) (fun _ => by assumption))
  · exact retL ret (by assumption) (by assumption) (by assumption) (by k_mem) (by assumption) (normal_end hW hr h0 (by assumption) (by assumption) (by assumption) (fun _ => by contradiction))

end
end Mine
namespace Mine
open PySem PySem.W PySem.Spec PySem.Calls PyProof.Rows
set_option maxRecDepth 100000
set_option maxHeartbeats 0
local macro_rules | `(tactic| walk_at "my_in") => `(tactic| ((case kA => exact rfl); (case kF => exact rfl); (case kK => first | assumption | exact rfl); (case k1 => k_asm); (case k2 => k_asm); (case k3 => k_asm); (case k5 => k_asm); (case k6 => k_is); (case k7 => k_is); (case k8 => ktr_room); (case k9 => exact BindsTo.of_eq rfl); (case c5 => decide); (case kB => exact locs rfl); (case c2 => exact rfl); (case c3 => exact rfl); (case c4 => exact rfl); (case kR => exact rfl); (case kM => (intro y; (repeat refine lk_cons' _ _ _ _ ?_); exact rfl))))
local macro_rules | `(tactic| walk_at "my_inC") => `(tactic| ((case kA => exact rfl); (case kF => exact rfl); (case kK => first | assumption | exact rfl); (case k1 => k_asm); (case k2 => k_asm); (case k3 => k_asm); (case k5 => k_asm); (case k6 => k_is); (case k7 => k_is); (case k8 => ktr_room); (case k9 => exact BindsTo.of_eq rfl); (case kB => exact rfl); (case kD => decide +kernel); (case c2 => exact rfl); (case c3 => exact rfl); (case c4 => exact rfl); (case kM => (intro L'; rfl)); (case kC => (intro L'; rfl))))
local macro_rules | `(tactic| kmk_nums) => `(tactic| first | ((with_reducible refine' kmk_all ?gi); (case gi => l_ints)) | ((with_reducible refine' kmk_upto ?gi ?gx); (case gi => l_ints); (case gx => first | with_reducible assumption | decide | omega)))
local macro_rules | `(tactic| walk_at "eval ListComp") => `(tactic| k_extra "comp")
local macro_rules | `(tactic| walk_at "call type:zip") => `(tactic| k_extra "zip")
local macro_rules | `(tactic| wrow_close) => `(tactic| k_extra "ends")
section
variable {w : World} {p : Program} {loose : List Str} {mean : ExcName → Option Value} {mg mb : Str → Option Value} {dp un : Nat} {gd : Option (List Code)} {cn : Str} {cs : Scope} {a : Addr} {ccd : Value} {cl : List (Str × Addr)} {outer : List Env} {A₀ : Around} {base h₀ : Heap} {L : Addr} {m : Str → Option Value} {s : Shared} {Q E : Value → Shared → Prop}

theorem compare_spec {la lb : Addr} {va vb : List Value} {na nb : List Int} {k : Nat} {x y : Int}
    (C : Cx w p loose mean mg mb dp un cs outer A₀ base h₀ L m s 5)
    (ha : s.heap.IsList la va.toArray) (ia : IntsAre va na) (ba : na.length < 2 ^ 16) (hb : s.heap.IsList lb vb.toArray) (ib : IntsAre vb nb) (bb : nb.length < 2 ^ 16)
    (hk2 : 2 ≤ k) (ea : na = limbs (2 ^ k) x) (eb : nb = limbs (2 ^ k) y) (h0x : y ≤ x) (h0y : 0 ≤ y)
    (ret : ∀ c, 0 ≤ c → RetI h₀ L m s Q c) :
    wpAny (model PR w) (ktrTop dp un gd cn cs L a ccd cl outer) (call (.ref 53) [.ref la, .ref lb]) Q E s := by
  k_with_none
  have hle : nb.length ≤ na.length := by
    rw [ea, eb]
    exact limbs_len_le (two_pow_le hk2) h0y (Int.lt_of_le_of_lt h0x (limbs_is (two_pow_le hk2) (Int.le_trans h0y h0x)).lt)
  obtain ⟨B, F, X, T, hk, hd, hu⟩ := C
  refine wpAny_call ?_
  refine' enterM [(Str.ofString "a", Value.ref la), (Str.ofString "b", Value.ref lb)] [(Str.ofString "b", Value.ref lb), (Str.ofString "a", Value.ref la)] (fun y => if y = Str.ofString "b" then some (Value.ref lb) else if y = Str.ofString "a" then some (Value.ref la) else none) ?k1 ?k2 ?k3 ?k5 ?kA ?kF ?kK ?k6 ?k7 ?k8 ?k9 ?kB ?kR ?kM ?_ ?c2 ?c3 ?c4 ?c5
  walk_at "my_in"
  intro L' h' tk' FG' F' N' B' X' T'
  try dsimp only
  try k_fold
  refine let_A ?_
  intro ak
  k_with "execs cons" => ((with_reducible show wpAny _ _ _ _ _ (PySem.Shared.mk _ _ _ (HAdd.hAdd _ _) _)); refine repack s rfl ?_; intro tk9)
  k_with "pyIter ref" => (
     (rename Fr _ _ _ _ => lF')
     (rename News _ _ _ _ => lN')
     (rename IsRange _ _ _ _ _ _ _ _ => rgX)
     (with_unfolding_all refine' kst_rangeD (σ := Unit) (fun _ => []) (fun _ => []) (fun _ => True) [] (fun pre _ => x / (2 ^ k) ^ (na.length - pre.length) = y / (2 ^ k) ^ (na.length - pre.length)) () (by rfl) rgX (small_down (by omega) (by omega) (by omega) (by omega)) (rangeSize_downNat _ _) lF' lN' trivial ?kk ?kp ?kt ?ke)
     (case kk => exact List.forall_mem_nil _)
     (case kp => exact cmp_start hk2 ea eb (by omega) (Int.le_trans h0y h0x) h0y rfl)
     (case' kt => (intro _ kPre kN kT kU kH kTk kOwn kEq kLt kOff _ kInv kFr kNews; (try dsimp only [kstB] at kFr); (try dsimp only at kNews); (try dsimp only); (try k_fold)))
     (case' ke => (intro _ kU kH kTk _ kInv kFr kNews; (try dsimp only [kstB] at kFr); (try dsimp only at kNews); (try dsimp only); (try k_fold))))
  k_with "state" => exact cmp_next hk2 ea eb (Int.le_trans h0y h0x) h0y (by assumption) (by assumption) (by assumption) (by assumption)
  k_with "ends" => first
  | exact (cmp_no hk2 ea eb h0x h0y (by assumption) (by assumption) (by assumption) (by assumption)).elim
  | exact retI (ret _ (by decide)) (by assumption) (by assumption) rfl
  k_steps

end
end Mine
namespace Mine
open PySem PySem.W PySem.Spec PySem.Calls PyProof.Rows
set_option maxRecDepth 100000
set_option maxHeartbeats 0
local macro_rules | `(tactic| walk_at "my_in") => `(tactic| ((case kA => exact rfl); (case kF => exact rfl); (case kK => first | assumption | exact rfl); (case k1 => k_asm); (case k2 => k_asm); (case k3 => k_asm); (case k5 => k_asm); (case k6 => k_is); (case k7 => k_is); (case k8 => ktr_room); (case k9 => exact BindsTo.of_eq rfl); (case c5 => decide); (case kB => exact locs rfl); (case c2 => exact rfl); (case c3 => exact rfl); (case c4 => exact rfl); (case kR => exact rfl); (case kM => (intro y; (repeat refine lk_cons' _ _ _ _ ?_); exact rfl))))
local macro_rules | `(tactic| walk_at "my_inC") => `(tactic| ((case kA => exact rfl); (case kF => exact rfl); (case kK => first | assumption | exact rfl); (case k1 => k_asm); (case k2 => k_asm); (case k3 => k_asm); (case k5 => k_asm); (case k6 => k_is); (case k7 => k_is); (case k8 => ktr_room); (case k9 => exact BindsTo.of_eq rfl); (case kB => exact rfl); (case kD => decide +kernel); (case c2 => exact rfl); (case c3 => exact rfl); (case c4 => exact rfl); (case kM => (intro L'; rfl)); (case kC => (intro L'; rfl))))
local macro_rules | `(tactic| kmk_nums) => `(tactic| first | ((with_reducible refine' kmk_all ?gi); (case gi => l_ints)) | ((with_reducible refine' kmk_upto ?gi ?gx); (case gi => l_ints); (case gx => first | with_reducible assumption | decide | omega)))
local macro_rules | `(tactic| walk_at "eval ListComp") => `(tactic| k_extra "comp")
local macro_rules | `(tactic| walk_at "call type:zip") => `(tactic| k_extra "zip")
local macro_rules | `(tactic| wrow_close) => `(tactic| k_extra "ends")
local macro_rules | `(tactic| walk_at "call ref") => `(tactic| k_extra "call")
section
variable {w : World} {p : Program} {loose : List Str} {mean : ExcName → Option Value} {mg mb : Str → Option Value} {dp un : Nat} {gd : Option (List Code)} {cn : Str} {cs : Scope} {a : Addr} {ccd : Value} {cl : List (Str × Addr)} {outer : List Env} {A₀ : Around} {base h₀ : Heap} {L : Addr} {m : Str → Option Value} {s : Shared} {Q E : Value → Shared → Prop}

theorem sub_spec {la lb : Addr} {va vb : List Value} {na nb : List Int} {k : Nat} {tw : Tok} {x y : Int}
    (C : Cx w p loose mean mg mb dp un cs outer A₀ base h₀ L m s 7)
    (ha : s.heap.IsList la va.toArray) (ia : IntsAre va na) (ba : na.length < 2 ^ 16) (hb : s.heap.IsList lb vb.toArray) (ib : IntsAre vb nb) (bb : nb.length < 2 ^ 16)
    (hk2 : 2 ≤ k) (hk9 : k ≤ 9) (ea : na = limbs (2 ^ k) x) (eb : nb = limbs (2 ^ k) y) (h0x : y ≤ x) (h0y : 0 ≤ y)
    (ret : RetL h₀ L m s Q (limbs (2 ^ k) (x - y))) :
    wpAny (model PR w) (ktrTop dp un gd cn cs L a ccd cl outer) (call (.ref 67) [.ref la, .ref lb, .int (k : Int) tw]) Q E s := by
  k_with_none
  have hle : nb.length ≤ na.length := by
    rw [ea, eb]
    exact limbs_len_le (two_pow_le hk2) h0y (Int.lt_of_le_of_lt h0x (limbs_is (two_pow_le hk2) (Int.le_trans h0y h0x)).lt)
  have er := rangeKs_length 0 ((na.length : Int) - 0).toNat
  obtain ⟨B, F, X, T, hk, hd, hu⟩ := C
  refine wpAny_call ?_
  refine' enterM [(Str.ofString "a", Value.ref la), (Str.ofString "b", Value.ref lb), (Str.ofString "w", Value.int (k : Int) tw)] [(Str.ofString "w", Value.int (k : Int) tw), (Str.ofString "b", Value.ref lb), (Str.ofString "a", Value.ref la)] (fun y => if y = Str.ofString "w" then some (Value.int (k : Int) tw) else if y = Str.ofString "b" then some (Value.ref lb) else if y = Str.ofString "a" then some (Value.ref la) else none) ?k1 ?k2 ?k3 ?k5 ?kA ?kF ?kK ?k6 ?k7 ?k8 ?k9 ?kB ?kR ?kM ?_ ?c2 ?c3 ?c4 ?c5
  walk_at "my_in"
  intro L' h' tk' FG' F' N' B' X' T'
  try dsimp only
  try k_fold
  refine let_A ?_
  intro ak
  k_with "execs cons" => ((with_reducible show wpAny _ _ _ _ _ (PySem.Shared.mk _ _ _ (HAdd.hAdd _ _) _)); refine repack s rfl ?_; intro tk9)
  k_with "call" => (
     k_here
     k_dflt (refine' compare_spec ⟨?k1, ?k2, ?k3, ?k4, ?k5, ?k6, ?k7⟩ ?la ?ia ba ?lb ?ib bb hk2 ea eb h0x h0y ?_)
     (case k1 => k_asm)
     (case k2 => k_asm)
     (case k3 => k_asm)
     (case k4 => k_asm)
     (case k5 => first | exact rfl | assumption)
     (case k6 => ktr_room)
     (case k7 => ktr_units)
     (case la => is_list)
     (case ia => assumption)
     (case lb => is_list)
     (case ib => assumption)
     intro c9 hc9 t9 h9 tk9 F9 S9
     have N9 := newsK (by assumption) S9
     (try dsimp only)
     (try k_sweep)
     (try k_fold))

  k_with "call" => (
     k_here
     k_dflt (refine' normal_spec (W := 2 ^ k) (x := x - y) ⟨?k1, ?k2, ?k3, ?k4, ?k5, ?k6, ?k7⟩ ?hl ?hi ?h4 (two_pow_le hk2) ?hr ?h0 ?hx ?_)
     (case k1 => k_asm)
     (case k2 => k_asm)
     (case k3 => k_asm)
     (case k4 => k_asm)
     (case k5 => first | exact rfl | assumption)
     (case k6 => ktr_room)
     (case k7 => ktr_units)
     (case hl => is_list)
     (case hi => assumption)
     (case h4 => omega)
     (case hr => assumption)
     (case h0 => omega)
     (case hx => exact sub_lt hk2 ea (by omega) h0y (by omega))
     intro r9 ws9 n9 h9 tk9 F9 S9 hn9 ho9 hi9
     have N9 := newsL (by assumption) (by assumption) S9 hn9 ho9
     (try dsimp only)
     (try k_sweep)
     (try k_fold))

  k_with "pyIter ref" => k_state (fun pre borrow found => found.length = pre.length ∧ (found.length : Int) ≤ na.length ∧ found = row (2 ^ k) (x - y) found.length ∧ borrow = - ((x % (2 ^ k) ^ found.length - y % (2 ^ k) ^ found.length) / (2 ^ k) ^ found.length)) "borrow" "found"
  k_with "state" => first
    | exact ⟨rfl, by simp <;> omega, rfl, by simp⟩
    | (refine ⟨by (simp only [List.length_append, List.length_cons, List.length_nil]; omega), by (simp only [List.length_append, List.length_cons, List.length_nil]; omega), ?_⟩
       first
       | exact (sub_turn hk2 (by assumption) (by assumption) (sub_get1 hk2 ea (by omega) (by omega)) (sub_get1 hk2 eb h0y (by omega)) rfl).1 (by assumption)
       | exact (sub_turn hk2 (by assumption) (by assumption) (sub_get1 hk2 ea (by omega) (by omega)) (sub_get1 hk2 eb h0y (by omega)) rfl).2 (by assumption)
       | exact (sub_turn hk2 (by assumption) (by assumption) (sub_get1 hk2 ea (by omega) (by omega)) (sub_get0 hk2 eb h0y (by omega)) rfl).1 (by assumption)
       | exact (sub_turn hk2 (by assumption) (by assumption) (sub_get1 hk2 ea (by omega) (by omega)) (sub_get0 hk2 eb h0y (by omega)) rfl).2 (by assumption))
  k_with "ends" => first
  | exact retL ret (by assumption) (by assumption) (by assumption) (by k_mem) (by assumption) rfl
  k_steps

end
end Mine
namespace Mine
open PySem PySem.W PySem.Spec PySem.Calls PyProof.Rows
set_option maxRecDepth 100000
set_option maxHeartbeats 0
local macro_rules | `(tactic| walk_at "my_in") => `(tactic| ((case kA => exact rfl); (case kF => exact rfl); (case kK => first | assumption | exact rfl); (case k1 => k_asm); (case k2 => k_asm); (case k3 => k_asm); (case k5 => k_asm); (case k6 => k_is); (case k7 => k_is); (case k8 => ktr_room); (case k9 => exact BindsTo.of_eq rfl); (case c5 => decide); (case kB => exact locs rfl); (case c2 => exact rfl); (case c3 => exact rfl); (case c4 => exact rfl); (case kR => exact rfl); (case kM => (intro y; (repeat refine lk_cons' _ _ _ _ ?_); exact rfl))))
local macro_rules | `(tactic| walk_at "my_inC") => `(tactic| ((case kA => exact rfl); (case kF => exact rfl); (case kK => first | assumption | exact rfl); (case k1 => k_asm); (case k2 => k_asm); (case k3 => k_asm); (case k5 => k_asm); (case k6 => k_is); (case k7 => k_is); (case k8 => ktr_room); (case k9 => exact BindsTo.of_eq rfl); (case kB => exact rfl); (case kD => decide +kernel); (case c2 => exact rfl); (case c3 => exact rfl); (case c4 => exact rfl); (case kM => (intro L'; rfl)); (case kC => (intro L'; rfl))))
local macro_rules | `(tactic| kmk_nums) => `(tactic| first | ((with_reducible refine' kmk_all ?gi); (case gi => l_ints)) | ((with_reducible refine' kmk_upto ?gi ?gx); (case gi => l_ints); (case gx => first | with_reducible assumption | decide | omega)))
local macro_rules | `(tactic| walk_at "eval ListComp") => `(tactic| k_extra "comp")
local macro_rules | `(tactic| walk_at "call type:zip") => `(tactic| k_extra "zip")
local macro_rules | `(tactic| wrow_close) => `(tactic| k_extra "ends")
local macro_rules | `(tactic| walk_at "call ref") => `(tactic| k_extra "call")
section
variable {w : World} {p : Program} {loose : List Str} {mean : ExcName → Option Value} {mg mb : Str → Option Value} {dp un : Nat} {gd : Option (List Code)} {cn : Str} {cs : Scope} {a : Addr} {ccd : Value} {cl : List (Str × Addr)} {outer : List Env} {A₀ : Around} {base h₀ : Heap} {L : Addr} {m : Str → Option Value} {s : Shared} {Q E : Value → Shared → Prop}

theorem s_bit_spec {vx : Value} {z : Int} {k n : Nat} {tn tw : Tok}
    (C : Cx w p loose mean mg mb dp un cs outer A₀ base h₀ L m s 10)
    (hx : NumH s.heap vx (num (2 ^ k) z)) (hk2 : 2 ≤ k) (hk9 : k ≤ 9) (bx' : (limbs (2 ^ k) z.natAbs).length < 2 ^ 14) (hn : n < 2 ^ 16)
    (ret : RetI h₀ L m s Q (z / 2 ^ n % 2)) :
    wpAny (model PR w) (ktrTop dp un gd cn cs L a ccd cl outer) (call (.ref 148) [vx, .int (n : Int) tn, .int (k : Int) tw]) Q E s := by
  k_with_none
  obtain ⟨tx, lx, wx, rfl, itx, ilx, iix⟩ := hx.open
  generalize ebx : (num (2 ^ k) z).1 = bbx at itx
  generalize enx : (num (2 ^ k) z).2 = nx at iix
  have ex : nx = limbs (2 ^ k) z.natAbs := enx.symm
  have bnx : nx.length < 2 ^ 14 := by rw [ex]; exact bx'
  obtain ⟨B, F, X, T, hk, hd, hu⟩ := C
  refine wpAny_call ?_
  refine' enterM [(Str.ofString "x", Value.ref tx), (Str.ofString "n", Value.int (n : Int) tn), (Str.ofString "w", Value.int (k : Int) tw)] [(Str.ofString "w", Value.int (k : Int) tw), (Str.ofString "n", Value.int (n : Int) tn), (Str.ofString "x", Value.ref tx)] (fun y => if y = Str.ofString "w" then some (Value.int (k : Int) tw) else if y = Str.ofString "n" then some (Value.int (n : Int) tn) else if y = Str.ofString "x" then some (Value.ref tx) else none) ?k1 ?k2 ?k3 ?k5 ?kA ?kF ?kK ?k6 ?k7 ?k8 ?k9 ?kB ?kR ?kM ?_ ?c2 ?c3 ?c4 ?c5
  walk_at "my_in"
  intro L' h' tk' FG' F' N' B' X' T'
  try dsimp only
  try k_fold
  refine let_A ?_
  intro ak
  k_with "execs cons" => ((with_reducible show wpAny _ _ _ _ _ (PySem.Shared.mk _ _ _ (HAdd.hAdd _ _) _)); refine repack s rfl ?_; intro tk9)
  k_with "call" => (
     k_here
     have hz := (num_fst ebx).1 (by assumption)
     k_dflt (refine' sub_spec (x := z.natAbs) (y := 1) (vb := [Value.int 1 _]) (nb := [1]) ⟨?k1, ?k2, ?k3, ?k4, ?k5, ?k6, ?k7⟩ ?la ?ia (by omega) ?lb ?ib (by decide) hk2 hk9 ex (limbs_one hk2) (by omega) (by decide) ?_)
     (case k1 => k_asm)
     (case k2 => k_asm)
     (case k3 => k_asm)
     (case k4 => k_asm)
     (case k5 => first | exact rfl | assumption)
     (case k6 => ktr_room)
     (case k7 => ktr_units)
     (case la => is_list)
     (case ia => assumption)
     (case lb => is_list)
     (case ib => exact IntsAre.cons _ _ IntsAre.nil)
     intro r9 ws9 n9 h9 tk9 F9 S9 hn9 ho9 hi9
     have N9 := newsL (by assumption) (by assumption) S9 hn9 ho9
     have bls := Nat.lt_of_le_of_lt (limbs_len_le (x := (z.natAbs : Int) - 1) (two_pow_le hk2) (by omega) (n := (limbs (2 ^ k) z.natAbs).length) (by have := (limbs_is (two_pow_le hk2) (show (0 : Int) ≤ (z.natAbs : Int) by omega)).lt; omega)) bx'
     generalize els : limbs (2 ^ k) ((z.natAbs : Int) - 1) = nl at hi9 bls
     (try dsimp only)
     (try k_sweep)
     (try k_fold))

  k_with "call" => (
     k_here
     k_dflt (refine' bit_spec (x := z.natAbs) (n := n) ⟨?k1, ?k2, ?k3, ?k4, ?k5, ?k6, ?k7⟩ ?la ?ia (by omega) hk2 hk9 hn ex (by omega) ?_)
     (case k1 => k_asm)
     (case k2 => k_asm)
     (case k3 => k_asm)
     (case k4 => k_asm)
     (case k5 => first | exact rfl | assumption)
     (case k6 => ktr_room)
     (case k7 => ktr_units)
     (case la => is_list)
     (case ia => assumption)
     intro t9 h9 tk9 F9 S9
     have N9 := newsK (by assumption) S9
     (try dsimp only)
     (try k_sweep)
     (try k_fold))

  k_with "call" => (
     k_here
     k_dflt (refine' bit_spec (na := nl) (x := (z.natAbs : Int) - 1) (n := n) ⟨?k1, ?k2, ?k3, ?k4, ?k5, ?k6, ?k7⟩ ?la ?ia (by omega) hk2 hk9 hn els.symm (by have := (num_fst ebx).1 (by assumption); omega) ?_)
     (case k1 => k_asm)
     (case k2 => k_asm)
     (case k3 => k_asm)
     (case k4 => k_asm)
     (case k5 => first | exact rfl | assumption)
     (case k6 => ktr_room)
     (case k7 => ktr_units)
     (case la => is_list)
     (case ia => assumption)
     intro t9 h9 tk9 F9 S9
     have N9 := newsK (by assumption) S9
     (try dsimp only)
     (try k_sweep)
     (try k_fold))

  k_with "ends" => first
    | exact retI ret (by assumption) (by assumption) (sb_neg ((num_fst ebx).1 (by assumption)))
    | exact retI ret (by assumption) (by assumption) (sb_pos ((num_fst ebx).2 (by assumption)))
  k_steps

end
end Mine
namespace Mine
open PySem PySem.W PySem.Spec PySem.Calls PyProof.Rows
set_option maxRecDepth 100000
set_option maxHeartbeats 0
local macro_rules | `(tactic| walk_at "my_in") => `(tactic| ((case kA => exact rfl); (case kF => exact rfl); (case kK => first | assumption | exact rfl); (case k1 => k_asm); (case k2 => k_asm); (case k3 => k_asm); (case k5 => k_asm); (case k6 => k_is); (case k7 => k_is); (case k8 => ktr_room); (case k9 => exact BindsTo.of_eq rfl); (case c5 => decide); (case kB => exact locs rfl); (case c2 => exact rfl); (case c3 => exact rfl); (case c4 => exact rfl); (case kR => exact rfl); (case kM => (intro y; (repeat refine lk_cons' _ _ _ _ ?_); exact rfl))))
local macro_rules | `(tactic| walk_at "my_inC") => `(tactic| ((case kA => exact rfl); (case kF => exact rfl); (case kK => first | assumption | exact rfl); (case k1 => k_asm); (case k2 => k_asm); (case k3 => k_asm); (case k5 => k_asm); (case k6 => k_is); (case k7 => k_is); (case k8 => ktr_room); (case k9 => exact BindsTo.of_eq rfl); (case kB => exact rfl); (case kD => decide +kernel); (case c2 => exact rfl); (case c3 => exact rfl); (case c4 => exact rfl); (case kM => (intro L'; rfl)); (case kC => (intro L'; rfl))))
local macro_rules | `(tactic| kmk_nums) => `(tactic| first | ((with_reducible refine' kmk_all ?gi); (case gi => l_ints)) | ((with_reducible refine' kmk_upto ?gi ?gx); (case gi => l_ints); (case gx => first | with_reducible assumption | decide | omega)))
local macro_rules | `(tactic| walk_at "eval ListComp") => `(tactic| k_extra "comp")
local macro_rules | `(tactic| walk_at "call type:zip") => `(tactic| k_extra "zip")
local macro_rules | `(tactic| wrow_close) => `(tactic| k_extra "ends")
section
variable {w : World} {p : Program} {loose : List Str} {mean : ExcName → Option Value} {mg mb : Str → Option Value} {dp un : Nat} {gd : Option (List Code)} {cn : Str} {cs : Scope} {a : Addr} {ccd : Value} {cl : List (Str × Addr)} {outer : List Env} {A₀ : Around} {base h₀ : Heap} {L : Addr} {m : Str → Option Value} {s : Shared} {Q E : Value → Shared → Prop}

theorem shift_left_spec {la : Addr} {va : List Value} {na : List Int} {k n : Nat} {tn tw : Tok} {x : Int}
    (C : Cx w p loose mean mg mb dp un cs outer A₀ base h₀ L m s 5)
    (ha : s.heap.IsList la va.toArray) (ia : IntsAre va na) (ba : na.length < 2 ^ 16)
    (hk2 : 2 ≤ k) (hk9 : k ≤ 9) (hn : n < 2 ^ 16) (ea : na = limbs (2 ^ k) x) (h0x : 0 ≤ x)
    (ret : RetL h₀ L m s Q (limbs (2 ^ k) (x * 2 ^ n))) :
    wpAny (model PR w) (ktrTop dp un gd cn cs L a ccd cl outer) (call (.ref 81) [.ref la, .int (n : Int) tn, .int (k : Int) tw]) Q E s := by
  k_with_none
  have hfd : 0 ≤ (n : Int).fdiv (k : Int) := by rw [fdiv_nat]; exact Int.natCast_nonneg _
  have hfn : (n : Int).fdiv (k : Int) ≤ n := by rw [fdiv_nat]; exact Int.ofNat_le.mpr (Nat.div_le_self _ _)
  have hfm : 0 ≤ (n : Int).fmod (k : Int) := by rw [fmod_nat]; exact Int.natCast_nonneg _
  have hfl : (n : Int).fmod (k : Int) < k := by rw [fmod_nat]; exact Int.ofNat_lt.mpr (Nat.mod_lt _ (by omega))
  have hsm : ∀ y ∈ na, y.natAbs < 2 ^ 64 := fun y hy => limbs_mem_small hk2 hk9 h0x (ea ▸ hy)
  have hsg : ∀ i, (na.getD i 0).natAbs < 2 ^ 64 := fun i => by rw [ea]; exact limbs_small hk2 hk9 h0x i
  obtain ⟨B, F, X, T, hk, hd, hu⟩ := C
  refine wpAny_call ?_
  refine' enterM [(Str.ofString "a", Value.ref la), (Str.ofString "n", Value.int (n : Int) tn), (Str.ofString "w", Value.int (k : Int) tw)] [(Str.ofString "w", Value.int (k : Int) tw), (Str.ofString "n", Value.int (n : Int) tn), (Str.ofString "a", Value.ref la)] (fun y => if y = Str.ofString "w" then some (Value.int (k : Int) tw) else if y = Str.ofString "n" then some (Value.int (n : Int) tn) else if y = Str.ofString "a" then some (Value.ref la) else none) ?k1 ?k2 ?k3 ?k5 ?kA ?kF ?kK ?k6 ?k7 ?k8 ?k9 ?kB ?kR ?kM ?_ ?c2 ?c3 ?c4 ?c5
  walk_at "my_in"
  intro L' h' tk' FG' F' N' B' X' T'
  try dsimp only
  try k_fold
  refine let_A ?_
  intro ak
  k_with "execs cons" => ((with_reducible show wpAny _ _ _ _ _ (PySem.Shared.mk _ _ _ (HAdd.hAdd _ _) _)); refine repack s rfl ?_; intro tk9)
  k_with "binaryOp LShift int int" => (refine' lshift_int_small ?a1 ?a2 ?a3 ?_; (case a1 => omega); (case a2 => omega); (case a3 => first | decide | exact hsm _ (by assumption) | exact hsg _); k_whole)
  k_with "pyIter ref" => k_state_given ["found!"] (fun f0 pre carry found => found.length = f0.length + pre.length ∧ found = f0 ++ row (2 ^ k) (x * 2 ^ (n % k)) pre.length ∧ carry = (x % (2 ^ k) ^ pre.length * 2 ^ (n % k)) / (2 ^ k) ^ pre.length) "carry" "found"
  k_with "state" => first
    | exact ⟨rfl, by simp [row], by simp⟩
    | (refine ⟨by (simp only [List.length_append, List.length_cons, List.length_nil]; omega), ?_⟩
       exact shl_turn hk2 ea h0x (by assumption) (by assumption) (by assumption))
  k_steps
  · exact retL ret (by assumption) (by assumption) (by assumption) (by k_mem) (by exact IntsAre.nil) (shl_nil hk2 ea h0x (by assumption))
  · refine' retL ret ?a1 ?a2 ?a3 (n_push ?a4) (ints_snoc ?a5) ?a6
    (case a1 => assumption)
    (case a2 => assumption)
    (case a3 => assumption)
    (case a4 => k_mem)
    (case a5 => assumption)
    (case a6 => exact (shl_end hk2 ea h0x (by assumption) (by assumption) (by assumption)).1 (by assumption))
  · refine' retL ret ?a1 ?a2 ?a3 ?a4 ?a5 ?a6
    (case a1 => assumption)
    (case a2 => assumption)
    (case a3 => assumption)
    (case a4 => k_mem)
    (case a5 => assumption)
    (case a6 => exact (shl_end hk2 ea h0x (by assumption) (by assumption) (by assumption)).2 (by assumption))

end
end Mine
namespace Mine
open PySem PySem.W PySem.Spec PySem.Calls PyProof.Rows
set_option maxRecDepth 100000
set_option maxHeartbeats 0
local macro_rules | `(tactic| walk_at "my_in") => `(tactic| ((case kA => exact rfl); (case kF => exact rfl); (case kK => first | assumption | exact rfl); (case k1 => k_asm); (case k2 => k_asm); (case k3 => k_asm); (case k5 => k_asm); (case k6 => k_is); (case k7 => k_is); (case k8 => ktr_room); (case k9 => exact BindsTo.of_eq rfl); (case c5 => decide); (case kB => exact locs rfl); (case c2 => exact rfl); (case c3 => exact rfl); (case c4 => exact rfl); (case kR => exact rfl); (case kM => (intro y; (repeat refine lk_cons' _ _ _ _ ?_); exact rfl))))
local macro_rules | `(tactic| walk_at "my_inC") => `(tactic| ((case kA => exact rfl); (case kF => exact rfl); (case kK => first | assumption | exact rfl); (case k1 => k_asm); (case k2 => k_asm); (case k3 => k_asm); (case k5 => k_asm); (case k6 => k_is); (case k7 => k_is); (case k8 => ktr_room); (case k9 => exact BindsTo.of_eq rfl); (case kB => exact rfl); (case kD => decide +kernel); (case c2 => exact rfl); (case c3 => exact rfl); (case c4 => exact rfl); (case kM => (intro L'; rfl)); (case kC => (intro L'; rfl))))
local macro_rules | `(tactic| kmk_nums) => `(tactic| first | ((with_reducible refine' kmk_all ?gi); (case gi => l_ints)) | ((with_reducible refine' kmk_upto ?gi ?gx); (case gi => l_ints); (case gx => first | with_reducible assumption | decide | omega)))
local macro_rules | `(tactic| walk_at "eval ListComp") => `(tactic| k_extra "comp")
local macro_rules | `(tactic| walk_at "call type:zip") => `(tactic| k_extra "zip")
local macro_rules | `(tactic| wrow_close) => `(tactic| k_extra "ends")
local macro_rules | `(tactic| walk_at "call ref") => `(tactic| k_extra "call")
section
variable {w : World} {p : Program} {loose : List Str} {mean : ExcName → Option Value} {mg mb : Str → Option Value} {dp un : Nat} {gd : Option (List Code)} {cn : Str} {cs : Scope} {a : Addr} {ccd : Value} {cl : List (Str × Addr)} {outer : List Env} {A₀ : Around} {base h₀ : Heap} {L : Addr} {m : Str → Option Value} {s : Shared} {Q E : Value → Shared → Prop}

theorem one_at_spec {k n : Nat} {tn tw : Tok}
    (C : Cx w p loose mean mg mb dp un cs outer A₀ base h₀ L m s 8)
    (hk2 : 2 ≤ k) (hk9 : k ≤ 9) (hn : n < 2 ^ 16)
    (ret : RetL h₀ L m s Q (limbs (2 ^ k) (2 ^ n))) :
    wpAny (model PR w) (ktrTop dp un gd cn cs L a ccd cl outer) (call (.ref 155) [.int (n : Int) tn, .int (k : Int) tw]) Q E s := by
  k_with_none
  obtain ⟨B, F, X, T, hk, hd, hu⟩ := C
  refine wpAny_call ?_
  refine' enterM [(Str.ofString "n", Value.int (n : Int) tn), (Str.ofString "w", Value.int (k : Int) tw)] [(Str.ofString "w", Value.int (k : Int) tw), (Str.ofString "n", Value.int (n : Int) tn)] (fun y => if y = Str.ofString "w" then some (Value.int (k : Int) tw) else if y = Str.ofString "n" then some (Value.int (n : Int) tn) else none) ?k1 ?k2 ?k3 ?k5 ?kA ?kF ?kK ?k6 ?k7 ?k8 ?k9 ?kB ?kR ?kM ?_ ?c2 ?c3 ?c4 ?c5
  walk_at "my_in"
  intro L' h' tk' FG' F' N' B' X' T'
  try dsimp only
  try k_fold
  refine let_A ?_
  intro ak
  k_with "execs cons" => ((with_reducible show wpAny _ _ _ _ _ (PySem.Shared.mk _ _ _ (HAdd.hAdd _ _) _)); refine repack s rfl ?_; intro tk9)
  k_with "call" => (
     k_here
     k_dflt (refine' shift_left_spec (x := 1) (n := n) (va := [Value.int 1 _]) (na := [1]) ⟨?k1, ?k2, ?k3, ?k4, ?k5, ?k6, ?k7⟩ ?la ?ia (by decide) hk2 hk9 hn (limbs_one hk2) (by decide) ?_)
     (case k1 => k_asm)
     (case k2 => k_asm)
     (case k3 => k_asm)
     (case k4 => k_asm)
     (case k5 => first | exact rfl | assumption)
     (case k6 => ktr_room)
     (case k7 => ktr_units)
     (case la => is_list)
     (case ia => exact IntsAre.cons _ _ IntsAre.nil)
     intro r9 ws9 n9 h9 tk9 F9 S9 hn9 ho9 hi9
     have N9 := newsL (by assumption) (by assumption) S9 hn9 ho9
     (try dsimp only)
     (try k_sweep)
     (try k_fold))

  k_with "ends" => exact retL ret (by assumption) (by assumption) (by assumption) (by k_mem) (by assumption) (by rw [Int.one_mul])
  k_steps

end
end Mine
namespace Mine
open PySem PySem.W PySem.Spec PySem.Calls PyProof.Rows
set_option maxRecDepth 100000
set_option maxHeartbeats 0
local macro_rules | `(tactic| walk_at "my_in") => `(tactic| ((case kA => exact rfl); (case kF => exact rfl); (case kK => first | assumption | exact rfl); (case k1 => k_asm); (case k2 => k_asm); (case k3 => k_asm); (case k5 => k_asm); (case k6 => k_is); (case k7 => k_is); (case k8 => ktr_room); (case k9 => exact BindsTo.of_eq rfl); (case c5 => decide); (case kB => exact locs rfl); (case c2 => exact rfl); (case c3 => exact rfl); (case c4 => exact rfl); (case kR => exact rfl); (case kM => (intro y; (repeat refine lk_cons' _ _ _ _ ?_); exact rfl))))
local macro_rules | `(tactic| walk_at "my_inC") => `(tactic| ((case kA => exact rfl); (case kF => exact rfl); (case kK => first | assumption | exact rfl); (case k1 => k_asm); (case k2 => k_asm); (case k3 => k_asm); (case k5 => k_asm); (case k6 => k_is); (case k7 => k_is); (case k8 => ktr_room); (case k9 => exact BindsTo.of_eq rfl); (case kB => exact rfl); (case kD => decide +kernel); (case c2 => exact rfl); (case c3 => exact rfl); (case c4 => exact rfl); (case kM => (intro L'; rfl)); (case kC => (intro L'; rfl))))
local macro_rules | `(tactic| kmk_nums) => `(tactic| first | ((with_reducible refine' kmk_all ?gi); (case gi => l_ints)) | ((with_reducible refine' kmk_upto ?gi ?gx); (case gi => l_ints); (case gx => first | with_reducible assumption | decide | omega)))
local macro_rules | `(tactic| walk_at "eval ListComp") => `(tactic| k_extra "comp")
local macro_rules | `(tactic| walk_at "call type:zip") => `(tactic| k_extra "zip")
local macro_rules | `(tactic| wrow_close) => `(tactic| k_extra "ends")
inductive AddMid (L' : Addr) (k : Nat) (tw : Tok) (z : Int) (s : Shared) : Flow → Shared → Prop
  | mk (l1 l2 : Addr) (v1 v2 : List Value) (n1 n2 : List Int) (x1 y1 : Int) (h' : Heap) (tk : Nat)
    (F : Fr s.heap L' h' (fun y => if y = Str.ofString "a" then some (.ref l1) else if y = Str.ofString "b" then some (.ref l2) else if y = Str.ofString "w" then some (.int (k : Int) tw) else none))
    (a1 : s.heap.IsList l1 v1.toArray) (i1 : IntsAre v1 n1) (b1 : n1.length < 2 ^ 16) (a2 : s.heap.IsList l2 v2.toArray) (i2 : IntsAre v2 n2) (b2 : n2.length < 2 ^ 16) (hle : n2.length ≤ n1.length)
    (e1 : n1 = limbs (2 ^ k) x1) (e2 : n2 = limbs (2 ^ k) y1) (h1 : 0 ≤ x1) (h2 : 0 ≤ y1) (hz : x1 + y1 = z) : AddMid L' k tw z s .next { s with heap := h', toks := tk }
theorem wpAny_cut {α : Type} {prog : Program} {w : World} {A : Around} {t : Sem α} {Q : α → Shared → Prop} {E' : Value → Shared → Prop} {s : Shared} (R : α → Shared → Prop) (h1 : wpAny (model prog w) A t R E' s) (h2 : ∀ f s', R f s' → Q f s') : wpAny (model prog w) A t Q E' s := wpAny_mono h1 h2 fun _ _ e => e
theorem frm {g h : Heap} {L : Addr} {m m' : Str → Option Value} (F : Fr g L h m) (e : ∀ y, m y = m' y) : Fr g L h m' := by rw [← funext e]; exact F
theorem swp1 (y : Str) {A B C D W : Option Value} : (if y = Str.ofString "a" then A else if y = Str.ofString "b" then B else if y = Str.ofString "w" then W else if y = Str.ofString "b" then C else if y = Str.ofString "a" then D else none) = if y = Str.ofString "a" then A else if y = Str.ofString "b" then B else if y = Str.ofString "w" then W else none := by
  by_cases h1 : y = Str.ofString "a"
  · rw [if_pos h1, if_pos h1]
  by_cases h2 : y = Str.ofString "b"
  · rw [if_neg h1, if_pos h2, if_neg h1, if_pos h2]
  rw [if_neg h1, if_neg h2, if_neg h1, if_neg h2, if_neg h2, if_neg h1]
theorem swp2 (y : Str) {A B W : Option Value} : (if y = Str.ofString "w" then W else if y = Str.ofString "b" then B else if y = Str.ofString "a" then A else none) = if y = Str.ofString "a" then A else if y = Str.ofString "b" then B else if y = Str.ofString "w" then W else none := by
  by_cases h1 : y = Str.ofString "a"
  · subst h1; rfl
  by_cases h2 : y = Str.ofString "b"
  · subst h2; rfl
  rw [if_neg h1, if_neg h2, if_neg h1, if_neg h2]
section
variable {w : World} {p : Program} {loose : List Str} {mean : ExcName → Option Value} {mg mb : Str → Option Value} {dp un : Nat} {gd : Option (List Code)} {cn : Str} {cs : Scope} {a : Addr} {ccd : Value} {cl : List (Str × Addr)} {outer : List Env} {A₀ : Around} {base h₀ : Heap} {L : Addr} {m : Str → Option Value} {s : Shared} {Q E : Value → Shared → Prop}

theorem add_spec {la lb : Addr} {va vb : List Value} {na nb : List Int} {k : Nat} {tw : Tok} {x y : Int}
    (C : Cx w p loose mean mg mb dp un cs outer A₀ base h₀ L m s 5)
    (ha : s.heap.IsList la va.toArray) (ia : IntsAre va na) (ba : na.length < 2 ^ 16) (hb : s.heap.IsList lb vb.toArray) (ib : IntsAre vb nb) (bb : nb.length < 2 ^ 16)
    (hk2 : 2 ≤ k) (hk9 : k ≤ 9) (ea : na = limbs (2 ^ k) x) (eb : nb = limbs (2 ^ k) y) (h0x : 0 ≤ x) (h0y : 0 ≤ y)
    (ret : RetL h₀ L m s Q (limbs (2 ^ k) (x + y))) :
    wpAny (model PR w) (ktrTop dp un gd cn cs L a ccd cl outer) (call (.ref 60) [.ref la, .ref lb, .int (k : Int) tw]) Q E s := by
  k_with_none
  obtain ⟨B, F, X, T, hk, hd, hu⟩ := C
  refine wpAny_call ?_
  refine' enterM [(Str.ofString "a", Value.ref la), (Str.ofString "b", Value.ref lb), (Str.ofString "w", Value.int (k : Int) tw)] [(Str.ofString "w", Value.int (k : Int) tw), (Str.ofString "b", Value.ref lb), (Str.ofString "a", Value.ref la)] (fun y => if y = Str.ofString "w" then some (Value.int (k : Int) tw) else if y = Str.ofString "b" then some (Value.ref lb) else if y = Str.ofString "a" then some (Value.ref la) else none) ?k1 ?k2 ?k3 ?k5 ?kA ?kF ?kK ?k6 ?k7 ?k8 ?k9 ?kB ?kR ?kM ?_ ?c2 ?c3 ?c4 ?c5
  walk_at "my_in"
  intro L' h' tk' FG' F' N' B' X' T'
  try dsimp only
  try k_fold
  refine let_A ?_
  intro ak
  k_with "execs cons" => ((with_reducible show wpAny _ _ _ _ _ (PySem.Shared.mk _ _ _ (HAdd.hAdd _ _) _)); refine repack s rfl ?_; intro tk9)
  have e0 : ([] : List Int).length = 0 := rfl
  k_with "exec If" => (
     (with_reducible show wpAny _ _ (exec (PySem.Stmt.If (PySem.Expr.Compare (PySem.Expr.Call (PySem.Expr.Name (Str.ofString "len") _) _ _ _) _ _ _) _ _ _) _) _ _ _)
     (fail_if_success (with_reducible show wpAny _ _ _ (AddMid _ _ _ _ _) _ _))
     k_here
     k_dflt (refine' wpAny_cut (AddMid L' k tw (x + y) s) ?hif ?hrest)
     rotate_left
     intro f9 s9 h9
     obtain ⟨l1, l2, v1, v2, n1, n2, x1, y1, h9, tk9, F9, a1, i1, b1, a2, i2, b2, hle, e1, e2, h1, h2, hz⟩ := h9
     clear F' N' ha ia ba hb ib bb ea eb h0x h0y
     have N9 : News s.heap L' h9 [] := News.nil
     have er1 := rangeKs_length 0 ((n2.length : Int) - 0).toNat
     have er3 := rangeKs_length (n2.length : Int) ((n1.length : Int) - n2.length).toNat
     rw [← hz] at ret
     clear hz
     (try dsimp only)
     (try k_fold)
     rotate_left)
  k_with "pyIter ref" => k_state_given ["found!"] (fun f0 pre carry found => found.length = f0.length + pre.length ∧ (found.length : Int) ≤ n1.length ∧ found = row (2 ^ k) (x1 + y1) found.length ∧ carry = (x1 % (2 ^ k) ^ found.length + y1 % (2 ^ k) ^ found.length) / (2 ^ k) ^ found.length) "carry" "found"
  k_with "state" => first
    | exact ⟨rfl, by simp <;> omega, rfl, by simp⟩
    | exact ⟨rfl, by assumption, by assumption, by assumption⟩
    | (refine ⟨by (simp only [List.length_append, List.length_cons, List.length_nil]; omega), by (simp only [List.length_append, List.length_cons, List.length_nil]; omega), ?_⟩
       first
       | (with_reducible refine add_turn1 hk2 e1 e2 h1 h2 ?_ ?_ ?_ <;> first | assumption | omega)
       | (with_reducible refine add_turn3 hk2 e1 e2 h1 h2 ?_ ?_ ?_ ?_ <;> first | assumption | omega))
  k_with "ends" => first
    | exact retL ret (by assumption) (by assumption) (by assumption) (by k_mem) (by assumption) ((add_end hk2 e1 e2 h1 h2 (by omega) (by assumption) (by assumption)).2 (by assumption))
    | (refine' retL ret ?a1 ?a2 ?a3 (n_push ?a4) (ints_snoc ?a5) ?a6
       (case a1 => assumption)
       (case a2 => assumption)
       (case a3 => assumption)
       (case a4 => k_mem)
       (case a5 => assumption)
       (case a6 => exact (add_end hk2 e1 e2 h1 h2 (by omega) (by assumption) (by assumption)).1 (by assumption)))
  k_steps
  · exact .mk lb la vb va nb na y x _ _ (frm (by assumption) fun y => swp1 y) hb ib bb ha ia ba (by omega) eb ea h0y h0x (Int.add_comm y x)
  · exact .mk la lb va vb na nb x y _ _ (frm (by assumption) fun y => swp2 y) ha ia ba hb ib bb (by omega) ea eb h0x h0y rfl

end
end Mine
namespace Mine
open PySem PySem.W PySem.Spec PySem.Calls PyProof.Rows
set_option maxRecDepth 100000
set_option maxHeartbeats 0
local macro_rules | `(tactic| walk_at "my_in") => `(tactic| ((case kA => exact rfl); (case kF => exact rfl); (case kK => first | assumption | exact rfl); (case k1 => k_asm); (case k2 => k_asm); (case k3 => k_asm); (case k5 => k_asm); (case k6 => k_is); (case k7 => k_is); (case k8 => ktr_room); (case k9 => exact BindsTo.of_eq rfl); (case c5 => decide); (case kB => exact locs rfl); (case c2 => exact rfl); (case c3 => exact rfl); (case c4 => exact rfl); (case kR => exact rfl); (case kM => (intro y; (repeat refine lk_cons' _ _ _ _ ?_); exact rfl))))
local macro_rules | `(tactic| walk_at "my_inC") => `(tactic| ((case kA => exact rfl); (case kF => exact rfl); (case kK => first | assumption | exact rfl); (case k1 => k_asm); (case k2 => k_asm); (case k3 => k_asm); (case k5 => k_asm); (case k6 => k_is); (case k7 => k_is); (case k8 => ktr_room); (case k9 => exact BindsTo.of_eq rfl); (case kB => exact rfl); (case kD => decide +kernel); (case c2 => exact rfl); (case c3 => exact rfl); (case c4 => exact rfl); (case kM => (intro L'; rfl)); (case kC => (intro L'; rfl))))
local macro_rules | `(tactic| kmk_nums) => `(tactic| first | ((with_reducible refine' kmk_all ?gi); (case gi => l_ints)) | ((with_reducible refine' kmk_upto ?gi ?gx); (case gi => l_ints); (case gx => first | with_reducible assumption | decide | omega)))
local macro_rules | `(tactic| walk_at "eval ListComp") => `(tactic| k_extra "comp")
local macro_rules | `(tactic| walk_at "call type:zip") => `(tactic| k_extra "zip")
local macro_rules | `(tactic| wrow_close) => `(tactic| k_extra "ends")
local macro_rules | `(tactic| walk_at "call ref") => `(tactic| k_extra "call")
section
variable {w : World} {p : Program} {loose : List Str} {mean : ExcName → Option Value} {mg mb : Str → Option Value} {dp un : Nat} {gd : Option (List Code)} {cn : Str} {cs : Scope} {a : Addr} {ccd : Value} {cl : List (Str × Addr)} {outer : List Env} {A₀ : Around} {base h₀ : Heap} {L : Addr} {m : Str → Option Value} {s : Shared} {Q E : Value → Shared → Prop}

theorem set_bit_spec {vx : Value} {z : Int} {k n : Nat} {tn tw : Tok}
    (C : Cx w p loose mean mg mb dp un cs outer A₀ base h₀ L m s 15)
    (hx : NumH s.heap vx (num (2 ^ k) z)) (hk2 : 2 ≤ k) (hk9 : k ≤ 9) (bx' : (limbs (2 ^ k) z.natAbs).length < 2 ^ 14) (hn : n < 2 ^ 13)
    (ret : RetN h₀ L m s Q (num (2 ^ k) (setB z n))) :
    wpAny (model PR w) (ktrTop dp un gd cn cs L a ccd cl outer) (call (.ref 162) [vx, .int (n : Int) tn, .int (k : Int) tw]) Q E s := by
  k_with_none
  obtain ⟨tx, lx, wx, rfl, itx, ilx, iix⟩ := hx.open
  generalize ebx : (num (2 ^ k) z).1 = bbx at itx
  generalize enx : (num (2 ^ k) z).2 = nx at iix
  have ex : nx = limbs (2 ^ k) z.natAbs := enx.symm
  have bnx : nx.length < 2 ^ 14 := by rw [ex]; exact bx'
  have b1n : (limbs (2 ^ k) (2 ^ n)).length < 2 ^ 14 := Nat.lt_of_le_of_lt (limbs_len_le (two_pow_le hk2) (Int.le_of_lt (kbt_pos n)) (n := n + 1) (by rw [pow_pow2]; exact pow_lt2 (by have := Nat.mul_le_mul_right (n + 1) hk2; omega))) (by omega)
  generalize eon : limbs (2 ^ k) (2 ^ n) = on at b1n
  have hp2 := kbt_pos n
  obtain ⟨B, F, X, T, hk, hd, hu⟩ := C
  refine wpAny_call ?_
  refine' enterM [(Str.ofString "x", Value.ref tx), (Str.ofString "n", Value.int (n : Int) tn), (Str.ofString "w", Value.int (k : Int) tw)] [(Str.ofString "w", Value.int (k : Int) tw), (Str.ofString "n", Value.int (n : Int) tn), (Str.ofString "x", Value.ref tx)] (fun y => if y = Str.ofString "w" then some (Value.int (k : Int) tw) else if y = Str.ofString "n" then some (Value.int (n : Int) tn) else if y = Str.ofString "x" then some (Value.ref tx) else none) ?k1 ?k2 ?k3 ?k5 ?kA ?kF ?kK ?k6 ?k7 ?k8 ?k9 ?kB ?kR ?kM ?_ ?c2 ?c3 ?c4 ?c5
  walk_at "my_in"
  intro L' h' tk' FG' F' N' B' X' T'
  try dsimp only
  try k_fold
  refine let_A ?_
  intro ak
  k_with "execs cons" => ((with_reducible show wpAny _ _ _ _ _ (PySem.Shared.mk _ _ _ (HAdd.hAdd _ _) _)); refine repack s rfl ?_; intro tk9)
  k_with "call" => (
     k_here
     k_dflt (refine' s_bit_spec (z := z) (n := n) ⟨?k1, ?k2, ?k3, ?k4, ?k5, ?k6, ?k7⟩ ?hx hk2 hk9 bx' (by omega) ?_)
     (case k1 => k_asm)
     (case k2 => k_asm)
     (case k3 => k_asm)
     (case k4 => k_asm)
     (case k5 => first | exact rfl | assumption)
     (case k6 => ktr_room)
     (case k7 => ktr_units)
     (case hx => exact NumH.keeps hx (Fr.keep (by assumption)))
     intro t9 h9 tk9 F9 S9
     have N9 := newsK (by assumption) S9
     (try dsimp only)
     (try k_sweep)
     (try k_fold))

  k_with "call" => (
     k_here
     k_dflt (refine' one_at_spec (n := n) ⟨?k1, ?k2, ?k3, ?k4, ?k5, ?k6, ?k7⟩ hk2 hk9 (by omega) ?_)
     (case k1 => k_asm)
     (case k2 => k_asm)
     (case k3 => k_asm)
     (case k4 => k_asm)
     (case k5 => first | exact rfl | assumption)
     (case k6 => ktr_room)
     (case k7 => ktr_units)
     rw [eon]
     intro r9 ws9 n9 h9 tk9 F9 S9 hn9 ho9 hi9
     have N9 := newsL (by assumption) (by assumption) S9 hn9 ho9
     (try dsimp only)
     (try k_sweep)
     (try k_fold))

  k_with "call" => (
     k_here
     have hz := (num_fst ebx).1 (by assumption)
     have hb0 : z / 2 ^ n % 2 = 0 := by have := zb_cases z n; omega
     have hno := neg_out hz hb0
     k_dflt (refine' sub_spec (x := z.natAbs) (y := 2 ^ n) (nb := on) ⟨?k1, ?k2, ?k3, ?k4, ?k5, ?k6, ?k7⟩ ?la ?ia (by omega) ?lb ?ib (by omega) hk2 hk9 ex eon.symm (by omega) (by omega) ?_)
     (case k1 => k_asm)
     (case k2 => k_asm)
     (case k3 => k_asm)
     (case k4 => k_asm)
     (case k5 => first | exact rfl | assumption)
     (case k6 => ktr_room)
     (case k7 => ktr_units)
     (case la => is_list)
     (case ia => assumption)
     (case lb => is_list)
     (case ib => assumption)
     intro r9 ws9 n9 h9 tk9 F9 S9 hn9 ho9 hi9
     have N9 := newsL (by assumption) (by assumption) S9 hn9 ho9
     (try dsimp only)
     (try k_sweep)
     (try k_fold))

  k_with "call" => (
     k_here
     have hz := (num_fst ebx).2 (by assumption)
     have hb0 : z / 2 ^ n % 2 = 0 := by have := zb_cases z n; omega
     have hno := hz
     k_dflt (refine' add_spec (x := z.natAbs) (y := 2 ^ n) (nb := on) ⟨?k1, ?k2, ?k3, ?k4, ?k5, ?k6, ?k7⟩ ?la ?ia (by omega) ?lb ?ib (by omega) hk2 hk9 ex eon.symm (by omega) (by omega) ?_)
     (case k1 => k_asm)
     (case k2 => k_asm)
     (case k3 => k_asm)
     (case k4 => k_asm)
     (case k5 => first | exact rfl | assumption)
     (case k6 => ktr_room)
     (case k7 => ktr_units)
     (case la => is_list)
     (case ia => assumption)
     (case lb => is_list)
     (case ib => assumption)
     intro r9 ws9 n9 h9 tk9 F9 S9 hn9 ho9 hi9
     have N9 := newsL (by assumption) (by assumption) S9 hn9 ho9
     (try dsimp only)
     (try k_sweep)
     (try k_fold))

  k_with "ends" => first
    | exact retN ret (by assumption) (by assumption) (by rw [set_same (by assumption)]; exact NumH.keeps hx (Fr.keep (by assumption)))
    | exact retT (RetN.toT ret) (by assumption) (by assumption) (by assumption) (by k_mem) (by k_mem) (by assumption) (set_neg ((num_fst ebx).1 (by assumption)) (by assumption))
    | exact retT (RetN.toT ret) (by assumption) (by assumption) (by assumption) (by k_mem) (by k_mem) (by assumption) (set_pos ((num_fst ebx).2 (by assumption)) (by assumption))
  k_steps

end
end Mine
namespace Mine
open PySem PySem.W PySem.Spec PySem.Calls PyProof.Rows
set_option maxRecDepth 100000
set_option maxHeartbeats 0
local macro_rules | `(tactic| walk_at "my_in") => `(tactic| ((case kA => exact rfl); (case kF => exact rfl); (case kK => first | assumption | exact rfl); (case k1 => k_asm); (case k2 => k_asm); (case k3 => k_asm); (case k5 => k_asm); (case k6 => k_is); (case k7 => k_is); (case k8 => ktr_room); (case k9 => exact BindsTo.of_eq rfl); (case c5 => decide); (case kB => exact locs rfl); (case c2 => exact rfl); (case c3 => exact rfl); (case c4 => exact rfl); (case kR => exact rfl); (case kM => (intro y; (repeat refine lk_cons' _ _ _ _ ?_); exact rfl))))
local macro_rules | `(tactic| walk_at "my_inC") => `(tactic| ((case kA => exact rfl); (case kF => exact rfl); (case kK => first | assumption | exact rfl); (case k1 => k_asm); (case k2 => k_asm); (case k3 => k_asm); (case k5 => k_asm); (case k6 => k_is); (case k7 => k_is); (case k8 => ktr_room); (case k9 => exact BindsTo.of_eq rfl); (case kB => exact rfl); (case kD => decide +kernel); (case c2 => exact rfl); (case c3 => exact rfl); (case c4 => exact rfl); (case kM => (intro L'; rfl)); (case kC => (intro L'; rfl))))
local macro_rules | `(tactic| kmk_nums) => `(tactic| first | ((with_reducible refine' kmk_all ?gi); (case gi => l_ints)) | ((with_reducible refine' kmk_upto ?gi ?gx); (case gi => l_ints); (case gx => first | with_reducible assumption | decide | omega)))
local macro_rules | `(tactic| walk_at "eval ListComp") => `(tactic| k_extra "comp")
local macro_rules | `(tactic| walk_at "call type:zip") => `(tactic| k_extra "zip")
local macro_rules | `(tactic| wrow_close) => `(tactic| k_extra "ends")
local macro_rules | `(tactic| walk_at "call ref") => `(tactic| k_extra "call")
section
variable {w : World} {p : Program} {loose : List Str} {mean : ExcName → Option Value} {mg mb : Str → Option Value} {dp un : Nat} {gd : Option (List Code)} {cn : Str} {cs : Scope} {a : Addr} {ccd : Value} {cl : List (Str × Addr)} {outer : List Env} {A₀ : Around} {base h₀ : Heap} {L : Addr} {m : Str → Option Value} {s : Shared} {Q E : Value → Shared → Prop}

theorem done0_spec {vx vmx vmt : Value} {z y0 : Int} {k n : Nat} {td tm : Addr} {tf tn tw : Tok}
    (C : Cx w p loose mean mg mb dp un cs outer A₀ base h₀ L m s 25)
    (hx : NumH s.heap vx (num (2 ^ k) z)) (hd1 : IsTup s.heap td #[.int 0 tf, .int (n : Int) tn, .ref tm]) (hd2 : IsTup s.heap tm #[vmx, vmt]) (hy : NumH s.heap vmx (num (2 ^ k) y0)) (hk2 : 2 ≤ k) (hk9 : k ≤ 9) (bx' : (limbs (2 ^ k) z.natAbs).length < 2 ^ 14) (hn : n < 2 ^ 13)
    (ret : RetN h₀ L m s Q (num (2 ^ k) (setB z n))) :
    wpAny (model PR w) (ktrTop dp un gd cn cs L a ccd cl outer) (call (.ref 280) [.ref td, vx, .int (k : Int) tw]) Q E s := by
  k_with_none
  obtain ⟨tx, lx, wx, rfl, itx, ilx, iix⟩ := hx.open
  generalize ebx : (num (2 ^ k) z).1 = bbx at itx
  generalize enx : (num (2 ^ k) z).2 = nx at iix
  have ex : nx = limbs (2 ^ k) z.natAbs := enx.symm
  obtain ⟨ty, ly, wy, rfl, ity, ily, iiy⟩ := hy.open
  obtain ⟨B, F, X, T, hk, hd, hu⟩ := C
  refine wpAny_call ?_
  refine' enterM [(Str.ofString "deed", Value.ref td), (Str.ofString "x", Value.ref tx), (Str.ofString "w", Value.int (k : Int) tw)] [(Str.ofString "w", Value.int (k : Int) tw), (Str.ofString "x", Value.ref tx), (Str.ofString "deed", Value.ref td)] (fun y => if y = Str.ofString "w" then some (Value.int (k : Int) tw) else if y = Str.ofString "x" then some (Value.ref tx) else if y = Str.ofString "deed" then some (Value.ref td) else none) ?k1 ?k2 ?k3 ?k5 ?kA ?kF ?kK ?k6 ?k7 ?k8 ?k9 ?kB ?kR ?kM ?_ ?c2 ?c3 ?c4 ?c5
  walk_at "my_in"
  intro L' h' tk' FG' F' N' B' X' T'
  try dsimp only
  try k_fold
  refine let_A ?_
  intro ak
  k_with "execs cons" => ((with_reducible show wpAny _ _ _ _ _ (PySem.Shared.mk _ _ _ (HAdd.hAdd _ _) _)); refine repack s rfl ?_; intro tk9)
  k_with "call" => (
     k_here
     k_dflt (refine' set_bit_spec (z := z) (n := n) ⟨?k1, ?k2, ?k3, ?k4, ?k5, ?k6, ?k7⟩ ?hx hk2 hk9 bx' hn ?_)
     (case k1 => k_asm)
     (case k2 => k_asm)
     (case k3 => k_asm)
     (case k4 => k_asm)
     (case k5 => first | exact rfl | assumption)
     (case k6 => ktr_room)
     (case k7 => ktr_units)
     (case hx => exact NumH.keeps hx (Fr.keep (by assumption)))
     intro r9 h9 tk9 F9 S9 D9
     have N9 := newsK (by assumption) S9
     (try dsimp only)
     (try k_sweep)
     (try k_fold))

  k_with "ends" => exact retN ret (by assumption) (by assumption) (by assumption)
  k_steps

end
end Mine
namespace Mine
open PySem PySem.W PySem.Spec PySem.Calls PyProof.Rows
set_option maxRecDepth 100000
set_option maxHeartbeats 0
local macro_rules | `(tactic| walk_at "my_in") => `(tactic| ((case kA => exact rfl); (case kF => exact rfl); (case kK => first | assumption | exact rfl); (case k1 => k_asm); (case k2 => k_asm); (case k3 => k_asm); (case k5 => k_asm); (case k6 => k_is); (case k7 => k_is); (case k8 => ktr_room); (case k9 => exact BindsTo.of_eq rfl); (case c5 => decide); (case kB => exact locs rfl); (case c2 => exact rfl); (case c3 => exact rfl); (case c4 => exact rfl); (case kR => exact rfl); (case kM => (intro y; (repeat refine lk_cons' _ _ _ _ ?_); exact rfl))))
local macro_rules | `(tactic| walk_at "my_inC") => `(tactic| ((case kA => exact rfl); (case kF => exact rfl); (case kK => first | assumption | exact rfl); (case k1 => k_asm); (case k2 => k_asm); (case k3 => k_asm); (case k5 => k_asm); (case k6 => k_is); (case k7 => k_is); (case k8 => ktr_room); (case k9 => exact BindsTo.of_eq rfl); (case kB => exact rfl); (case kD => decide +kernel); (case c2 => exact rfl); (case c3 => exact rfl); (case c4 => exact rfl); (case kM => (intro L'; rfl)); (case kC => (intro L'; rfl))))
local macro_rules | `(tactic| kmk_nums) => `(tactic| first | ((with_reducible refine' kmk_all ?gi); (case gi => l_ints)) | ((with_reducible refine' kmk_upto ?gi ?gx); (case gi => l_ints); (case gx => first | with_reducible assumption | decide | omega)))
local macro_rules | `(tactic| walk_at "eval ListComp") => `(tactic| k_extra "comp")
local macro_rules | `(tactic| walk_at "call type:zip") => `(tactic| k_extra "zip")
local macro_rules | `(tactic| wrow_close) => `(tactic| k_extra "ends")
local macro_rules | `(tactic| walk_at "call ref") => `(tactic| k_extra "call")
section
variable {w : World} {p : Program} {loose : List Str} {mean : ExcName → Option Value} {mg mb : Str → Option Value} {dp un : Nat} {gd : Option (List Code)} {cn : Str} {cs : Scope} {a : Addr} {ccd : Value} {cl : List (Str × Addr)} {outer : List Env} {A₀ : Around} {base h₀ : Heap} {L : Addr} {m : Str → Option Value} {s : Shared} {Q E : Value → Shared → Prop}

theorem clear_bit_spec {vx : Value} {z : Int} {k n : Nat} {tn tw : Tok}
    (C : Cx w p loose mean mg mb dp un cs outer A₀ base h₀ L m s 15)
    (hx : NumH s.heap vx (num (2 ^ k) z)) (hk2 : 2 ≤ k) (hk9 : k ≤ 9) (bx' : (limbs (2 ^ k) z.natAbs).length < 2 ^ 14) (hn : n < 2 ^ 13)
    (ret : RetN h₀ L m s Q (num (2 ^ k) (clearB z n))) :
    wpAny (model PR w) (ktrTop dp un gd cn cs L a ccd cl outer) (call (.ref 169) [vx, .int (n : Int) tn, .int (k : Int) tw]) Q E s := by
  k_with_none
  obtain ⟨tx, lx, wx, rfl, itx, ilx, iix⟩ := hx.open
  generalize ebx : (num (2 ^ k) z).1 = bbx at itx
  generalize enx : (num (2 ^ k) z).2 = nx at iix
  have ex : nx = limbs (2 ^ k) z.natAbs := enx.symm
  have bnx : nx.length < 2 ^ 14 := by rw [ex]; exact bx'
  have b1n : (limbs (2 ^ k) (2 ^ n)).length < 2 ^ 14 := Nat.lt_of_le_of_lt (limbs_len_le (two_pow_le hk2) (Int.le_of_lt (kbt_pos n)) (n := n + 1) (by rw [pow_pow2]; exact pow_lt2 (by have := Nat.mul_le_mul_right (n + 1) hk2; omega))) (by omega)
  generalize eon : limbs (2 ^ k) (2 ^ n) = on at b1n
  have hp2 := kbt_pos n
  obtain ⟨B, F, X, T, hk, hd, hu⟩ := C
  refine wpAny_call ?_
  refine' enterM [(Str.ofString "x", Value.ref tx), (Str.ofString "n", Value.int (n : Int) tn), (Str.ofString "w", Value.int (k : Int) tw)] [(Str.ofString "w", Value.int (k : Int) tw), (Str.ofString "n", Value.int (n : Int) tn), (Str.ofString "x", Value.ref tx)] (fun y => if y = Str.ofString "w" then some (Value.int (k : Int) tw) else if y = Str.ofString "n" then some (Value.int (n : Int) tn) else if y = Str.ofString "x" then some (Value.ref tx) else none) ?k1 ?k2 ?k3 ?k5 ?kA ?kF ?kK ?k6 ?k7 ?k8 ?k9 ?kB ?kR ?kM ?_ ?c2 ?c3 ?c4 ?c5
  walk_at "my_in"
  intro L' h' tk' FG' F' N' B' X' T'
  try dsimp only
  try k_fold
  refine let_A ?_
  intro ak
  k_with "execs cons" => ((with_reducible show wpAny _ _ _ _ _ (PySem.Shared.mk _ _ _ (HAdd.hAdd _ _) _)); refine repack s rfl ?_; intro tk9)
  k_with "call" => (
     k_here
     k_dflt (refine' s_bit_spec (z := z) (n := n) ⟨?k1, ?k2, ?k3, ?k4, ?k5, ?k6, ?k7⟩ ?hx hk2 hk9 bx' (by omega) ?_)
     (case k1 => k_asm)
     (case k2 => k_asm)
     (case k3 => k_asm)
     (case k4 => k_asm)
     (case k5 => first | exact rfl | assumption)
     (case k6 => ktr_room)
     (case k7 => ktr_units)
     (case hx => exact NumH.keeps hx (Fr.keep (by assumption)))
     intro t9 h9 tk9 F9 S9
     have N9 := newsK (by assumption) S9
     (try dsimp only)
     (try k_sweep)
     (try k_fold))

  k_with "call" => (
     k_here
     k_dflt (refine' one_at_spec (n := n) ⟨?k1, ?k2, ?k3, ?k4, ?k5, ?k6, ?k7⟩ hk2 hk9 (by omega) ?_)
     (case k1 => k_asm)
     (case k2 => k_asm)
     (case k3 => k_asm)
     (case k4 => k_asm)
     (case k5 => first | exact rfl | assumption)
     (case k6 => ktr_room)
     (case k7 => ktr_units)
     rw [eon]
     intro r9 ws9 n9 h9 tk9 F9 S9 hn9 ho9 hi9
     have N9 := newsL (by assumption) (by assumption) S9 hn9 ho9
     (try dsimp only)
     (try k_sweep)
     (try k_fold))

  k_with "call" => (
     k_here
     have hz := (num_fst ebx).1 (by assumption)
     have hb0 : z / 2 ^ n % 2 = 1 := by have := zb_cases z n; omega
     have hno := hz
     k_dflt (refine' add_spec (x := z.natAbs) (y := 2 ^ n) (nb := on) ⟨?k1, ?k2, ?k3, ?k4, ?k5, ?k6, ?k7⟩ ?la ?ia (by omega) ?lb ?ib (by omega) hk2 hk9 ex eon.symm (by omega) (by omega) ?_)
     (case k1 => k_asm)
     (case k2 => k_asm)
     (case k3 => k_asm)
     (case k4 => k_asm)
     (case k5 => first | exact rfl | assumption)
     (case k6 => ktr_room)
     (case k7 => ktr_units)
     (case la => is_list)
     (case ia => assumption)
     (case lb => is_list)
     (case ib => assumption)
     intro r9 ws9 n9 h9 tk9 F9 S9 hn9 ho9 hi9
     have N9 := newsL (by assumption) (by assumption) S9 hn9 ho9
     (try dsimp only)
     (try k_sweep)
     (try k_fold))

  k_with "call" => (
     k_here
     have hz := (num_fst ebx).2 (by assumption)
     have hb0 : z / 2 ^ n % 2 = 1 := by have := zb_cases z n; omega
     have hno := pos_in hz hb0
     k_dflt (refine' sub_spec (x := z.natAbs) (y := 2 ^ n) (nb := on) ⟨?k1, ?k2, ?k3, ?k4, ?k5, ?k6, ?k7⟩ ?la ?ia (by omega) ?lb ?ib (by omega) hk2 hk9 ex eon.symm (by omega) (by omega) ?_)
     (case k1 => k_asm)
     (case k2 => k_asm)
     (case k3 => k_asm)
     (case k4 => k_asm)
     (case k5 => first | exact rfl | assumption)
     (case k6 => ktr_room)
     (case k7 => ktr_units)
     (case la => is_list)
     (case ia => assumption)
     (case lb => is_list)
     (case ib => assumption)
     intro r9 ws9 n9 h9 tk9 F9 S9 hn9 ho9 hi9
     have N9 := newsL (by assumption) (by assumption) S9 hn9 ho9
     (try dsimp only)
     (try k_sweep)
     (try k_fold))

  k_with "ends" => first
    | exact retN ret (by assumption) (by assumption) (by rw [clr_same (by assumption)]; exact NumH.keeps hx (Fr.keep (by assumption)))
    | exact retT (RetN.toT ret) (by assumption) (by assumption) (by assumption) (by k_mem) (by k_mem) (by assumption) (clr_neg ((num_fst ebx).1 (by assumption)) (by assumption))
    | exact retT (RetN.toT ret) (by assumption) (by assumption) (by assumption) (by k_mem) (by k_mem) (by assumption) (clr_pos ((num_fst ebx).2 (by assumption)) (by assumption))
  k_steps

end
end Mine
namespace Mine
open PySem PySem.W PySem.Spec PySem.Calls PyProof.Rows
set_option maxRecDepth 100000
set_option maxHeartbeats 0
local macro_rules | `(tactic| walk_at "my_in") => `(tactic| ((case kA => exact rfl); (case kF => exact rfl); (case kK => first | assumption | exact rfl); (case k1 => k_asm); (case k2 => k_asm); (case k3 => k_asm); (case k5 => k_asm); (case k6 => k_is); (case k7 => k_is); (case k8 => ktr_room); (case k9 => exact BindsTo.of_eq rfl); (case c5 => decide); (case kB => exact locs rfl); (case c2 => exact rfl); (case c3 => exact rfl); (case c4 => exact rfl); (case kR => exact rfl); (case kM => (intro y; (repeat refine lk_cons' _ _ _ _ ?_); exact rfl))))
local macro_rules | `(tactic| walk_at "my_inC") => `(tactic| ((case kA => exact rfl); (case kF => exact rfl); (case kK => first | assumption | exact rfl); (case k1 => k_asm); (case k2 => k_asm); (case k3 => k_asm); (case k5 => k_asm); (case k6 => k_is); (case k7 => k_is); (case k8 => ktr_room); (case k9 => exact BindsTo.of_eq rfl); (case kB => exact rfl); (case kD => decide +kernel); (case c2 => exact rfl); (case c3 => exact rfl); (case c4 => exact rfl); (case kM => (intro L'; rfl)); (case kC => (intro L'; rfl))))
local macro_rules | `(tactic| kmk_nums) => `(tactic| first | ((with_reducible refine' kmk_all ?gi); (case gi => l_ints)) | ((with_reducible refine' kmk_upto ?gi ?gx); (case gi => l_ints); (case gx => first | with_reducible assumption | decide | omega)))
local macro_rules | `(tactic| walk_at "eval ListComp") => `(tactic| k_extra "comp")
local macro_rules | `(tactic| walk_at "call type:zip") => `(tactic| k_extra "zip")
local macro_rules | `(tactic| wrow_close) => `(tactic| k_extra "ends")
local macro_rules | `(tactic| walk_at "call ref") => `(tactic| k_extra "call")
section
variable {w : World} {p : Program} {loose : List Str} {mean : ExcName → Option Value} {mg mb : Str → Option Value} {dp un : Nat} {gd : Option (List Code)} {cn : Str} {cs : Scope} {a : Addr} {ccd : Value} {cl : List (Str × Addr)} {outer : List Env} {A₀ : Around} {base h₀ : Heap} {L : Addr} {m : Str → Option Value} {s : Shared} {Q E : Value → Shared → Prop}

theorem done1_spec {vx vmx vmt : Value} {z y0 : Int} {k n : Nat} {td tm : Addr} {tf tn tw : Tok}
    (C : Cx w p loose mean mg mb dp un cs outer A₀ base h₀ L m s 25)
    (hx : NumH s.heap vx (num (2 ^ k) z)) (hd1 : IsTup s.heap td #[.int 1 tf, .int (n : Int) tn, .ref tm]) (hd2 : IsTup s.heap tm #[vmx, vmt]) (hy : NumH s.heap vmx (num (2 ^ k) y0)) (hk2 : 2 ≤ k) (hk9 : k ≤ 9) (bx' : (limbs (2 ^ k) z.natAbs).length < 2 ^ 14) (hn : n < 2 ^ 13)
    (ret : RetN h₀ L m s Q (num (2 ^ k) (clearB z n))) :
    wpAny (model PR w) (ktrTop dp un gd cn cs L a ccd cl outer) (call (.ref 280) [.ref td, vx, .int (k : Int) tw]) Q E s := by
  k_with_none
  obtain ⟨tx, lx, wx, rfl, itx, ilx, iix⟩ := hx.open
  generalize ebx : (num (2 ^ k) z).1 = bbx at itx
  generalize enx : (num (2 ^ k) z).2 = nx at iix
  have ex : nx = limbs (2 ^ k) z.natAbs := enx.symm
  obtain ⟨ty, ly, wy, rfl, ity, ily, iiy⟩ := hy.open
  obtain ⟨B, F, X, T, hk, hd, hu⟩ := C
  refine wpAny_call ?_
  refine' enterM [(Str.ofString "deed", Value.ref td), (Str.ofString "x", Value.ref tx), (Str.ofString "w", Value.int (k : Int) tw)] [(Str.ofString "w", Value.int (k : Int) tw), (Str.ofString "x", Value.ref tx), (Str.ofString "deed", Value.ref td)] (fun y => if y = Str.ofString "w" then some (Value.int (k : Int) tw) else if y = Str.ofString "x" then some (Value.ref tx) else if y = Str.ofString "deed" then some (Value.ref td) else none) ?k1 ?k2 ?k3 ?k5 ?kA ?kF ?kK ?k6 ?k7 ?k8 ?k9 ?kB ?kR ?kM ?_ ?c2 ?c3 ?c4 ?c5
  walk_at "my_in"
  intro L' h' tk' FG' F' N' B' X' T'
  try dsimp only
  try k_fold
  refine let_A ?_
  intro ak
  k_with "execs cons" => ((with_reducible show wpAny _ _ _ _ _ (PySem.Shared.mk _ _ _ (HAdd.hAdd _ _) _)); refine repack s rfl ?_; intro tk9)
  k_with "call" => (
     k_here
     k_dflt (refine' clear_bit_spec (z := z) (n := n) ⟨?k1, ?k2, ?k3, ?k4, ?k5, ?k6, ?k7⟩ ?hx hk2 hk9 bx' hn ?_)
     (case k1 => k_asm)
     (case k2 => k_asm)
     (case k3 => k_asm)
     (case k4 => k_asm)
     (case k5 => first | exact rfl | assumption)
     (case k6 => ktr_room)
     (case k7 => ktr_units)
     (case hx => exact NumH.keeps hx (Fr.keep (by assumption)))
     intro r9 h9 tk9 F9 S9 D9
     have N9 := newsK (by assumption) S9
     (try dsimp only)
     (try k_sweep)
     (try k_fold))

  k_with "ends" => exact retN ret (by assumption) (by assumption) (by assumption)
  k_steps

end
end Mine
namespace Mine
open PySem PySem.W PySem.Spec PySem.Calls PyProof.Rows
set_option maxRecDepth 100000
set_option maxHeartbeats 0
local macro_rules | `(tactic| walk_at "my_in") => `(tactic| ((case kA => exact rfl); (case kF => exact rfl); (case kK => first | assumption | exact rfl); (case k1 => k_asm); (case k2 => k_asm); (case k3 => k_asm); (case k5 => k_asm); (case k6 => k_is); (case k7 => k_is); (case k8 => ktr_room); (case k9 => exact BindsTo.of_eq rfl); (case c5 => decide); (case kB => exact locs rfl); (case c2 => exact rfl); (case c3 => exact rfl); (case c4 => exact rfl); (case kR => exact rfl); (case kM => (intro y; (repeat refine lk_cons' _ _ _ _ ?_); exact rfl))))
local macro_rules | `(tactic| walk_at "my_inC") => `(tactic| ((case kA => exact rfl); (case kF => exact rfl); (case kK => first | assumption | exact rfl); (case k1 => k_asm); (case k2 => k_asm); (case k3 => k_asm); (case k5 => k_asm); (case k6 => k_is); (case k7 => k_is); (case k8 => ktr_room); (case k9 => exact BindsTo.of_eq rfl); (case kB => exact rfl); (case kD => decide +kernel); (case c2 => exact rfl); (case c3 => exact rfl); (case c4 => exact rfl); (case kM => (intro L'; rfl)); (case kC => (intro L'; rfl))))
local macro_rules | `(tactic| kmk_nums) => `(tactic| first | ((with_reducible refine' kmk_all ?gi); (case gi => l_ints)) | ((with_reducible refine' kmk_upto ?gi ?gx); (case gi => l_ints); (case gx => first | with_reducible assumption | decide | omega)))
local macro_rules | `(tactic| walk_at "eval ListComp") => `(tactic| k_extra "comp")
local macro_rules | `(tactic| walk_at "call type:zip") => `(tactic| k_extra "zip")
local macro_rules | `(tactic| wrow_close) => `(tactic| k_extra "ends")
local macro_rules | `(tactic| walk_at "call ref") => `(tactic| k_extra "call")
section
variable {w : World} {p : Program} {loose : List Str} {mean : ExcName → Option Value} {mg mb : Str → Option Value} {dp un : Nat} {gd : Option (List Code)} {cn : Str} {cs : Scope} {a : Addr} {ccd : Value} {cl : List (Str × Addr)} {outer : List Env} {A₀ : Around} {base h₀ : Heap} {L : Addr} {m : Str → Option Value} {s : Shared} {Q E : Value → Shared → Prop}

theorem flip_bit_spec {vx : Value} {z : Int} {k n : Nat} {tn tw : Tok}
    (C : Cx w p loose mean mg mb dp un cs outer A₀ base h₀ L m s 17)
    (hx : NumH s.heap vx (num (2 ^ k) z)) (hk2 : 2 ≤ k) (hk9 : k ≤ 9) (bx' : (limbs (2 ^ k) z.natAbs).length < 2 ^ 14) (hn : n < 2 ^ 13)
    (ret : RetN h₀ L m s Q (num (2 ^ k) (flipB z n))) :
    wpAny (model PR w) (ktrTop dp un gd cn cs L a ccd cl outer) (call (.ref 176) [vx, .int (n : Int) tn, .int (k : Int) tw]) Q E s := by
  k_with_none
  obtain ⟨tx, lx, wx, rfl, itx, ilx, iix⟩ := hx.open
  generalize ebx : (num (2 ^ k) z).1 = bbx at itx
  generalize enx : (num (2 ^ k) z).2 = nx at iix
  have ex : nx = limbs (2 ^ k) z.natAbs := enx.symm
  obtain ⟨B, F, X, T, hk, hd, hu⟩ := C
  refine wpAny_call ?_
  refine' enterM [(Str.ofString "x", Value.ref tx), (Str.ofString "n", Value.int (n : Int) tn), (Str.ofString "w", Value.int (k : Int) tw)] [(Str.ofString "w", Value.int (k : Int) tw), (Str.ofString "n", Value.int (n : Int) tn), (Str.ofString "x", Value.ref tx)] (fun y => if y = Str.ofString "w" then some (Value.int (k : Int) tw) else if y = Str.ofString "n" then some (Value.int (n : Int) tn) else if y = Str.ofString "x" then some (Value.ref tx) else none) ?k1 ?k2 ?k3 ?k5 ?kA ?kF ?kK ?k6 ?k7 ?k8 ?k9 ?kB ?kR ?kM ?_ ?c2 ?c3 ?c4 ?c5
  walk_at "my_in"
  intro L' h' tk' FG' F' N' B' X' T'
  try dsimp only
  try k_fold
  refine let_A ?_
  intro ak
  k_with "execs cons" => ((with_reducible show wpAny _ _ _ _ _ (PySem.Shared.mk _ _ _ (HAdd.hAdd _ _) _)); refine repack s rfl ?_; intro tk9)
  k_with "call" => (
     k_here
     k_dflt (refine' s_bit_spec (z := z) (n := n) ⟨?k1, ?k2, ?k3, ?k4, ?k5, ?k6, ?k7⟩ ?hx hk2 hk9 bx' (by omega) ?_)
     (case k1 => k_asm)
     (case k2 => k_asm)
     (case k3 => k_asm)
     (case k4 => k_asm)
     (case k5 => first | exact rfl | assumption)
     (case k6 => ktr_room)
     (case k7 => ktr_units)
     (case hx => exact NumH.keeps hx (Fr.keep (by assumption)))
     intro t9 h9 tk9 F9 S9
     have N9 := newsK (by assumption) S9
     (try dsimp only)
     (try k_sweep)
     (try k_fold))

  k_with "call" => (
     k_here
     have hb1 : z / 2 ^ n % 2 = 1 := (by assumption)
     k_dflt (refine' clear_bit_spec (z := z) (n := n) ⟨?k1, ?k2, ?k3, ?k4, ?k5, ?k6, ?k7⟩ ?hx hk2 hk9 bx' hn ?_)
     (case k1 => k_asm)
     (case k2 => k_asm)
     (case k3 => k_asm)
     (case k4 => k_asm)
     (case k5 => first | exact rfl | assumption)
     (case k6 => ktr_room)
     (case k7 => ktr_units)
     (case hx => exact NumH.keeps hx (Fr.keep (by assumption)))
     intro r9 h9 tk9 F9 S9 D9
     have N9 := newsK (by assumption) S9
     (try dsimp only)
     (try k_sweep)
     (try k_fold))

  k_with "call" => (
     k_here
     have hb1 : z / 2 ^ n % 2 ≠ 1 := (by assumption)
     k_dflt (refine' set_bit_spec (z := z) (n := n) ⟨?k1, ?k2, ?k3, ?k4, ?k5, ?k6, ?k7⟩ ?hx hk2 hk9 bx' hn ?_)
     (case k1 => k_asm)
     (case k2 => k_asm)
     (case k3 => k_asm)
     (case k4 => k_asm)
     (case k5 => first | exact rfl | assumption)
     (case k6 => ktr_room)
     (case k7 => ktr_units)
     (case hx => exact NumH.keeps hx (Fr.keep (by assumption)))
     intro r9 h9 tk9 F9 S9 D9
     have N9 := newsK (by assumption) S9
     (try dsimp only)
     (try k_sweep)
     (try k_fold))

  k_with "ends" => first
    | exact retN ret (by assumption) (by assumption) (by rw [flip_clr (by assumption)]; assumption)
    | exact retN ret (by assumption) (by assumption) (by rw [flip_set (by assumption)]; assumption)
  k_steps

end
end Mine
namespace Mine
open PySem PySem.W PySem.Spec PySem.Calls PyProof.Rows
set_option maxRecDepth 100000
set_option maxHeartbeats 0
local macro_rules | `(tactic| walk_at "my_in") => `(tactic| ((case kA => exact rfl); (case kF => exact rfl); (case kK => first | assumption | exact rfl); (case k1 => k_asm); (case k2 => k_asm); (case k3 => k_asm); (case k5 => k_asm); (case k6 => k_is); (case k7 => k_is); (case k8 => ktr_room); (case k9 => exact BindsTo.of_eq rfl); (case c5 => decide); (case kB => exact locs rfl); (case c2 => exact rfl); (case c3 => exact rfl); (case c4 => exact rfl); (case kR => exact rfl); (case kM => (intro y; (repeat refine lk_cons' _ _ _ _ ?_); exact rfl))))
local macro_rules | `(tactic| walk_at "my_inC") => `(tactic| ((case kA => exact rfl); (case kF => exact rfl); (case kK => first | assumption | exact rfl); (case k1 => k_asm); (case k2 => k_asm); (case k3 => k_asm); (case k5 => k_asm); (case k6 => k_is); (case k7 => k_is); (case k8 => ktr_room); (case k9 => exact BindsTo.of_eq rfl); (case kB => exact rfl); (case kD => decide +kernel); (case c2 => exact rfl); (case c3 => exact rfl); (case c4 => exact rfl); (case kM => (intro L'; rfl)); (case kC => (intro L'; rfl))))
local macro_rules | `(tactic| kmk_nums) => `(tactic| first | ((with_reducible refine' kmk_all ?gi); (case gi => l_ints)) | ((with_reducible refine' kmk_upto ?gi ?gx); (case gi => l_ints); (case gx => first | with_reducible assumption | decide | omega)))
local macro_rules | `(tactic| walk_at "eval ListComp") => `(tactic| k_extra "comp")
local macro_rules | `(tactic| walk_at "call type:zip") => `(tactic| k_extra "zip")
local macro_rules | `(tactic| wrow_close) => `(tactic| k_extra "ends")
local macro_rules | `(tactic| walk_at "call ref") => `(tactic| k_extra "call")
section
variable {w : World} {p : Program} {loose : List Str} {mean : ExcName → Option Value} {mg mb : Str → Option Value} {dp un : Nat} {gd : Option (List Code)} {cn : Str} {cs : Scope} {a : Addr} {ccd : Value} {cl : List (Str × Addr)} {outer : List Env} {A₀ : Around} {base h₀ : Heap} {L : Addr} {m : Str → Option Value} {s : Shared} {Q E : Value → Shared → Prop}

theorem done2_spec {vx vmx vmt : Value} {z y0 : Int} {k n : Nat} {td tm : Addr} {tf tn tw : Tok}
    (C : Cx w p loose mean mg mb dp un cs outer A₀ base h₀ L m s 25)
    (hx : NumH s.heap vx (num (2 ^ k) z)) (hd1 : IsTup s.heap td #[.int 2 tf, .int (n : Int) tn, .ref tm]) (hd2 : IsTup s.heap tm #[vmx, vmt]) (hy : NumH s.heap vmx (num (2 ^ k) y0)) (hk2 : 2 ≤ k) (hk9 : k ≤ 9) (bx' : (limbs (2 ^ k) z.natAbs).length < 2 ^ 14) (hn : n < 2 ^ 13)
    (ret : RetN h₀ L m s Q (num (2 ^ k) (flipB z n))) :
    wpAny (model PR w) (ktrTop dp un gd cn cs L a ccd cl outer) (call (.ref 280) [.ref td, vx, .int (k : Int) tw]) Q E s := by
  k_with_none
  obtain ⟨tx, lx, wx, rfl, itx, ilx, iix⟩ := hx.open
  generalize ebx : (num (2 ^ k) z).1 = bbx at itx
  generalize enx : (num (2 ^ k) z).2 = nx at iix
  have ex : nx = limbs (2 ^ k) z.natAbs := enx.symm
  obtain ⟨ty, ly, wy, rfl, ity, ily, iiy⟩ := hy.open
  obtain ⟨B, F, X, T, hk, hd, hu⟩ := C
  refine wpAny_call ?_
  refine' enterM [(Str.ofString "deed", Value.ref td), (Str.ofString "x", Value.ref tx), (Str.ofString "w", Value.int (k : Int) tw)] [(Str.ofString "w", Value.int (k : Int) tw), (Str.ofString "x", Value.ref tx), (Str.ofString "deed", Value.ref td)] (fun y => if y = Str.ofString "w" then some (Value.int (k : Int) tw) else if y = Str.ofString "x" then some (Value.ref tx) else if y = Str.ofString "deed" then some (Value.ref td) else none) ?k1 ?k2 ?k3 ?k5 ?kA ?kF ?kK ?k6 ?k7 ?k8 ?k9 ?kB ?kR ?kM ?_ ?c2 ?c3 ?c4 ?c5
  walk_at "my_in"
  intro L' h' tk' FG' F' N' B' X' T'
  try dsimp only
  try k_fold
  refine let_A ?_
  intro ak
  k_with "execs cons" => ((with_reducible show wpAny _ _ _ _ _ (PySem.Shared.mk _ _ _ (HAdd.hAdd _ _) _)); refine repack s rfl ?_; intro tk9)
  k_with "call" => (
     k_here
     k_dflt (refine' flip_bit_spec (z := z) (n := n) ⟨?k1, ?k2, ?k3, ?k4, ?k5, ?k6, ?k7⟩ ?hx hk2 hk9 bx' hn ?_)
     (case k1 => k_asm)
     (case k2 => k_asm)
     (case k3 => k_asm)
     (case k4 => k_asm)
     (case k5 => first | exact rfl | assumption)
     (case k6 => ktr_room)
     (case k7 => ktr_units)
     (case hx => exact NumH.keeps hx (Fr.keep (by assumption)))
     intro r9 h9 tk9 F9 S9 D9
     have N9 := newsK (by assumption) S9
     (try dsimp only)
     (try k_sweep)
     (try k_fold))

  k_with "ends" => exact retN ret (by assumption) (by assumption) (by assumption)
  k_steps

end
end Mine
namespace Mine
open PySem PySem.W PySem.Spec PySem.Calls PyProof.Rows PyProof.Rows.LCg
set_option maxRecDepth 100000

inductive ZipSrc (h₀ : Heap) (L : Addr) (m : Str → Option Value) (n1 n2 : List Int) (f : Int → Int → Int) (Q : Value → Shared → Prop) : Value → Shared → Prop
  | mk (z TI TO i1 i2 l1 l2 : Addr) (xs ys : List Value) (news : List (Addr × Obj)) (s : Shared) (D : ZipApart z TI TO i1 i2 l1 l2)
    (hst : IsZip s.heap z TI TO .none ∧ IsPair s.heap TI (.ref i1) (.ref i2) ∧ (∃ a b, IsPair s.heap TO a b) ∧ s.heap.IsListIter i1 l1 0 ∧ s.heap.IsListIter i2 l2 0 ∧ s.heap.IsList l1 xs.toArray ∧ s.heap.IsList l2 ys.toArray)
    (ix : IntsAre xs n1) (iy : IntsAre ys n2) (F : Fr h₀ L s.heap m) (N : News h₀ L s.heap news) (hnew : ∀ b ∈ [z, TO, i1, i2], h₀.get? b = none ∧ b ≠ L ∧ ∀ p ∈ news, p.1 ≠ b) (hsz : n1.length ≤ sizeLine)
    (hQ : ∀ D h tk zs, Fr h₀ L h m → News h₀ L h ((D, lst zs) :: news) → (∀ p ∈ news, p.1 ≠ D) → IntsAre zs (List.zipWith f n1 n2) → Q (.ref D) { s with heap := h, toks := tk }) : ZipSrc h₀ L m n1 n2 f Q (.ref z) s
inductive ZI (s₁ : Shared) (C D z TI TO i1 i2 l1 l2 : Addr) (xs ys : List Value) (ns : List Int) : Nat → Shared → Prop
  | mk (h' : Heap) (tk i : Nat) (zs : List Value) (m' : Str → Option Value) (hi : i ≤ min xs.length ys.length) (hzl : zs.length = i) (hzi : IntsAre zs (ns.take i))
    (hst' : IsZip h' z TI TO .none ∧ IsPair h' TI (.ref i1) (.ref i2) ∧ (∃ a b, IsPair h' TO a b) ∧ h'.IsListIter i1 l1 i ∧ h'.IsListIter i2 l2 i ∧ h'.IsList l1 xs.toArray ∧ h'.IsList l2 ys.toArray)
    (hn' : h'.Ns C m') (hac' : h'.get? D = some (lst zs)) (hk' : ∀ b o, b ∉ [z, TO, i1, i2] → s₁.heap.get? b = some o → h'.get? b = some o) : ZI s₁ C D z TI TO i1 i2 l1 l2 xs ys ns (min xs.length ys.length + 1 - i) { s₁ with heap := h', toks := tk }
theorem zi_lt {i n : Nat} (h : i < n) : n + 1 - (i + 1) < n + 1 - i := by omega


section
variable {prog : Program} {w : World} {A : Around} {E : Value → Shared → Prop} {s : Shared} {h₀ : Heap} {L : Addr} {m : Str → Option Value} {env : Env} {news : List (Addr × Obj)} {Q : Value → Shared → Prop} {n1 n2 : List Int}

theorem zip_src {f : Int → Int → Int} {l1 l2 : Addr} {xs ys : List Value} (hl1 : s.heap.IsList l1 xs.toArray) (hl2 : s.heap.IsList l2 ys.toArray) (i1 : IntsAre xs n1) (i2 : IntsAre ys n2) (F : Fr h₀ L s.heap m) (N : News h₀ L s.heap news) (hsz : n1.length ≤ sizeLine)
    (h : ∀ D h tk zs, Fr h₀ L h m → News h₀ L h ((D, lst zs) :: news) → (∀ p ∈ news, p.1 ≠ D) → IntsAre zs (List.zipWith f n1 n2) → Q (.ref D) { s with heap := h, toks := tk }) :
    wpAny (model prog w) A (call (.type "zip") [.ref l1, .ref l2]) (ZipSrc h₀ L m n1 n2 f Q) E s := by
  have a1 : l1 < s.heap.objs.size := by obtain ⟨o, e, _⟩ := hl1; exact Heap.lt_size e
  have a2 : l2 < s.heap.objs.size := by obtain ⟨o, e, _⟩ := hl2; exact Heap.lt_size e
  have aL : L < s.heap.objs.size := F.ns.lt
  have fresh : ∀ b, s.heap.objs.size ≤ b → h₀.get? b = none := fun b hb => by
    cases e : h₀.get? b with
    | none => rfl
    | some o => exact absurd (Heap.lt_size (F.keep _ _ e)) (Nat.not_lt.mpr hb)
  have g1 : ∀ k : Nat, l1 ≠ s.heap.objs.size + k := fun k => Nat.ne_of_lt (Nat.lt_of_lt_of_le a1 (Nat.le_add_right _ k))
  have g2 : ∀ k : Nat, l2 ≠ s.heap.objs.size + k := fun k => Nat.ne_of_lt (Nat.lt_of_lt_of_le a2 (Nat.le_add_right _ k))
  refine call_zip_2 hl1 hl2 fun h' b1 b2 b3 b4 b5 b6 hk => ?_
  refine ZipSrc.mk _ _ _ _ _ l1 l2 xs ys news _ ⟨?_, ?_, ?_, ?_, ?_, ?_, ?_, ?_, ?_, ?_, ?_, ?_, ?_, ?_, ?_, ?_, ?_, ?_⟩ ⟨b1, b2, ⟨_, _, b3⟩, b4, b5, hl1.at fun o e => hk _ o e, hl2.at fun o e => hk _ o e⟩ i1 i2 (F.keeps hk) (N.grown hk) ?_ hsz h
  iterate 18 (focus first | exact neN (by omega) | exact g1 _ | exact g1 0 | exact g2 _ | exact g2 0)
  intro b hb
  have hge : s.heap.objs.size ≤ b := by
    simp only [List.mem_cons, List.not_mem_nil, or_false] at hb
    rcases hb with rfl | rfl | rfl | rfl
    · exact Nat.le_add_right _ 4
    · exact Nat.le_add_right _ 3
    · exact Nat.le_refl _
    · exact Nat.le_add_right _ 1
  exact ⟨fresh b hge, fun e => absurd aL (Nat.not_lt.mpr (e ▸ hge)), fun p hp e => absurd (Heap.lt_size (N p hp).1) (Nat.not_lt.mpr (e ▸ hge))⟩

theorem ints_get {vs : List Value} {ns : List Int} (i : IntsAre vs ns) {k : Nat} {v : Value} (h : vs[k]? = some v) : ∃ n t, ns[k]? = some n ∧ v = .int n t := by
  have hl := i.length
  have hk : k < vs.length := (List.getElem?_eq_some_iff.mp h).1
  obtain ⟨t, e⟩ := i.get k (ns[k]'(by omega)) (List.getElem?_eq_getElem _)
  rw [h] at e
  exact ⟨_, t, List.getElem?_eq_getElem _, Option.some.inj e⟩

theorem elt_op {op : Operator} {f : Int → Int → Int} {a b : Str} {pa pb po : Pos} {scope : Scope} {cl : List (Str × Addr)} (hkind : scope.kind = .function) (hxa : scope.names.lookup a = some .local) (hxb : scope.names.lookup b = some .local)
    (hda : (a == ("__debug__" : Str)) = false) (hdb : (b == ("__debug__" : Str)) = false)
    (hop : ∀ (x y : Int) (tx ty : Tok) (s : Shared) (Q' E' : Value → Shared → Prop), Q' (.int (f x y) s.toks) { s with toks := s.toks + 1 } → wpAny (model prog w) A (binaryOp op (.int x tx) (.int y ty)) Q' E' s) :
    ∀ (C : Addr) (x y : Int) (tx ty : Tok) (s : Shared) (m₂ : Str → Option Value) (Q' E' : Value → Shared → Prop), s.heap.Ns C m₂ → m₂ a = some (.int x tx) → m₂ b = some (.int y ty) → (∀ t tk, Q' (.int (f x y) t) { s with toks := tk }) →
      wpAny (model prog w) A (eval (.BinOp (.Name a pa) op (.Name b pb) po) (compEnvC scope cl C env)) Q' E' s := by
  intro C x y tx ty s m₂ Q' E' hn ha hb h
  refine wpAny_BinOp ?_
  refine wpAny_Name (wpAny_loadName_local (by simp [compEnvC, relabel, hkind]) (lookup_relabel_local hxa) hn ha ?_) hda
  refine wpAny_Name (wpAny_loadName_local (by simp [compEnvC, relabel, hkind]) (lookup_relabel_local hxb) hn hb ?_) hdb
  exact hop x y tx ty s _ _ (h _ _)

theorem comp_zip {elt iter : PySem.Expr} {a b : Str} {pa pb tp : Pos} {kk : Nat} {scope : Scope} {cl : List (Str × Addr)} {pos : Pos} (f : Int → Int → Int) (n1 n2 : List Int) (_F₀ : Fr h₀ L s.heap m) (hh : A.handled = none)
    (hclos : closureFor scope env = pure cl) (hcell : ∀ y ∈ scope.names, y.2 ≠ .cell) (hkind : scope.kind = .function)
    (hnames : ∀ y ∈ scope.names, y.2 = .local → scope.names.lookup y.1 = some .local) (hxa : scope.names.lookup a = some .local) (hxb : scope.names.lookup b = some .local) (hab : ¬ a = b)
    (helt : ∀ (C : Addr) (x y : Int) (tx ty : Tok) (s : Shared) (m₂ : Str → Option Value) (Q' E' : Value → Shared → Prop), s.heap.Ns C m₂ → m₂ a = some (.int x tx) → m₂ b = some (.int y ty) → (∀ t tk, Q' (.int (f x y) t) { s with toks := tk }) →
      wpAny (model prog w) A (eval elt (compEnvC scope cl C env)) Q' E' s)
    (h : wpAny (model prog w) A (eval iter env) (ZipSrc h₀ L m n1 n2 f Q) E s)
    (hs : ∀ x, foldedSetIterable iter env x = pure x := by intro _; rfl) :
    wpAny (model prog w) A (eval (.ListComp elt [⟨.Tuple [.Name a pa, .Name b pb] kk tp, iter, [], 0⟩] scope pos) env) Q E s := by
  rw [eval_ListComp]
  refine wpAny_comprehension_free (use := none) rfl hs hclos hkind hnames (wpAny_mono h (fun xv s₁ h₁ => ?_) fun _ _ e => e)
  obtain ⟨z, TI, TO, i1, i2, l1, l2, xs, ys, news, _, D, hst, ix, iy, F, N, hnew, hsz, hQ⟩ := h₁
  have W := WalksT.zip2 (prog := prog) (w := w) hh z TI TO i1 i2 l1 l2 D xs.toArray ys.toArray
  refine W.self 0 s₁ _ _ hst ?_
  refine wpAny_newObj_type (wpAny_newFunctionEnv hcell (by intro y hy; simp at hy) (fun h₁ hns₁ hsb₁ => ?_) hkind)
  dsimp only at hns₁ hsb₁ ⊢
  generalize hH2 : s₁.heap.push { cls := .type "list", dict := none, data := .seq ([] : List Value).toArray } = H2 at hns₁ hsb₁ ⊢
  have hC : H2.objs.size = s₁.heap.objs.size + 1 := by rw [← hH2, Heap.size_push]
  have hDC : s₁.heap.objs.size ≠ H2.objs.size := by rw [hC]; exact Nat.ne_of_lt (Nat.lt_succ_self _)
  have below : ∀ b, b < s₁.heap.objs.size → b ≠ H2.objs.size ∧ b ≠ s₁.heap.objs.size := fun b hb => ⟨by rw [hC]; exact Nat.ne_of_lt (Nat.lt_succ_of_lt hb), Nat.ne_of_lt hb⟩
  have old : ∀ b o, s₁.heap.get? b = some o → h₁.get? b = some o := fun b o e => hsb₁.extBut b o (below b (Heap.lt_size e)).1 (Heap.get?_push_of_some _ (hH2 ▸ Heap.get?_push_of_some _ e))
  have hacc : h₁.get? s₁.heap.objs.size = some (lst []) := hsb₁.extBut _ _ hDC (Heap.get?_push_of_some _ (hH2 ▸ Heap.get?_push_size _ rfl))
  have fresh : ∀ a, s₁.heap.objs.size ≤ a → s₁.heap.get? a = none := fun a ha => by
    cases e : s₁.heap.get? a with
    | none => rfl
    | some o' => exact absurd (Heap.lt_size e) (Nat.not_lt.mpr ha)
  have fresh₀ : ∀ a, s₁.heap.objs.size ≤ a → h₀.get? a = none := fun a ha => by
    cases e : h₀.get? a with
    | none => rfl
    | some o' => have := F.keep a o' e; rw [fresh a ha] at this; cases this
  have hLlt : L < s₁.heap.objs.size := F.ns.lt
  -- the parts of the zip lie below
  have zlt : ∀ c ∈ [z, TI, TO, i1, i2, l1, l2], c < s₁.heap.objs.size := by
    obtain ⟨e1, e2, ⟨_, _, e3⟩, ⟨_, e4, _⟩, ⟨_, e5, _⟩, ⟨_, e6, _⟩, ⟨_, e7, _⟩⟩ := hst
    intro c hc
    simp only [List.mem_cons, List.not_mem_nil, or_false] at hc
    rcases hc with rfl | rfl | rfl | rfl | rfl | rfl | rfl
    · exact Heap.lt_size e1
    · exact Heap.lt_size e2
    · exact Heap.lt_size e3
    · exact Heap.lt_size e4
    · exact Heap.lt_size e5
    · exact Heap.lt_size e6
    · exact Heap.lt_size e7
  have nm : ∀ c, s₁.heap.objs.size ≤ c → c ∉ [z, TO, i1, i2] := fun c hc hm => absurd (zlt c (by simp only [List.mem_cons, List.not_mem_nil, or_false] at hm ⊢; rcases hm with e | e | e | e <;> simp [e])) (Nat.not_lt.mpr hc)
  have nC : H2.objs.size ∉ [z, TO, i1, i2] := nm _ (by rw [hC]; exact Nat.le_succ _)
  have nD : s₁.heap.objs.size ∉ [z, TO, i1, i2] := nm _ (Nat.le_refl _)
  have hst₁ := W.frame 0 _ _ hst fun b _ o e => old b o e
  have hlen : (List.zipWith f n1 n2).length = min xs.length ys.length := by rw [List.length_zipWith, ix.length, iy.length]
  have loop : ∀ s₃ : Shared, s₃ = { s₁ with heap := h₁, toks := s₁.toks + ([] : List (Str × Value)).length } →
      codeAny (model prog w) A (.compLoop (.ListComp elt [⟨.Tuple [.Name a pa, .Name b pb] kk tp, iter, [], 0⟩] scope pos) 0 (.ref z) (.ref s₁.heap.objs.size) (compEnvC scope cl H2.objs.size env))
        (compPost (model prog w) A E none Q (.ref s₁.heap.objs.size) H2.objs.size) s₃ := by
    rintro s₃ rfl
    refine LCp.codeAny_compLoop_pair
      (ZI s₁ H2.objs.size s₁.heap.objs.size z TI TO i1 i2 l1 l2 xs ys (List.zipWith f n1 n2)) ?_ (min xs.length ys.length + 1)
      (.mk h₁ _ 0 [] _ (Nat.zero_le _) rfl .nil hst₁ hns₁ hacc fun b o _ e => old b o e)
    rintro k s' ⟨h', tk, i, zs, m', hi, hzl, hzi, hst', hn', hac', hk'⟩
    have sz1 : xs.toArray.size = xs.length := by simp
    have sz2 : ys.toArray.size = ys.length := by simp
    by_cases hlt : i < min xs.length ys.length
    · refine W.item i _ _ _ (by rw [sz1, sz2]; exact hlt) hst' fun T vals h₂ tk₂ hP _ hT hM hk₂ => ?_
      refine W.go _ _ _ i T _ _ _ hM fun h₃ hst₃ hk₃ => ?_
      obtain ⟨x, y, hx, hy, rfl⟩ := hP
      obtain ⟨nx, tx, hnx, rfl⟩ := ints_get ix (by simpa using hx)
      obtain ⟨ny, ty, hny, rfl⟩ := ints_get iy (by simpa using hy)
      have hT₃ : h₃.IsTuple T #[.int nx tx, .int ny ty] := hT.at fun o e => hk₃ T o (W.apart _ _ _ hM) e
      have up₃ : ∀ c o, c ∉ [z, TO, i1, i2] → h'.get? c = some o → h₃.get? c = some o := fun c o hc e => hk₃ c o hc (hk₂ c o hc e)
      refine kcp_assign (env := compEnvC scope cl H2.objs.size env) hh hT₃ (lookup_relabel_local hxa) (lookup_relabel_local hxb) (by simp [compEnvC, relabel, hkind]) (hn'.at' fun o e => up₃ _ o nC e) fun h₄ tk₄ hn₄ hs₄ => ?_
      refine helt H2.objs.size nx ny tx ty _ _ _ _ hn₄ (by simp [hab]) (by simp) fun t tk₅ => ?_
      have hac₄ : h₄.get? s₁.heap.objs.size = some (lst zs) := hs₄ _ _ hDC (up₃ _ _ nD hac')
      refine append_at (hsz := by show zs.toArray.size ≤ sizeLine; rw [List.size_toArray, hzl]; rw [← ix.length] at hsz; omega) hac₄ fun h₆ hs₆ hD₆ => ?_
      refine ⟨min xs.length ys.length + 1 - (i + 1), zi_lt hlt, .mk h₆ tk₅ (i + 1) (zs ++ [.int (f nx ny) t]) _ hlt (by rw [List.length_append, List.length_singleton, hzl]) ?_ ?_ (hn₄.sameBut hs₆ (Ne.symm hDC)) (hD₆.trans (congrArg some (lst_snoc zs _))) fun c o hc e => ?_⟩
      · have e1 : (List.zipWith f n1 n2)[i]? = some (f nx ny) := by rw [List.getElem?_zipWith, hnx, hny]
        rw [List.take_add_one, e1]
        exact ints_snoc hzi
      · refine W.frame _ _ _ (W.frame _ _ _ hst₃ fun c hc o e => hs₄ c o (below c (zlt c hc)).1 e) fun c hc o e => hs₆.extBut c o (below c (zlt c hc)).2 e
      · have hlt := Heap.lt_size e
        exact hs₆.extBut c o (below c hlt).2 (hs₄ c o (below c hlt).1 (up₃ c o hc (hk' c o hc e)))
    · obtain rfl : i = min xs.length ys.length := Nat.le_antisymm hi (Nat.not_lt.mp hlt)
      refine W.done _ _ _ (by rw [sz1, sz2]; exact hst') fun h₂ tk₂ hk₂ => ?_
      refine ⟨m', hn'.at' fun o e => hk₂ _ o nC e, fun h'' hs'' => ?_⟩
      have hall : ∀ c o, c ∉ [z, TO, i1, i2] → s₁.heap.get? c = some o → h''.get? c = some o := fun c o hc e => hs''.extBut c o (below c (Heap.lt_size e)).1 (hk₂ c o hc (hk' c o hc e))
      have hD'' : h''.get? s₁.heap.objs.size = some (lst zs) := hs''.extBut _ _ hDC (hk₂ _ _ nD hac')
      refine hQ s₁.heap.objs.size h'' tk₂ zs ⟨?_, fun c o e => ?_, F.above⟩ (fun p hp => ?_) (fun p hp => Nat.ne_of_lt (Heap.lt_size (N p hp).1)) ?_
      · exact F.ns.at' fun o e => hall _ o (fun hm => (hnew _ hm).2.1 rfl) e
      · exact hall c o (fun hm => by have := (hnew _ hm).1; rw [e] at this; cases this) (F.keep c o e)
      · rcases List.mem_cons.mp hp with rfl | hp
        · exact ⟨hD'', Ne.symm (Nat.ne_of_lt hLlt), fresh₀ _ (Nat.le_refl _)⟩
        · exact ⟨hall _ _ (fun hm => (hnew _ hm).2.2 p hp rfl) (N p hp).1, (N p hp).2⟩
      · rw [List.take_of_length_le (Nat.le_of_eq hlen)] at hzi
        exact hzi
  exact codeAny_compStart_list (loop _ rfl) (W.self 0 _ _ _ hst₁ (loop _ rfl))
end
end Mine
namespace Mine
open PySem PySem.W PySem.Spec PySem.Calls PyProof.Rows
set_option maxRecDepth 100000
set_option maxHeartbeats 0
local macro_rules | `(tactic| walk_at "my_in") => `(tactic| ((case kA => exact rfl); (case kF => exact rfl); (case kK => first | assumption | exact rfl); (case k1 => k_asm); (case k2 => k_asm); (case k3 => k_asm); (case k5 => k_asm); (case k6 => k_is); (case k7 => k_is); (case k8 => ktr_room); (case k9 => exact BindsTo.of_eq rfl); (case c5 => decide); (case kB => exact locs rfl); (case c2 => exact rfl); (case c3 => exact rfl); (case c4 => exact rfl); (case kR => exact rfl); (case kM => (intro y; (repeat refine lk_cons' _ _ _ _ ?_); exact rfl))))
local macro_rules | `(tactic| walk_at "my_inC") => `(tactic| ((case kA => exact rfl); (case kF => exact rfl); (case kK => first | assumption | exact rfl); (case k1 => k_asm); (case k2 => k_asm); (case k3 => k_asm); (case k5 => k_asm); (case k6 => k_is); (case k7 => k_is); (case k8 => ktr_room); (case k9 => exact BindsTo.of_eq rfl); (case kB => exact rfl); (case kD => decide +kernel); (case c2 => exact rfl); (case c3 => exact rfl); (case c4 => exact rfl); (case kM => (intro L'; rfl)); (case kC => (intro L'; rfl))))
local macro_rules | `(tactic| kmk_nums) => `(tactic| first | ((with_reducible refine' kmk_all ?gi); (case gi => l_ints)) | ((with_reducible refine' kmk_upto ?gi ?gx); (case gi => l_ints); (case gx => first | with_reducible assumption | decide | omega)))
local macro_rules | `(tactic| walk_at "eval ListComp") => `(tactic| k_extra "comp")
local macro_rules | `(tactic| walk_at "call type:zip") => `(tactic| k_extra "zip")
local macro_rules | `(tactic| wrow_close) => `(tactic| k_extra "ends")
section
variable {w : World} {p : Program} {loose : List Str} {mean : ExcName → Option Value} {mg mb : Str → Option Value} {dp un : Nat} {gd : Option (List Code)} {cn : Str} {cs : Scope} {a : Addr} {ccd : Value} {cl : List (Str × Addr)} {outer : List Env} {A₀ : Around} {base h₀ : Heap} {L : Addr} {m : Str → Option Value} {s : Shared} {Q E : Value → Shared → Prop}

theorem joint_size_spec {vx vy : Value} {z y0 : Int} {k : Nat}
    (C : Cx w p loose mean mg mb dp un cs outer A₀ base h₀ L m s 5)
    (hx : NumH s.heap vx (num (2 ^ k) z)) (hy : NumH s.heap vy (num (2 ^ k) y0)) (bx' : (limbs (2 ^ k) z.natAbs).length < 2 ^ 14) (by' : (limbs (2 ^ k) y0.natAbs).length < 2 ^ 14)
    (ret : RetI h₀ L m s Q ((max (limbs (2 ^ k) z.natAbs).length (limbs (2 ^ k) y0.natAbs).length + 1 : Nat) : Int)) :
    wpAny (model PR w) (ktrTop dp un gd cn cs L a ccd cl outer) (call (.ref 119) [vx, vy]) Q E s := by
  k_with_none
  obtain ⟨tx, lx, wx, rfl, itx, ilx, iix⟩ := hx.open
  generalize ebx : (num (2 ^ k) z).1 = bbx at itx
  generalize enx : (num (2 ^ k) z).2 = nx at iix
  have ex : nx = limbs (2 ^ k) z.natAbs := enx.symm
  obtain ⟨ty, ly, wy, rfl, ity, ily, iiy⟩ := hy.open
  generalize eby : (num (2 ^ k) y0).1 = bby at ity
  generalize eny : (num (2 ^ k) y0).2 = ny at iiy
  have ey : ny = limbs (2 ^ k) y0.natAbs := eny.symm
  rw [← ex] at bx' ret
  rw [← ey] at by' ret
  obtain ⟨B, F, X, T, hk, hd, hu⟩ := C
  refine wpAny_call ?_
  refine' enterM [(Str.ofString "x", Value.ref tx), (Str.ofString "y", Value.ref ty)] [(Str.ofString "y", Value.ref ty), (Str.ofString "x", Value.ref tx)] (fun y => if y = Str.ofString "y" then some (Value.ref ty) else if y = Str.ofString "x" then some (Value.ref tx) else none) ?k1 ?k2 ?k3 ?k5 ?kA ?kF ?kK ?k6 ?k7 ?k8 ?k9 ?kB ?kR ?kM ?_ ?c2 ?c3 ?c4 ?c5
  walk_at "my_in"
  intro L' h' tk' FG' F' N' B' X' T'
  try dsimp only
  try k_fold
  refine let_A ?_
  intro ak
  k_with "execs cons" => ((with_reducible show wpAny _ _ _ _ _ (PySem.Shared.mk _ _ _ (HAdd.hAdd _ _) _)); refine repack s rfl ?_; intro tk9)
  k_with "ends" => exact retI ret (by assumption) (by assumption) (by split <;> omega)
  k_steps

end
end Mine
namespace Mine
open PySem PySem.W PySem.Spec PySem.Calls PyProof.Rows
set_option maxRecDepth 100000
set_option maxHeartbeats 0
local macro_rules | `(tactic| walk_at "my_in") => `(tactic| ((case kA => exact rfl); (case kF => exact rfl); (case kK => first | assumption | exact rfl); (case k1 => k_asm); (case k2 => k_asm); (case k3 => k_asm); (case k5 => k_asm); (case k6 => k_is); (case k7 => k_is); (case k8 => ktr_room); (case k9 => exact BindsTo.of_eq rfl); (case c5 => decide); (case kB => exact locs rfl); (case c2 => exact rfl); (case c3 => exact rfl); (case c4 => exact rfl); (case kR => exact rfl); (case kM => (intro y; (repeat refine lk_cons' _ _ _ _ ?_); exact rfl))))
local macro_rules | `(tactic| walk_at "my_inC") => `(tactic| ((case kA => exact rfl); (case kF => exact rfl); (case kK => first | assumption | exact rfl); (case k1 => k_asm); (case k2 => k_asm); (case k3 => k_asm); (case k5 => k_asm); (case k6 => k_is); (case k7 => k_is); (case k8 => ktr_room); (case k9 => exact BindsTo.of_eq rfl); (case kB => exact rfl); (case kD => decide +kernel); (case c2 => exact rfl); (case c3 => exact rfl); (case c4 => exact rfl); (case kM => (intro L'; rfl)); (case kC => (intro L'; rfl))))
local macro_rules | `(tactic| kmk_nums) => `(tactic| first | ((with_reducible refine' kmk_all ?gi); (case gi => l_ints)) | ((with_reducible refine' kmk_upto ?gi ?gx); (case gi => l_ints); (case gx => first | with_reducible assumption | decide | omega)))
local macro_rules | `(tactic| walk_at "eval ListComp") => `(tactic| k_extra "comp")
local macro_rules | `(tactic| walk_at "call type:zip") => `(tactic| k_extra "zip")
local macro_rules | `(tactic| wrow_close) => `(tactic| k_extra "ends")
local macro_rules | `(tactic| walk_at "call ref") => `(tactic| k_extra "call")
section
variable {w : World} {p : Program} {loose : List Str} {mean : ExcName → Option Value} {mg mb : Str → Option Value} {dp un : Nat} {gd : Option (List Code)} {cn : Str} {cs : Scope} {a : Addr} {ccd : Value} {cl : List (Str × Addr)} {outer : List Env} {A₀ : Around} {base h₀ : Heap} {L : Addr} {m : Str → Option Value} {s : Shared} {Q E : Value → Shared → Prop}

theorem row_of_spec {vx : Value} {z : Int} {k sz : Nat} {tz tw : Tok}
    (C : Cx w p loose mean mg mb dp un cs outer A₀ base h₀ L m s 10)
    (hx : NumH s.heap vx (num (2 ^ k) z)) (hk2 : 2 ≤ k) (hk9 : k ≤ 9) (hl : (limbs (2 ^ k) z.natAbs).length ≤ sz) (hsz : sz < 2 ^ 15)
    (ret : RetL h₀ L m s Q (row (2 ^ k) z sz)) :
    wpAny (model PR w) (ktrTop dp un gd cn cs L a ccd cl outer) (call (.ref 107) [vx, .int (sz : Int) tz, .int (k : Int) tw]) Q E s := by
  k_with_none
  obtain ⟨tx, lx, wx, rfl, itx, ilx, iix⟩ := hx.open
  generalize ebx : (num (2 ^ k) z).1 = bbx at itx
  generalize enx : (num (2 ^ k) z).2 = nx at iix
  have ex : nx = limbs (2 ^ k) z.natAbs := enx.symm
  have bnx : nx.length ≤ sz := by rw [ex]; exact hl
  obtain ⟨B, F, X, T, hk, hd, hu⟩ := C
  refine wpAny_call ?_
  refine' enterCM [(Str.ofString "x", Value.ref tx), (Str.ofString "size", Value.int (sz : Int) tz), (Str.ofString "w", Value.int (k : Int) tw)] (fun y => if y = Str.ofString "w" then some (Value.int (k : Int) tw) else if y = Str.ofString "size" then some (Value.int (sz : Int) tz) else if y = Str.ofString "x" then some (Value.ref tx) else none) (fun y => none) ?k1 ?k2 ?k3 ?k5 ?kA ?kF ?kK ?k6 ?k7 ?k8 ?k9 ?kB ?kD ?kM ?kC ?_ ?c2 ?c3 ?c4
  walk_at "my_inC"
  intro L' h' tk' cells' FG' F' N' Y' B' X' T'
  k_cells Y'
  (try simp only [List.cons_append, List.nil_append] at N')
  try dsimp only
  try k_fold
  refine let_A ?_
  intro ak
  k_with "execs cons" => ((with_reducible show wpAny _ _ _ _ _ (PySem.Shared.mk _ _ _ (HAdd.hAdd _ _) _)); refine repack s rfl ?_; intro tk9)
  k_with "call" => (
     k_here
     have hz := (num_fst ebx).1 (by assumption)
     k_dflt (refine' sub_spec (x := z.natAbs) (y := 1) (vb := [Value.int 1 _]) (nb := [1]) ⟨?k1, ?k2, ?k3, ?k4, ?k5, ?k6, ?k7⟩ ?la ?ia (by omega) ?lb ?ib (by decide) hk2 hk9 ex (limbs_one hk2) (by omega) (by decide) ?_)
     (case k1 => k_asm)
     (case k2 => k_asm)
     (case k3 => k_asm)
     (case k4 => k_asm)
     (case k5 => first | exact rfl | assumption)
     (case k6 => ktr_room)
     (case k7 => ktr_units)
     (case la => is_list)
     (case ia => assumption)
     (case lb => is_list)
     (case ib => exact IntsAre.cons _ _ IntsAre.nil)
     intro r9 ws9 n9 h9 tk9 F9 S9 hn9 ho9 hi9
     have N9 := newsL (by assumption) (by assumption) S9 hn9 ho9
     have bls := limbs_len_le (x := (z.natAbs : Int) - 1) (two_pow_le hk2) (by omega) (n := sz) (by have := (limbs_is (two_pow_le hk2) (show (0 : Int) ≤ (z.natAbs : Int) by omega)).lt; have := pow_le_pow (two_pow_le hk2) hl; omega)
     generalize els : limbs (2 ^ k) ((z.natAbs : Int) - 1) = nl at hi9 bls
     (try dsimp only)
     (try k_sweep)
     (try k_fold))

  k_with "ends" => first
    | exact retL ret (by assumption) (by assumption) (by assumption) (by k_mem) (by assumption) (row_flip hk2 ((num_fst ebx).1 (by assumption)) (by symm; assumption) hl)
    | exact retL ret (by assumption) (by assumption) (by assumption) (by k_mem) (by assumption) (by have hz := (num_fst ebx).2 (by assumption); rw [row_pad hk2 ex (by omega) bnx, show (z.natAbs : Int) = z by omega])
  k_steps

end
end Mine
namespace Mine
open PySem PySem.W PySem.Spec PySem.Calls PyProof.Rows
set_option maxRecDepth 100000
set_option maxHeartbeats 0
local macro_rules | `(tactic| walk_at "my_in") => `(tactic| ((case kA => exact rfl); (case kF => exact rfl); (case kK => first | assumption | exact rfl); (case k1 => k_asm); (case k2 => k_asm); (case k3 => k_asm); (case k5 => k_asm); (case k6 => k_is); (case k7 => k_is); (case k8 => ktr_room); (case k9 => exact BindsTo.of_eq rfl); (case c5 => decide); (case kB => exact locs rfl); (case c2 => exact rfl); (case c3 => exact rfl); (case c4 => exact rfl); (case kR => exact rfl); (case kM => (intro y; (repeat refine lk_cons' _ _ _ _ ?_); exact rfl))))
local macro_rules | `(tactic| walk_at "my_inC") => `(tactic| ((case kA => exact rfl); (case kF => exact rfl); (case kK => first | assumption | exact rfl); (case k1 => k_asm); (case k2 => k_asm); (case k3 => k_asm); (case k5 => k_asm); (case k6 => k_is); (case k7 => k_is); (case k8 => ktr_room); (case k9 => exact BindsTo.of_eq rfl); (case kB => exact rfl); (case kD => decide +kernel); (case c2 => exact rfl); (case c3 => exact rfl); (case c4 => exact rfl); (case kM => (intro L'; rfl)); (case kC => (intro L'; rfl))))
local macro_rules | `(tactic| kmk_nums) => `(tactic| first | ((with_reducible refine' kmk_all ?gi); (case gi => l_ints)) | ((with_reducible refine' kmk_upto ?gi ?gx); (case gi => l_ints); (case gx => first | with_reducible assumption | decide | omega)))
local macro_rules | `(tactic| walk_at "eval ListComp") => `(tactic| k_extra "comp")
local macro_rules | `(tactic| walk_at "call type:zip") => `(tactic| k_extra "zip")
local macro_rules | `(tactic| wrow_close) => `(tactic| k_extra "ends")
local macro_rules | `(tactic| walk_at "call ref") => `(tactic| k_extra "call")
section
variable {w : World} {p : Program} {loose : List Str} {mean : ExcName → Option Value} {mg mb : Str → Option Value} {dp un : Nat} {gd : Option (List Code)} {cn : Str} {cs : Scope} {a : Addr} {ccd : Value} {cl : List (Str × Addr)} {outer : List Env} {A₀ : Around} {base h₀ : Heap} {L : Addr} {m : Str → Option Value} {s : Shared} {Q E : Value → Shared → Prop}

theorem number_of_spec {la : Addr} {va : List Value} {na : List Int} {k sz : Nat} {tw : Tok} {z : Int}
    (C : Cx w p loose mean mg mb dp un cs outer A₀ base h₀ L m s 10)
    (ha : s.heap.IsList la va.toArray) (ia : IntsAre va na) (ea : na = row (2 ^ k) z sz) (hk2 : 2 ≤ k) (hk9 : k ≤ 9) (hsz : sz < 2 ^ 15) (hsz1 : 0 < sz) (hz1 : - (2 ^ k) ^ sz ≤ 2 * z) (hz2 : 2 * z < (2 ^ k) ^ sz)
    (ret : RetT h₀ L m s Q (num (2 ^ k) z)) :
    wpAny (model PR w) (ktrTop dp un gd cn cs L a ccd cl outer) (call (.ref 112) [.ref la, .int (k : Int) tw]) Q E s := by
  k_with_none
  have bna : na.length = sz := by rw [ea, row_length]
  obtain ⟨B, F, X, T, hk, hd, hu⟩ := C
  refine wpAny_call ?_
  refine' enterCM [(Str.ofString "row", Value.ref la), (Str.ofString "w", Value.int (k : Int) tw)] (fun y => if y = Str.ofString "w" then some (Value.int (k : Int) tw) else if y = Str.ofString "row" then some (Value.ref la) else none) (fun y => none) ?k1 ?k2 ?k3 ?k5 ?kA ?kF ?kK ?k6 ?k7 ?k8 ?k9 ?kB ?kD ?kM ?kC ?_ ?c2 ?c3 ?c4
  walk_at "my_inC"
  intro L' h' tk' cells' FG' F' N' Y' B' X' T'
  k_cells Y'
  (try simp only [List.cons_append, List.nil_append] at N')
  try dsimp only
  try k_fold
  refine let_A ?_
  intro ak
  k_with "execs cons" => ((with_reducible show wpAny _ _ _ _ _ (PySem.Shared.mk _ _ _ (HAdd.hAdd _ _) _)); refine repack s rfl ?_; intro tk9)
  k_with "call" => (exfalso; omega)
  k_with "call" => (
     k_here
     have hz := (numof_sign hk2 ea hsz1 hz1 hz2).1 (by assumption)
     have hr := numof_pos hk2 ea hz2 hz
     k_dflt (refine' normal_spec (W := 2 ^ k) (x := z) ⟨?k1, ?k2, ?k3, ?k4, ?k5, ?k6, ?k7⟩ ?hl ?hi (by omega) (two_pow_le hk2) hr.1 hz hr.2 ?_)
     (case k1 => k_asm)
     (case k2 => k_asm)
     (case k3 => k_asm)
     (case k4 => k_asm)
     (case k5 => first | exact rfl | assumption)
     (case k6 => ktr_room)
     (case k7 => ktr_units)
     (case hl => is_list)
     (case hi => exact ia)
     intro r9 ws9 n9 h9 tk9 F9 S9 hn9 ho9 hi9
     have N9 := newsL (by assumption) (by assumption) S9 hn9 ho9
     (try dsimp only)
     (try k_sweep)
     (try k_fold))

  k_with "call" => (
     k_here
     have hz := (numof_sign hk2 ea hsz1 hz1 hz2).2 (by assumption)
     have hr := numof_neg hk2 ea hz1 hz
     k_dflt (refine' normal_spec (W := 2 ^ k) (x := -z - 1) ⟨?k1, ?k2, ?k3, ?k4, ?k5, ?k6, ?k7⟩ ?hl ?hi (by rw [List.length_map]; omega) (two_pow_le hk2) hr.1 (by omega) hr.2 ?_)
     (case k1 => k_asm)
     (case k2 => k_asm)
     (case k3 => k_asm)
     (case k4 => k_asm)
     (case k5 => first | exact rfl | assumption)
     (case k6 => ktr_room)
     (case k7 => ktr_units)
     (case hl => is_list)
     (case hi => assumption)
     intro r9 ws9 n9 h9 tk9 F9 S9 hn9 ho9 hi9
     have N9 := newsL (by assumption) (by assumption) S9 hn9 ho9
     have bls := limbs_len_le (x := -z - 1) (two_pow_le hk2) (by omega) (n := sz) (by have := hr.2; rw [List.length_map, bna] at this; exact this)
     generalize els : limbs (2 ^ k) (-z - 1) = nl at hi9 bls
     (try dsimp only)
     (try k_sweep)
     (try k_fold))

  k_with "call" => (
     k_here
     have hz := (numof_sign hk2 ea hsz1 hz1 hz2).2 (by assumption)
     k_dflt (refine' add_spec (x := -z - 1) (y := 1) (vb := [Value.int 1 _]) (nb := [1]) ⟨?k1, ?k2, ?k3, ?k4, ?k5, ?k6, ?k7⟩ ?la ?ia ?ba ?lb ?ib (by decide) hk2 hk9 ?els (limbs_one hk2) (by omega) (by decide) ?_)
     (case k1 => k_asm)
     (case k2 => k_asm)
     (case k3 => k_asm)
     (case k4 => k_asm)
     (case k5 => first | exact rfl | assumption)
     (case k6 => ktr_room)
     (case k7 => ktr_units)
     (case la => is_list)
     (case ia => assumption)
     (case ba => omega)
     (case els => symm; assumption)
     (case lb => is_list)
     (case ib => exact IntsAre.cons _ _ IntsAre.nil)
     intro r9 ws9 n9 h9 tk9 F9 S9 hn9 ho9 hi9
     have N9 := newsL (by assumption) (by assumption) S9 hn9 ho9
     (try dsimp only)
     (try k_sweep)
     (try k_fold))

  k_with "ends" => first
    | exact retT ret (by assumption) (by assumption) (by assumption) (by k_mem) (by k_mem) (by assumption) (num_pos (by assumption))
    | exact retT ret (by assumption) (by assumption) (by assumption) (by k_mem) (by k_mem) (by assumption) (by rw [show -z - 1 + 1 = -z by omega]; exact num_neg (by assumption))
  k_steps

end
end Mine
namespace Mine
open PySem PySem.W PySem.Spec PySem.Calls PyProof.Rows
set_option maxRecDepth 100000
set_option maxHeartbeats 0
local macro_rules | `(tactic| walk_at "my_in") => `(tactic| ((case kA => exact rfl); (case kF => exact rfl); (case kK => first | assumption | exact rfl); (case k1 => k_asm); (case k2 => k_asm); (case k3 => k_asm); (case k5 => k_asm); (case k6 => k_is); (case k7 => k_is); (case k8 => ktr_room); (case k9 => exact BindsTo.of_eq rfl); (case c5 => decide); (case kB => exact locs rfl); (case c2 => exact rfl); (case c3 => exact rfl); (case c4 => exact rfl); (case kR => exact rfl); (case kM => (intro y; (repeat refine lk_cons' _ _ _ _ ?_); exact rfl))))
local macro_rules | `(tactic| walk_at "my_inC") => `(tactic| ((case kA => exact rfl); (case kF => exact rfl); (case kK => first | assumption | exact rfl); (case k1 => k_asm); (case k2 => k_asm); (case k3 => k_asm); (case k5 => k_asm); (case k6 => k_is); (case k7 => k_is); (case k8 => ktr_room); (case k9 => exact BindsTo.of_eq rfl); (case kB => exact rfl); (case kD => decide +kernel); (case c2 => exact rfl); (case c3 => exact rfl); (case c4 => exact rfl); (case kM => (intro L'; rfl)); (case kC => (intro L'; rfl))))
local macro_rules | `(tactic| kmk_nums) => `(tactic| first | ((with_reducible refine' kmk_all ?gi); (case gi => l_ints)) | ((with_reducible refine' kmk_upto ?gi ?gx); (case gi => l_ints); (case gx => first | with_reducible assumption | decide | omega)))
local macro_rules | `(tactic| walk_at "eval ListComp") => `(tactic| k_extra "comp")
local macro_rules | `(tactic| walk_at "call type:zip") => `(tactic| k_extra "zip")
local macro_rules | `(tactic| wrow_close) => `(tactic| k_extra "ends")
local macro_rules | `(tactic| walk_at "call ref") => `(tactic| k_extra "call")
section
variable {w : World} {p : Program} {loose : List Str} {mean : ExcName → Option Value} {mg mb : Str → Option Value} {dp un : Nat} {gd : Option (List Code)} {cn : Str} {cs : Scope} {a : Addr} {ccd : Value} {cl : List (Str × Addr)} {outer : List Env} {A₀ : Around} {base h₀ : Heap} {L : Addr} {m : Str → Option Value} {s : Shared} {Q E : Value → Shared → Prop}

theorem s_and_spec {vx vy : Value} {z y0 : Int} {k : Nat} {tw : Tok}
    (C : Cx w p loose mean mg mb dp un cs outer A₀ base h₀ L m s 15)
    (hx : NumH s.heap vx (num (2 ^ k) z)) (hy : NumH s.heap vy (num (2 ^ k) y0)) (hk2 : 2 ≤ k) (hk9 : k ≤ 9) (bx' : (limbs (2 ^ k) z.natAbs).length < 2 ^ 14) (by' : (limbs (2 ^ k) y0.natAbs).length < 2 ^ 14)
    (ret : RetT h₀ L m s Q (num (2 ^ k) (Builtin.bitAnd z y0))) :
    wpAny (model PR w) (ktrTop dp un gd cn cs L a ccd cl outer) (call (.ref 124) [vx, vy, .int (k : Int) tw]) Q E s := by
  k_with_none
  obtain ⟨tx, lx, wx, rfl, itx, ilx, iix⟩ := hx.open
  generalize ebx : (num (2 ^ k) z).1 = bbx at itx
  generalize enx : (num (2 ^ k) z).2 = nx at iix
  have ex : nx = limbs (2 ^ k) z.natAbs := enx.symm
  obtain ⟨ty, ly, wy, rfl, ity, ily, iiy⟩ := hy.open
  generalize eby : (num (2 ^ k) y0).1 = bby at ity
  generalize eny : (num (2 ^ k) y0).2 = ny at iiy
  have ey : ny = limbs (2 ^ k) y0.natAbs := eny.symm
  have lx' := Nat.le_max_left (limbs (2 ^ k) z.natAbs).length (limbs (2 ^ k) y0.natAbs).length
  have ly' := Nat.le_max_right (limbs (2 ^ k) z.natAbs).length (limbs (2 ^ k) y0.natAbs).length
  generalize esz : max (limbs (2 ^ k) z.natAbs).length (limbs (2 ^ k) y0.natAbs).length = sz at lx' ly'
  have hrg := op_range isBitOp_and hk2 lx' ly'
  obtain ⟨B, F, X, T, hk, hd, hu⟩ := C
  refine wpAny_call ?_
  refine' enterM [(Str.ofString "x", Value.ref tx), (Str.ofString "y", Value.ref ty), (Str.ofString "w", Value.int (k : Int) tw)] [(Str.ofString "w", Value.int (k : Int) tw), (Str.ofString "y", Value.ref ty), (Str.ofString "x", Value.ref tx)] (fun y => if y = Str.ofString "w" then some (Value.int (k : Int) tw) else if y = Str.ofString "y" then some (Value.ref ty) else if y = Str.ofString "x" then some (Value.ref tx) else none) ?k1 ?k2 ?k3 ?k5 ?kA ?kF ?kK ?k6 ?k7 ?k8 ?k9 ?kB ?kR ?kM ?_ ?c2 ?c3 ?c4 ?c5
  walk_at "my_in"
  intro L' h' tk' FG' F' N' B' X' T'
  try dsimp only
  try k_fold
  refine let_A ?_
  intro ak
  k_with "execs cons" => ((with_reducible show wpAny _ _ _ _ _ (PySem.Shared.mk _ _ _ (HAdd.hAdd _ _) _)); refine repack s rfl ?_; intro tk9)
  k_with "call" => (
     k_here
     k_dflt (refine' joint_size_spec (z := z) (y0 := y0) ⟨?k1, ?k2, ?k3, ?k4, ?k5, ?k6, ?k7⟩ ?hx ?hy bx' by' ?_)
     (case k1 => k_asm)
     (case k2 => k_asm)
     (case k3 => k_asm)
     (case k4 => k_asm)
     (case k5 => first | exact rfl | assumption)
     (case k6 => ktr_room)
     (case k7 => ktr_units)
     (case hx => exact NumH.keeps hx (Fr.keep (by assumption)))
     (case hy => exact NumH.keeps hy (Fr.keep (by assumption)))
     rw [esz]
     intro t9 h9 tk9 F9 S9
     have N9 := newsK (by assumption) S9
     (try dsimp only)
     (try k_sweep)
     (try k_fold))

  k_with "call" => (
     k_here
     k_dflt (refine' row_of_spec (z := z) ⟨?k1, ?k2, ?k3, ?k4, ?k5, ?k6, ?k7⟩ ?hx hk2 hk9 ?hl ?hs ?_)
     (case k1 => k_asm)
     (case k2 => k_asm)
     (case k3 => k_asm)
     (case k4 => k_asm)
     (case k5 => first | exact rfl | assumption)
     (case k6 => ktr_room)
     (case k7 => ktr_units)
     (case hx => exact NumH.keeps hx (Fr.keep (by assumption)))
     (case hl => omega)
     (case hs => omega)
     intro r9 ws9 n9 h9 tk9 F9 S9 hn9 ho9 hi9
     have N9 := newsL (by assumption) (by assumption) S9 hn9 ho9
     (try dsimp only)
     (try k_sweep)
     (try k_fold))

  k_with "call" => (
     k_here
     k_dflt (refine' row_of_spec (z := y0) ⟨?k1, ?k2, ?k3, ?k4, ?k5, ?k6, ?k7⟩ ?hx hk2 hk9 ?hl ?hs ?_)
     (case k1 => k_asm)
     (case k2 => k_asm)
     (case k3 => k_asm)
     (case k4 => k_asm)
     (case k5 => first | exact rfl | assumption)
     (case k6 => ktr_room)
     (case k7 => ktr_units)
     (case hx => exact NumH.keeps hy (Fr.keep (by assumption)))
     (case hl => omega)
     (case hs => omega)
     intro r9 ws9 n9 h9 tk9 F9 S9 hn9 ho9 hi9
     have N9 := newsL (by assumption) (by assumption) S9 hn9 ho9
     (try dsimp only)
     (try k_sweep)
     (try k_fold))

  k_with "comp" => (
     k_dflt (refine' comp_zip Builtin.bitAnd (row (2 ^ k) z (sz + 1)) (row (2 ^ k) y0 (sz + 1)) ?a0 ?a1 ?a2 ?a3 ?a4 ?a5 ?a6 ?a7 ?a8 ?a9 ?_)
     (case a0 => k_asm)
     (case a1 => k_dflt rfl)
     (case a2 => with_unfolding_all rfl)
     (case a3 => k_dflt decide)
     (case a4 => k_dflt rfl)
     (case a5 => k_dflt decide)
     (case a6 => k_dflt rfl)
     (case a7 => k_dflt rfl)
     (case a8 => k_dflt decide)
     (case a9 => k_dflt (exact elt_op (by rfl) (by rfl) (by rfl) (by decide) (by decide) (fun _ _ _ _ _ _ _ h => and_int h))))
  k_with "zip" => ((k_dflt (refine' zip_src ?l1 ?l2 ?i1 ?i2 ?F ?N ?sz ?_)); (case l1 => k_dflt (exact News.isList (by assumption) (by k_mem))); (case l2 => k_dflt (exact News.isList (by assumption) (by k_mem))); (case i1 => assumption); (case i2 => assumption); (case F => assumption); (case N => assumption); (case sz => (rw [row_length, PySem.sizeLine_eq]; omega)); intro D9 h9 tk9 zs9 F9 N9 l9 hi9; (try dsimp only); (try k_sweep); (try k_fold))
  k_with "call" => (
     k_here
     k_dflt (refine' number_of_spec (z := Builtin.bitAnd z y0) (sz := sz + 1) ⟨?k1, ?k2, ?k3, ?k4, ?k5, ?k6, ?k7⟩ ?la ?ia ?ea hk2 hk9 ?s1 (Nat.succ_pos _) hrg.1 hrg.2 ?_)
     (case k1 => k_asm)
     (case k2 => k_asm)
     (case k3 => k_asm)
     (case k4 => k_asm)
     (case k5 => first | exact rfl | assumption)
     (case k6 => ktr_room)
     (case k7 => ktr_units)
     (case la => is_list)
     (case ia => assumption)
     (case ea => exact isBitOp_and.row k z y0 (sz + 1) rfl rfl)
     (case s1 => omega)
     intro t9 l9 vs9 n9 m9 h9 tk9 F9 S9 hn9 hn9' ho9 ho9' hi9
     have N9 := newsT (by assumption) (by assumption) S9 hn9 hn9' ho9 ho9'
     (try dsimp only)
     (try k_sweep)
     (try k_fold))

  k_with "ends" => exact retT ret (by assumption) (by assumption) (by assumption) (by k_mem) (by k_mem) (by assumption) rfl
  k_steps

end
end Mine
namespace Mine
open PySem PySem.W PySem.Spec PySem.Calls PyProof.Rows
set_option maxRecDepth 100000
set_option maxHeartbeats 0
local macro_rules | `(tactic| walk_at "my_in") => `(tactic| ((case kA => exact rfl); (case kF => exact rfl); (case kK => first | assumption | exact rfl); (case k1 => k_asm); (case k2 => k_asm); (case k3 => k_asm); (case k5 => k_asm); (case k6 => k_is); (case k7 => k_is); (case k8 => ktr_room); (case k9 => exact BindsTo.of_eq rfl); (case c5 => decide); (case kB => exact locs rfl); (case c2 => exact rfl); (case c3 => exact rfl); (case c4 => exact rfl); (case kR => exact rfl); (case kM => (intro y; (repeat refine lk_cons' _ _ _ _ ?_); exact rfl))))
local macro_rules | `(tactic| walk_at "my_inC") => `(tactic| ((case kA => exact rfl); (case kF => exact rfl); (case kK => first | assumption | exact rfl); (case k1 => k_asm); (case k2 => k_asm); (case k3 => k_asm); (case k5 => k_asm); (case k6 => k_is); (case k7 => k_is); (case k8 => ktr_room); (case k9 => exact BindsTo.of_eq rfl); (case kB => exact rfl); (case kD => decide +kernel); (case c2 => exact rfl); (case c3 => exact rfl); (case c4 => exact rfl); (case kM => (intro L'; rfl)); (case kC => (intro L'; rfl))))
local macro_rules | `(tactic| kmk_nums) => `(tactic| first | ((with_reducible refine' kmk_all ?gi); (case gi => l_ints)) | ((with_reducible refine' kmk_upto ?gi ?gx); (case gi => l_ints); (case gx => first | with_reducible assumption | decide | omega)))
local macro_rules | `(tactic| walk_at "eval ListComp") => `(tactic| k_extra "comp")
local macro_rules | `(tactic| walk_at "call type:zip") => `(tactic| k_extra "zip")
local macro_rules | `(tactic| wrow_close) => `(tactic| k_extra "ends")
local macro_rules | `(tactic| walk_at "call ref") => `(tactic| k_extra "call")
section
variable {w : World} {p : Program} {loose : List Str} {mean : ExcName → Option Value} {mg mb : Str → Option Value} {dp un : Nat} {gd : Option (List Code)} {cn : Str} {cs : Scope} {a : Addr} {ccd : Value} {cl : List (Str × Addr)} {outer : List Env} {A₀ : Around} {base h₀ : Heap} {L : Addr} {m : Str → Option Value} {s : Shared} {Q E : Value → Shared → Prop}

theorem done3_spec {vx vmx vmt : Value} {z y0 : Int} {k n : Nat} {td tm : Addr} {tf tn tw : Tok}
    (C : Cx w p loose mean mg mb dp un cs outer A₀ base h₀ L m s 25)
    (hx : NumH s.heap vx (num (2 ^ k) z)) (hd1 : IsTup s.heap td #[.int 3 tf, .int (n : Int) tn, .ref tm]) (hd2 : IsTup s.heap tm #[vmx, vmt]) (hy : NumH s.heap vmx (num (2 ^ k) y0)) (hk2 : 2 ≤ k) (hk9 : k ≤ 9) (bx' : (limbs (2 ^ k) z.natAbs).length < 2 ^ 14) (by' : (limbs (2 ^ k) y0.natAbs).length < 2 ^ 14)
    (ret : RetN h₀ L m s Q (num (2 ^ k) (Builtin.bitAnd z y0))) :
    wpAny (model PR w) (ktrTop dp un gd cn cs L a ccd cl outer) (call (.ref 280) [.ref td, vx, .int (k : Int) tw]) Q E s := by
  k_with_none
  obtain ⟨tx, lx, wx, rfl, itx, ilx, iix⟩ := hx.open
  generalize ebx : (num (2 ^ k) z).1 = bbx at itx
  generalize enx : (num (2 ^ k) z).2 = nx at iix
  have ex : nx = limbs (2 ^ k) z.natAbs := enx.symm
  obtain ⟨ty, ly, wy, rfl, ity, ily, iiy⟩ := hy.open
  generalize eby : (num (2 ^ k) y0).1 = bby at ity
  generalize eny : (num (2 ^ k) y0).2 = ny at iiy
  have ey : ny = limbs (2 ^ k) y0.natAbs := eny.symm
  obtain ⟨B, F, X, T, hk, hd, hu⟩ := C
  refine wpAny_call ?_
  refine' enterM [(Str.ofString "deed", Value.ref td), (Str.ofString "x", Value.ref tx), (Str.ofString "w", Value.int (k : Int) tw)] [(Str.ofString "w", Value.int (k : Int) tw), (Str.ofString "x", Value.ref tx), (Str.ofString "deed", Value.ref td)] (fun y => if y = Str.ofString "w" then some (Value.int (k : Int) tw) else if y = Str.ofString "x" then some (Value.ref tx) else if y = Str.ofString "deed" then some (Value.ref td) else none) ?k1 ?k2 ?k3 ?k5 ?kA ?kF ?kK ?k6 ?k7 ?k8 ?k9 ?kB ?kR ?kM ?_ ?c2 ?c3 ?c4 ?c5
  walk_at "my_in"
  intro L' h' tk' FG' F' N' B' X' T'
  try dsimp only
  try k_fold
  refine let_A ?_
  intro ak
  k_with "execs cons" => ((with_reducible show wpAny _ _ _ _ _ (PySem.Shared.mk _ _ _ (HAdd.hAdd _ _) _)); refine repack s rfl ?_; intro tk9)
  k_with "call" => (
     k_here
     k_dflt (refine' s_and_spec (z := z) (y0 := y0) ⟨?k1, ?k2, ?k3, ?k4, ?k5, ?k6, ?k7⟩ ?hx ?hy hk2 hk9 bx' by' ?_)
     (case k1 => k_asm)
     (case k2 => k_asm)
     (case k3 => k_asm)
     (case k4 => k_asm)
     (case k5 => first | exact rfl | assumption)
     (case k6 => ktr_room)
     (case k7 => ktr_units)
     (case hx => exact NumH.keeps hx (Fr.keep (by assumption)))
     (case hy => exact NumH.keeps hy (Fr.keep (by assumption)))
     intro t9 l9 vs9 n9 m9 h9 tk9 F9 S9 hn9 hn9' ho9 ho9' hi9
     have N9 := newsT (by assumption) (by assumption) S9 hn9 hn9' ho9 ho9'
     (try dsimp only)
     (try k_sweep)
     (try k_fold))

  k_with "ends" => exact retT (RetN.toT ret) (by assumption) (by assumption) (by assumption) (by k_mem) (by k_mem) (by assumption) rfl
  k_steps

end
end Mine
namespace Mine
open PySem PySem.W PySem.Spec PySem.Calls PyProof.Rows
set_option maxRecDepth 100000
set_option maxHeartbeats 0
local macro_rules | `(tactic| walk_at "my_in") => `(tactic| ((case kA => exact rfl); (case kF => exact rfl); (case kK => first | assumption | exact rfl); (case k1 => k_asm); (case k2 => k_asm); (case k3 => k_asm); (case k5 => k_asm); (case k6 => k_is); (case k7 => k_is); (case k8 => ktr_room); (case k9 => exact BindsTo.of_eq rfl); (case c5 => decide); (case kB => exact locs rfl); (case c2 => exact rfl); (case c3 => exact rfl); (case c4 => exact rfl); (case kR => exact rfl); (case kM => (intro y; (repeat refine lk_cons' _ _ _ _ ?_); exact rfl))))
local macro_rules | `(tactic| walk_at "my_inC") => `(tactic| ((case kA => exact rfl); (case kF => exact rfl); (case kK => first | assumption | exact rfl); (case k1 => k_asm); (case k2 => k_asm); (case k3 => k_asm); (case k5 => k_asm); (case k6 => k_is); (case k7 => k_is); (case k8 => ktr_room); (case k9 => exact BindsTo.of_eq rfl); (case kB => exact rfl); (case kD => decide +kernel); (case c2 => exact rfl); (case c3 => exact rfl); (case c4 => exact rfl); (case kM => (intro L'; rfl)); (case kC => (intro L'; rfl))))
local macro_rules | `(tactic| kmk_nums) => `(tactic| first | ((with_reducible refine' kmk_all ?gi); (case gi => l_ints)) | ((with_reducible refine' kmk_upto ?gi ?gx); (case gi => l_ints); (case gx => first | with_reducible assumption | decide | omega)))
local macro_rules | `(tactic| walk_at "eval ListComp") => `(tactic| k_extra "comp")
local macro_rules | `(tactic| walk_at "call type:zip") => `(tactic| k_extra "zip")
local macro_rules | `(tactic| wrow_close) => `(tactic| k_extra "ends")
local macro_rules | `(tactic| walk_at "call ref") => `(tactic| k_extra "call")
section
variable {w : World} {p : Program} {loose : List Str} {mean : ExcName → Option Value} {mg mb : Str → Option Value} {dp un : Nat} {gd : Option (List Code)} {cn : Str} {cs : Scope} {a : Addr} {ccd : Value} {cl : List (Str × Addr)} {outer : List Env} {A₀ : Around} {base h₀ : Heap} {L : Addr} {m : Str → Option Value} {s : Shared} {Q E : Value → Shared → Prop}

theorem s_or_spec {vx vy : Value} {z y0 : Int} {k : Nat} {tw : Tok}
    (C : Cx w p loose mean mg mb dp un cs outer A₀ base h₀ L m s 15)
    (hx : NumH s.heap vx (num (2 ^ k) z)) (hy : NumH s.heap vy (num (2 ^ k) y0)) (hk2 : 2 ≤ k) (hk9 : k ≤ 9) (bx' : (limbs (2 ^ k) z.natAbs).length < 2 ^ 14) (by' : (limbs (2 ^ k) y0.natAbs).length < 2 ^ 14)
    (ret : RetT h₀ L m s Q (num (2 ^ k) (Builtin.bitOr z y0))) :
    wpAny (model PR w) (ktrTop dp un gd cn cs L a ccd cl outer) (call (.ref 129) [vx, vy, .int (k : Int) tw]) Q E s := by
  k_with_none
  obtain ⟨tx, lx, wx, rfl, itx, ilx, iix⟩ := hx.open
  generalize ebx : (num (2 ^ k) z).1 = bbx at itx
  generalize enx : (num (2 ^ k) z).2 = nx at iix
  have ex : nx = limbs (2 ^ k) z.natAbs := enx.symm
  obtain ⟨ty, ly, wy, rfl, ity, ily, iiy⟩ := hy.open
  generalize eby : (num (2 ^ k) y0).1 = bby at ity
  generalize eny : (num (2 ^ k) y0).2 = ny at iiy
  have ey : ny = limbs (2 ^ k) y0.natAbs := eny.symm
  have lx' := Nat.le_max_left (limbs (2 ^ k) z.natAbs).length (limbs (2 ^ k) y0.natAbs).length
  have ly' := Nat.le_max_right (limbs (2 ^ k) z.natAbs).length (limbs (2 ^ k) y0.natAbs).length
  generalize esz : max (limbs (2 ^ k) z.natAbs).length (limbs (2 ^ k) y0.natAbs).length = sz at lx' ly'
  have hrg := op_range isBitOp_or hk2 lx' ly'
  obtain ⟨B, F, X, T, hk, hd, hu⟩ := C
  refine wpAny_call ?_
  refine' enterM [(Str.ofString "x", Value.ref tx), (Str.ofString "y", Value.ref ty), (Str.ofString "w", Value.int (k : Int) tw)] [(Str.ofString "w", Value.int (k : Int) tw), (Str.ofString "y", Value.ref ty), (Str.ofString "x", Value.ref tx)] (fun y => if y = Str.ofString "w" then some (Value.int (k : Int) tw) else if y = Str.ofString "y" then some (Value.ref ty) else if y = Str.ofString "x" then some (Value.ref tx) else none) ?k1 ?k2 ?k3 ?k5 ?kA ?kF ?kK ?k6 ?k7 ?k8 ?k9 ?kB ?kR ?kM ?_ ?c2 ?c3 ?c4 ?c5
  walk_at "my_in"
  intro L' h' tk' FG' F' N' B' X' T'
  try dsimp only
  try k_fold
  refine let_A ?_
  intro ak
  k_with "execs cons" => ((with_reducible show wpAny _ _ _ _ _ (PySem.Shared.mk _ _ _ (HAdd.hAdd _ _) _)); refine repack s rfl ?_; intro tk9)
  k_with "call" => (
     k_here
     k_dflt (refine' joint_size_spec (z := z) (y0 := y0) ⟨?k1, ?k2, ?k3, ?k4, ?k5, ?k6, ?k7⟩ ?hx ?hy bx' by' ?_)
     (case k1 => k_asm)
     (case k2 => k_asm)
     (case k3 => k_asm)
     (case k4 => k_asm)
     (case k5 => first | exact rfl | assumption)
     (case k6 => ktr_room)
     (case k7 => ktr_units)
     (case hx => exact NumH.keeps hx (Fr.keep (by assumption)))
     (case hy => exact NumH.keeps hy (Fr.keep (by assumption)))
     rw [esz]
     intro t9 h9 tk9 F9 S9
     have N9 := newsK (by assumption) S9
     (try dsimp only)
     (try k_sweep)
     (try k_fold))

  k_with "call" => (
     k_here
     k_dflt (refine' row_of_spec (z := z) ⟨?k1, ?k2, ?k3, ?k4, ?k5, ?k6, ?k7⟩ ?hx hk2 hk9 ?hl ?hs ?_)
     (case k1 => k_asm)
     (case k2 => k_asm)
     (case k3 => k_asm)
     (case k4 => k_asm)
     (case k5 => first | exact rfl | assumption)
     (case k6 => ktr_room)
     (case k7 => ktr_units)
     (case hx => exact NumH.keeps hx (Fr.keep (by assumption)))
     (case hl => omega)
     (case hs => omega)
     intro r9 ws9 n9 h9 tk9 F9 S9 hn9 ho9 hi9
     have N9 := newsL (by assumption) (by assumption) S9 hn9 ho9
     (try dsimp only)
     (try k_sweep)
     (try k_fold))

  k_with "call" => (
     k_here
     k_dflt (refine' row_of_spec (z := y0) ⟨?k1, ?k2, ?k3, ?k4, ?k5, ?k6, ?k7⟩ ?hx hk2 hk9 ?hl ?hs ?_)
     (case k1 => k_asm)
     (case k2 => k_asm)
     (case k3 => k_asm)
     (case k4 => k_asm)
     (case k5 => first | exact rfl | assumption)
     (case k6 => ktr_room)
     (case k7 => ktr_units)
     (case hx => exact NumH.keeps hy (Fr.keep (by assumption)))
     (case hl => omega)
     (case hs => omega)
     intro r9 ws9 n9 h9 tk9 F9 S9 hn9 ho9 hi9
     have N9 := newsL (by assumption) (by assumption) S9 hn9 ho9
     (try dsimp only)
     (try k_sweep)
     (try k_fold))

  k_with "comp" => (
     k_dflt (refine' comp_zip Builtin.bitOr (row (2 ^ k) z (sz + 1)) (row (2 ^ k) y0 (sz + 1)) ?a0 ?a1 ?a2 ?a3 ?a4 ?a5 ?a6 ?a7 ?a8 ?a9 ?_)
     (case a0 => k_asm)
     (case a1 => k_dflt rfl)
     (case a2 => with_unfolding_all rfl)
     (case a3 => k_dflt decide)
     (case a4 => k_dflt rfl)
     (case a5 => k_dflt decide)
     (case a6 => k_dflt rfl)
     (case a7 => k_dflt rfl)
     (case a8 => k_dflt decide)
     (case a9 => k_dflt (exact elt_op (by rfl) (by rfl) (by rfl) (by decide) (by decide) (fun _ _ _ _ _ _ _ h => or_int h))))
  k_with "zip" => ((k_dflt (refine' zip_src ?l1 ?l2 ?i1 ?i2 ?F ?N ?sz ?_)); (case l1 => k_dflt (exact News.isList (by assumption) (by k_mem))); (case l2 => k_dflt (exact News.isList (by assumption) (by k_mem))); (case i1 => assumption); (case i2 => assumption); (case F => assumption); (case N => assumption); (case sz => (rw [row_length, PySem.sizeLine_eq]; omega)); intro D9 h9 tk9 zs9 F9 N9 l9 hi9; (try dsimp only); (try k_sweep); (try k_fold))
  k_with "call" => (
     k_here
     k_dflt (refine' number_of_spec (z := Builtin.bitOr z y0) (sz := sz + 1) ⟨?k1, ?k2, ?k3, ?k4, ?k5, ?k6, ?k7⟩ ?la ?ia ?ea hk2 hk9 ?s1 (Nat.succ_pos _) hrg.1 hrg.2 ?_)
     (case k1 => k_asm)
     (case k2 => k_asm)
     (case k3 => k_asm)
     (case k4 => k_asm)
     (case k5 => first | exact rfl | assumption)
     (case k6 => ktr_room)
     (case k7 => ktr_units)
     (case la => is_list)
     (case ia => assumption)
     (case ea => exact isBitOp_or.row k z y0 (sz + 1) rfl rfl)
     (case s1 => omega)
     intro t9 l9 vs9 n9 m9 h9 tk9 F9 S9 hn9 hn9' ho9 ho9' hi9
     have N9 := newsT (by assumption) (by assumption) S9 hn9 hn9' ho9 ho9'
     (try dsimp only)
     (try k_sweep)
     (try k_fold))

  k_with "ends" => exact retT ret (by assumption) (by assumption) (by assumption) (by k_mem) (by k_mem) (by assumption) rfl
  k_steps

end
end Mine
namespace Mine
open PySem PySem.W PySem.Spec PySem.Calls PyProof.Rows
set_option maxRecDepth 100000
set_option maxHeartbeats 0
local macro_rules | `(tactic| walk_at "my_in") => `(tactic| ((case kA => exact rfl); (case kF => exact rfl); (case kK => first | assumption | exact rfl); (case k1 => k_asm); (case k2 => k_asm); (case k3 => k_asm); (case k5 => k_asm); (case k6 => k_is); (case k7 => k_is); (case k8 => ktr_room); (case k9 => exact BindsTo.of_eq rfl); (case c5 => decide); (case kB => exact locs rfl); (case c2 => exact rfl); (case c3 => exact rfl); (case c4 => exact rfl); (case kR => exact rfl); (case kM => (intro y; (repeat refine lk_cons' _ _ _ _ ?_); exact rfl))))
local macro_rules | `(tactic| walk_at "my_inC") => `(tactic| ((case kA => exact rfl); (case kF => exact rfl); (case kK => first | assumption | exact rfl); (case k1 => k_asm); (case k2 => k_asm); (case k3 => k_asm); (case k5 => k_asm); (case k6 => k_is); (case k7 => k_is); (case k8 => ktr_room); (case k9 => exact BindsTo.of_eq rfl); (case kB => exact rfl); (case kD => decide +kernel); (case c2 => exact rfl); (case c3 => exact rfl); (case c4 => exact rfl); (case kM => (intro L'; rfl)); (case kC => (intro L'; rfl))))
local macro_rules | `(tactic| kmk_nums) => `(tactic| first | ((with_reducible refine' kmk_all ?gi); (case gi => l_ints)) | ((with_reducible refine' kmk_upto ?gi ?gx); (case gi => l_ints); (case gx => first | with_reducible assumption | decide | omega)))
local macro_rules | `(tactic| walk_at "eval ListComp") => `(tactic| k_extra "comp")
local macro_rules | `(tactic| walk_at "call type:zip") => `(tactic| k_extra "zip")
local macro_rules | `(tactic| wrow_close) => `(tactic| k_extra "ends")
local macro_rules | `(tactic| walk_at "call ref") => `(tactic| k_extra "call")
section
variable {w : World} {p : Program} {loose : List Str} {mean : ExcName → Option Value} {mg mb : Str → Option Value} {dp un : Nat} {gd : Option (List Code)} {cn : Str} {cs : Scope} {a : Addr} {ccd : Value} {cl : List (Str × Addr)} {outer : List Env} {A₀ : Around} {base h₀ : Heap} {L : Addr} {m : Str → Option Value} {s : Shared} {Q E : Value → Shared → Prop}

theorem done4_spec {vx vmx vmt : Value} {z y0 : Int} {k n : Nat} {td tm : Addr} {tf tn tw : Tok}
    (C : Cx w p loose mean mg mb dp un cs outer A₀ base h₀ L m s 25)
    (hx : NumH s.heap vx (num (2 ^ k) z)) (hd1 : IsTup s.heap td #[.int 4 tf, .int (n : Int) tn, .ref tm]) (hd2 : IsTup s.heap tm #[vmx, vmt]) (hy : NumH s.heap vmx (num (2 ^ k) y0)) (hk2 : 2 ≤ k) (hk9 : k ≤ 9) (bx' : (limbs (2 ^ k) z.natAbs).length < 2 ^ 14) (by' : (limbs (2 ^ k) y0.natAbs).length < 2 ^ 14)
    (ret : RetN h₀ L m s Q (num (2 ^ k) (Builtin.bitOr z y0))) :
    wpAny (model PR w) (ktrTop dp un gd cn cs L a ccd cl outer) (call (.ref 280) [.ref td, vx, .int (k : Int) tw]) Q E s := by
  k_with_none
  obtain ⟨tx, lx, wx, rfl, itx, ilx, iix⟩ := hx.open
  generalize ebx : (num (2 ^ k) z).1 = bbx at itx
  generalize enx : (num (2 ^ k) z).2 = nx at iix
  have ex : nx = limbs (2 ^ k) z.natAbs := enx.symm
  obtain ⟨ty, ly, wy, rfl, ity, ily, iiy⟩ := hy.open
  generalize eby : (num (2 ^ k) y0).1 = bby at ity
  generalize eny : (num (2 ^ k) y0).2 = ny at iiy
  have ey : ny = limbs (2 ^ k) y0.natAbs := eny.symm
  obtain ⟨B, F, X, T, hk, hd, hu⟩ := C
  refine wpAny_call ?_
  refine' enterM [(Str.ofString "deed", Value.ref td), (Str.ofString "x", Value.ref tx), (Str.ofString "w", Value.int (k : Int) tw)] [(Str.ofString "w", Value.int (k : Int) tw), (Str.ofString "x", Value.ref tx), (Str.ofString "deed", Value.ref td)] (fun y => if y = Str.ofString "w" then some (Value.int (k : Int) tw) else if y = Str.ofString "x" then some (Value.ref tx) else if y = Str.ofString "deed" then some (Value.ref td) else none) ?k1 ?k2 ?k3 ?k5 ?kA ?kF ?kK ?k6 ?k7 ?k8 ?k9 ?kB ?kR ?kM ?_ ?c2 ?c3 ?c4 ?c5
  walk_at "my_in"
  intro L' h' tk' FG' F' N' B' X' T'
  try dsimp only
  try k_fold
  refine let_A ?_
  intro ak
  k_with "execs cons" => ((with_reducible show wpAny _ _ _ _ _ (PySem.Shared.mk _ _ _ (HAdd.hAdd _ _) _)); refine repack s rfl ?_; intro tk9)
  k_with "call" => (
     k_here
     k_dflt (refine' s_or_spec (z := z) (y0 := y0) ⟨?k1, ?k2, ?k3, ?k4, ?k5, ?k6, ?k7⟩ ?hx ?hy hk2 hk9 bx' by' ?_)
     (case k1 => k_asm)
     (case k2 => k_asm)
     (case k3 => k_asm)
     (case k4 => k_asm)
     (case k5 => first | exact rfl | assumption)
     (case k6 => ktr_room)
     (case k7 => ktr_units)
     (case hx => exact NumH.keeps hx (Fr.keep (by assumption)))
     (case hy => exact NumH.keeps hy (Fr.keep (by assumption)))
     intro t9 l9 vs9 n9 m9 h9 tk9 F9 S9 hn9 hn9' ho9 ho9' hi9
     have N9 := newsT (by assumption) (by assumption) S9 hn9 hn9' ho9 ho9'
     (try dsimp only)
     (try k_sweep)
     (try k_fold))

  k_with "ends" => exact retT (RetN.toT ret) (by assumption) (by assumption) (by assumption) (by k_mem) (by k_mem) (by assumption) rfl
  k_steps

end
end Mine
namespace Mine
open PySem PySem.W PySem.Spec PySem.Calls PyProof.Rows
set_option maxRecDepth 100000
set_option maxHeartbeats 0
local macro_rules | `(tactic| walk_at "my_in") => `(tactic| ((case kA => exact rfl); (case kF => exact rfl); (case kK => first | assumption | exact rfl); (case k1 => k_asm); (case k2 => k_asm); (case k3 => k_asm); (case k5 => k_asm); (case k6 => k_is); (case k7 => k_is); (case k8 => ktr_room); (case k9 => exact BindsTo.of_eq rfl); (case c5 => decide); (case kB => exact locs rfl); (case c2 => exact rfl); (case c3 => exact rfl); (case c4 => exact rfl); (case kR => exact rfl); (case kM => (intro y; (repeat refine lk_cons' _ _ _ _ ?_); exact rfl))))
local macro_rules | `(tactic| walk_at "my_inC") => `(tactic| ((case kA => exact rfl); (case kF => exact rfl); (case kK => first | assumption | exact rfl); (case k1 => k_asm); (case k2 => k_asm); (case k3 => k_asm); (case k5 => k_asm); (case k6 => k_is); (case k7 => k_is); (case k8 => ktr_room); (case k9 => exact BindsTo.of_eq rfl); (case kB => exact rfl); (case kD => decide +kernel); (case c2 => exact rfl); (case c3 => exact rfl); (case c4 => exact rfl); (case kM => (intro L'; rfl)); (case kC => (intro L'; rfl))))
local macro_rules | `(tactic| kmk_nums) => `(tactic| first | ((with_reducible refine' kmk_all ?gi); (case gi => l_ints)) | ((with_reducible refine' kmk_upto ?gi ?gx); (case gi => l_ints); (case gx => first | with_reducible assumption | decide | omega)))
local macro_rules | `(tactic| walk_at "eval ListComp") => `(tactic| k_extra "comp")
local macro_rules | `(tactic| walk_at "call type:zip") => `(tactic| k_extra "zip")
local macro_rules | `(tactic| wrow_close) => `(tactic| k_extra "ends")
local macro_rules | `(tactic| walk_at "call ref") => `(tactic| k_extra "call")
section
variable {w : World} {p : Program} {loose : List Str} {mean : ExcName → Option Value} {mg mb : Str → Option Value} {dp un : Nat} {gd : Option (List Code)} {cn : Str} {cs : Scope} {a : Addr} {ccd : Value} {cl : List (Str × Addr)} {outer : List Env} {A₀ : Around} {base h₀ : Heap} {L : Addr} {m : Str → Option Value} {s : Shared} {Q E : Value → Shared → Prop}

theorem s_xor_spec {vx vy : Value} {z y0 : Int} {k : Nat} {tw : Tok}
    (C : Cx w p loose mean mg mb dp un cs outer A₀ base h₀ L m s 15)
    (hx : NumH s.heap vx (num (2 ^ k) z)) (hy : NumH s.heap vy (num (2 ^ k) y0)) (hk2 : 2 ≤ k) (hk9 : k ≤ 9) (bx' : (limbs (2 ^ k) z.natAbs).length < 2 ^ 14) (by' : (limbs (2 ^ k) y0.natAbs).length < 2 ^ 14)
    (ret : RetT h₀ L m s Q (num (2 ^ k) (Builtin.bitXor z y0))) :
    wpAny (model PR w) (ktrTop dp un gd cn cs L a ccd cl outer) (call (.ref 134) [vx, vy, .int (k : Int) tw]) Q E s := by
  k_with_none
  obtain ⟨tx, lx, wx, rfl, itx, ilx, iix⟩ := hx.open
  generalize ebx : (num (2 ^ k) z).1 = bbx at itx
  generalize enx : (num (2 ^ k) z).2 = nx at iix
  have ex : nx = limbs (2 ^ k) z.natAbs := enx.symm
  obtain ⟨ty, ly, wy, rfl, ity, ily, iiy⟩ := hy.open
  generalize eby : (num (2 ^ k) y0).1 = bby at ity
  generalize eny : (num (2 ^ k) y0).2 = ny at iiy
  have ey : ny = limbs (2 ^ k) y0.natAbs := eny.symm
  have lx' := Nat.le_max_left (limbs (2 ^ k) z.natAbs).length (limbs (2 ^ k) y0.natAbs).length
  have ly' := Nat.le_max_right (limbs (2 ^ k) z.natAbs).length (limbs (2 ^ k) y0.natAbs).length
  generalize esz : max (limbs (2 ^ k) z.natAbs).length (limbs (2 ^ k) y0.natAbs).length = sz at lx' ly'
  have hrg := op_range isBitOp_xor hk2 lx' ly'
  obtain ⟨B, F, X, T, hk, hd, hu⟩ := C
  refine wpAny_call ?_
  refine' enterM [(Str.ofString "x", Value.ref tx), (Str.ofString "y", Value.ref ty), (Str.ofString "w", Value.int (k : Int) tw)] [(Str.ofString "w", Value.int (k : Int) tw), (Str.ofString "y", Value.ref ty), (Str.ofString "x", Value.ref tx)] (fun y => if y = Str.ofString "w" then some (Value.int (k : Int) tw) else if y = Str.ofString "y" then some (Value.ref ty) else if y = Str.ofString "x" then some (Value.ref tx) else none) ?k1 ?k2 ?k3 ?k5 ?kA ?kF ?kK ?k6 ?k7 ?k8 ?k9 ?kB ?kR ?kM ?_ ?c2 ?c3 ?c4 ?c5
  walk_at "my_in"
  intro L' h' tk' FG' F' N' B' X' T'
  try dsimp only
  try k_fold
  refine let_A ?_
  intro ak
  k_with "execs cons" => ((with_reducible show wpAny _ _ _ _ _ (PySem.Shared.mk _ _ _ (HAdd.hAdd _ _) _)); refine repack s rfl ?_; intro tk9)
  k_with "call" => (
     k_here
     k_dflt (refine' joint_size_spec (z := z) (y0 := y0) ⟨?k1, ?k2, ?k3, ?k4, ?k5, ?k6, ?k7⟩ ?hx ?hy bx' by' ?_)
     (case k1 => k_asm)
     (case k2 => k_asm)
     (case k3 => k_asm)
     (case k4 => k_asm)
     (case k5 => first | exact rfl | assumption)
     (case k6 => ktr_room)
     (case k7 => ktr_units)
     (case hx => exact NumH.keeps hx (Fr.keep (by assumption)))
     (case hy => exact NumH.keeps hy (Fr.keep (by assumption)))
     rw [esz]
     intro t9 h9 tk9 F9 S9
     have N9 := newsK (by assumption) S9
     (try dsimp only)
     (try k_sweep)
     (try k_fold))

  k_with "call" => (
     k_here
     k_dflt (refine' row_of_spec (z := z) ⟨?k1, ?k2, ?k3, ?k4, ?k5, ?k6, ?k7⟩ ?hx hk2 hk9 ?hl ?hs ?_)
     (case k1 => k_asm)
     (case k2 => k_asm)
     (case k3 => k_asm)
     (case k4 => k_asm)
     (case k5 => first | exact rfl | assumption)
     (case k6 => ktr_room)
     (case k7 => ktr_units)
     (case hx => exact NumH.keeps hx (Fr.keep (by assumption)))
     (case hl => omega)
     (case hs => omega)
     intro r9 ws9 n9 h9 tk9 F9 S9 hn9 ho9 hi9
     have N9 := newsL (by assumption) (by assumption) S9 hn9 ho9
     (try dsimp only)
     (try k_sweep)
     (try k_fold))

  k_with "call" => (
     k_here
     k_dflt (refine' row_of_spec (z := y0) ⟨?k1, ?k2, ?k3, ?k4, ?k5, ?k6, ?k7⟩ ?hx hk2 hk9 ?hl ?hs ?_)
     (case k1 => k_asm)
     (case k2 => k_asm)
     (case k3 => k_asm)
     (case k4 => k_asm)
     (case k5 => first | exact rfl | assumption)
     (case k6 => ktr_room)
     (case k7 => ktr_units)
     (case hx => exact NumH.keeps hy (Fr.keep (by assumption)))
     (case hl => omega)
     (case hs => omega)
     intro r9 ws9 n9 h9 tk9 F9 S9 hn9 ho9 hi9
     have N9 := newsL (by assumption) (by assumption) S9 hn9 ho9
     (try dsimp only)
     (try k_sweep)
     (try k_fold))

  k_with "comp" => (
     k_dflt (refine' comp_zip Builtin.bitXor (row (2 ^ k) z (sz + 1)) (row (2 ^ k) y0 (sz + 1)) ?a0 ?a1 ?a2 ?a3 ?a4 ?a5 ?a6 ?a7 ?a8 ?a9 ?_)
     (case a0 => k_asm)
     (case a1 => k_dflt rfl)
     (case a2 => with_unfolding_all rfl)
     (case a3 => k_dflt decide)
     (case a4 => k_dflt rfl)
     (case a5 => k_dflt decide)
     (case a6 => k_dflt rfl)
     (case a7 => k_dflt rfl)
     (case a8 => k_dflt decide)
     (case a9 => k_dflt (exact elt_op (by rfl) (by rfl) (by rfl) (by decide) (by decide) (fun _ _ _ _ _ _ _ h => xor_int h))))
  k_with "zip" => ((k_dflt (refine' zip_src ?l1 ?l2 ?i1 ?i2 ?F ?N ?sz ?_)); (case l1 => k_dflt (exact News.isList (by assumption) (by k_mem))); (case l2 => k_dflt (exact News.isList (by assumption) (by k_mem))); (case i1 => assumption); (case i2 => assumption); (case F => assumption); (case N => assumption); (case sz => (rw [row_length, PySem.sizeLine_eq]; omega)); intro D9 h9 tk9 zs9 F9 N9 l9 hi9; (try dsimp only); (try k_sweep); (try k_fold))
  k_with "call" => (
     k_here
     k_dflt (refine' number_of_spec (z := Builtin.bitXor z y0) (sz := sz + 1) ⟨?k1, ?k2, ?k3, ?k4, ?k5, ?k6, ?k7⟩ ?la ?ia ?ea hk2 hk9 ?s1 (Nat.succ_pos _) hrg.1 hrg.2 ?_)
     (case k1 => k_asm)
     (case k2 => k_asm)
     (case k3 => k_asm)
     (case k4 => k_asm)
     (case k5 => first | exact rfl | assumption)
     (case k6 => ktr_room)
     (case k7 => ktr_units)
     (case la => is_list)
     (case ia => assumption)
     (case ea => exact isBitOp_xor.row k z y0 (sz + 1) rfl rfl)
     (case s1 => omega)
     intro t9 l9 vs9 n9 m9 h9 tk9 F9 S9 hn9 hn9' ho9 ho9' hi9
     have N9 := newsT (by assumption) (by assumption) S9 hn9 hn9' ho9 ho9'
     (try dsimp only)
     (try k_sweep)
     (try k_fold))

  k_with "ends" => exact retT ret (by assumption) (by assumption) (by assumption) (by k_mem) (by k_mem) (by assumption) rfl
  k_steps

end
end Mine
namespace Mine
open PySem PySem.W PySem.Spec PySem.Calls PyProof.Rows
set_option maxRecDepth 100000
set_option maxHeartbeats 0
local macro_rules | `(tactic| walk_at "my_in") => `(tactic| ((case kA => exact rfl); (case kF => exact rfl); (case kK => first | assumption | exact rfl); (case k1 => k_asm); (case k2 => k_asm); (case k3 => k_asm); (case k5 => k_asm); (case k6 => k_is); (case k7 => k_is); (case k8 => ktr_room); (case k9 => exact BindsTo.of_eq rfl); (case c5 => decide); (case kB => exact locs rfl); (case c2 => exact rfl); (case c3 => exact rfl); (case c4 => exact rfl); (case kR => exact rfl); (case kM => (intro y; (repeat refine lk_cons' _ _ _ _ ?_); exact rfl))))
local macro_rules | `(tactic| walk_at "my_inC") => `(tactic| ((case kA => exact rfl); (case kF => exact rfl); (case kK => first | assumption | exact rfl); (case k1 => k_asm); (case k2 => k_asm); (case k3 => k_asm); (case k5 => k_asm); (case k6 => k_is); (case k7 => k_is); (case k8 => ktr_room); (case k9 => exact BindsTo.of_eq rfl); (case kB => exact rfl); (case kD => decide +kernel); (case c2 => exact rfl); (case c3 => exact rfl); (case c4 => exact rfl); (case kM => (intro L'; rfl)); (case kC => (intro L'; rfl))))
local macro_rules | `(tactic| kmk_nums) => `(tactic| first | ((with_reducible refine' kmk_all ?gi); (case gi => l_ints)) | ((with_reducible refine' kmk_upto ?gi ?gx); (case gi => l_ints); (case gx => first | with_reducible assumption | decide | omega)))
local macro_rules | `(tactic| walk_at "eval ListComp") => `(tactic| k_extra "comp")
local macro_rules | `(tactic| walk_at "call type:zip") => `(tactic| k_extra "zip")
local macro_rules | `(tactic| wrow_close) => `(tactic| k_extra "ends")
local macro_rules | `(tactic| walk_at "call ref") => `(tactic| k_extra "call")
section
variable {w : World} {p : Program} {loose : List Str} {mean : ExcName → Option Value} {mg mb : Str → Option Value} {dp un : Nat} {gd : Option (List Code)} {cn : Str} {cs : Scope} {a : Addr} {ccd : Value} {cl : List (Str × Addr)} {outer : List Env} {A₀ : Around} {base h₀ : Heap} {L : Addr} {m : Str → Option Value} {s : Shared} {Q E : Value → Shared → Prop}

theorem done5_spec {vx vmx vmt : Value} {z y0 : Int} {k n : Nat} {td tm : Addr} {tf tn tw : Tok}
    (C : Cx w p loose mean mg mb dp un cs outer A₀ base h₀ L m s 25)
    (hx : NumH s.heap vx (num (2 ^ k) z)) (hd1 : IsTup s.heap td #[.int 5 tf, .int (n : Int) tn, .ref tm]) (hd2 : IsTup s.heap tm #[vmx, vmt]) (hy : NumH s.heap vmx (num (2 ^ k) y0)) (hk2 : 2 ≤ k) (hk9 : k ≤ 9) (bx' : (limbs (2 ^ k) z.natAbs).length < 2 ^ 14) (by' : (limbs (2 ^ k) y0.natAbs).length < 2 ^ 14)
    (ret : RetN h₀ L m s Q (num (2 ^ k) (Builtin.bitXor z y0))) :
    wpAny (model PR w) (ktrTop dp un gd cn cs L a ccd cl outer) (call (.ref 280) [.ref td, vx, .int (k : Int) tw]) Q E s := by
  k_with_none
  obtain ⟨tx, lx, wx, rfl, itx, ilx, iix⟩ := hx.open
  generalize ebx : (num (2 ^ k) z).1 = bbx at itx
  generalize enx : (num (2 ^ k) z).2 = nx at iix
  have ex : nx = limbs (2 ^ k) z.natAbs := enx.symm
  obtain ⟨ty, ly, wy, rfl, ity, ily, iiy⟩ := hy.open
  generalize eby : (num (2 ^ k) y0).1 = bby at ity
  generalize eny : (num (2 ^ k) y0).2 = ny at iiy
  have ey : ny = limbs (2 ^ k) y0.natAbs := eny.symm
  obtain ⟨B, F, X, T, hk, hd, hu⟩ := C
  refine wpAny_call ?_
  refine' enterM [(Str.ofString "deed", Value.ref td), (Str.ofString "x", Value.ref tx), (Str.ofString "w", Value.int (k : Int) tw)] [(Str.ofString "w", Value.int (k : Int) tw), (Str.ofString "x", Value.ref tx), (Str.ofString "deed", Value.ref td)] (fun y => if y = Str.ofString "w" then some (Value.int (k : Int) tw) else if y = Str.ofString "x" then some (Value.ref tx) else if y = Str.ofString "deed" then some (Value.ref td) else none) ?k1 ?k2 ?k3 ?k5 ?kA ?kF ?kK ?k6 ?k7 ?k8 ?k9 ?kB ?kR ?kM ?_ ?c2 ?c3 ?c4 ?c5
  walk_at "my_in"
  intro L' h' tk' FG' F' N' B' X' T'
  try dsimp only
  try k_fold
  refine let_A ?_
  intro ak
  k_with "execs cons" => ((with_reducible show wpAny _ _ _ _ _ (PySem.Shared.mk _ _ _ (HAdd.hAdd _ _) _)); refine repack s rfl ?_; intro tk9)
  k_with "call" => (
     k_here
     k_dflt (refine' s_xor_spec (z := z) (y0 := y0) ⟨?k1, ?k2, ?k3, ?k4, ?k5, ?k6, ?k7⟩ ?hx ?hy hk2 hk9 bx' by' ?_)
     (case k1 => k_asm)
     (case k2 => k_asm)
     (case k3 => k_asm)
     (case k4 => k_asm)
     (case k5 => first | exact rfl | assumption)
     (case k6 => ktr_room)
     (case k7 => ktr_units)
     (case hx => exact NumH.keeps hx (Fr.keep (by assumption)))
     (case hy => exact NumH.keeps hy (Fr.keep (by assumption)))
     intro t9 l9 vs9 n9 m9 h9 tk9 F9 S9 hn9 hn9' ho9 ho9' hi9
     have N9 := newsT (by assumption) (by assumption) S9 hn9 hn9' ho9 ho9'
     (try dsimp only)
     (try k_sweep)
     (try k_fold))

  k_with "ends" => exact retT (RetN.toT ret) (by assumption) (by assumption) (by assumption) (by k_mem) (by k_mem) (by assumption) rfl
  k_steps

end
end Mine
namespace Mine
open PySem PySem.W PySem.Spec PySem.Calls PyProof.Rows
set_option maxRecDepth 100000
set_option maxHeartbeats 0
local macro_rules | `(tactic| walk_at "my_in") => `(tactic| ((case kA => exact rfl); (case kF => exact rfl); (case kK => first | assumption | exact rfl); (case k1 => k_asm); (case k2 => k_asm); (case k3 => k_asm); (case k5 => k_asm); (case k6 => k_is); (case k7 => k_is); (case k8 => ktr_room); (case k9 => exact BindsTo.of_eq rfl); (case c5 => decide); (case kB => exact locs rfl); (case c2 => exact rfl); (case c3 => exact rfl); (case c4 => exact rfl); (case kR => exact rfl); (case kM => (intro y; (repeat refine lk_cons' _ _ _ _ ?_); exact rfl))))
local macro_rules | `(tactic| walk_at "my_inC") => `(tactic| ((case kA => exact rfl); (case kF => exact rfl); (case kK => first | assumption | exact rfl); (case k1 => k_asm); (case k2 => k_asm); (case k3 => k_asm); (case k5 => k_asm); (case k6 => k_is); (case k7 => k_is); (case k8 => ktr_room); (case k9 => exact BindsTo.of_eq rfl); (case kB => exact rfl); (case kD => decide +kernel); (case c2 => exact rfl); (case c3 => exact rfl); (case c4 => exact rfl); (case kM => (intro L'; rfl)); (case kC => (intro L'; rfl))))
local macro_rules | `(tactic| kmk_nums) => `(tactic| first | ((with_reducible refine' kmk_all ?gi); (case gi => l_ints)) | ((with_reducible refine' kmk_upto ?gi ?gx); (case gi => l_ints); (case gx => first | with_reducible assumption | decide | omega)))
local macro_rules | `(tactic| walk_at "eval ListComp") => `(tactic| k_extra "comp")
local macro_rules | `(tactic| walk_at "call type:zip") => `(tactic| k_extra "zip")
local macro_rules | `(tactic| wrow_close) => `(tactic| k_extra "ends")
local macro_rules | `(tactic| walk_at "call ref") => `(tactic| k_extra "call")
section
variable {w : World} {p : Program} {loose : List Str} {mean : ExcName → Option Value} {mg mb : Str → Option Value} {dp un : Nat} {gd : Option (List Code)} {cn : Str} {cs : Scope} {a : Addr} {ccd : Value} {cl : List (Str × Addr)} {outer : List Env} {A₀ : Around} {base h₀ : Heap} {L : Addr} {m : Str → Option Value} {s : Shared} {Q E : Value → Shared → Prop}

theorem s_not_spec {vx : Value} {z : Int} {k : Nat} {tw : Tok}
    (C : Cx w p loose mean mg mb dp un cs outer A₀ base h₀ L m s 10)
    (hx : NumH s.heap vx (num (2 ^ k) z)) (hk2 : 2 ≤ k) (hk9 : k ≤ 9) (bx' : (limbs (2 ^ k) z.natAbs).length < 2 ^ 14)
    (ret : RetT h₀ L m s Q (num (2 ^ k) (-z - 1))) :
    wpAny (model PR w) (ktrTop dp un gd cn cs L a ccd cl outer) (call (.ref 141) [vx, .int (k : Int) tw]) Q E s := by
  k_with_none
  obtain ⟨tx, lx, wx, rfl, itx, ilx, iix⟩ := hx.open
  generalize ebx : (num (2 ^ k) z).1 = bbx at itx
  generalize enx : (num (2 ^ k) z).2 = nx at iix
  have ex : nx = limbs (2 ^ k) z.natAbs := enx.symm
  have bnx : nx.length < 2 ^ 14 := by rw [ex]; exact bx'
  obtain ⟨B, F, X, T, hk, hd, hu⟩ := C
  refine wpAny_call ?_
  refine' enterM [(Str.ofString "x", Value.ref tx), (Str.ofString "w", Value.int (k : Int) tw)] [(Str.ofString "w", Value.int (k : Int) tw), (Str.ofString "x", Value.ref tx)] (fun y => if y = Str.ofString "w" then some (Value.int (k : Int) tw) else if y = Str.ofString "x" then some (Value.ref tx) else none) ?k1 ?k2 ?k3 ?k5 ?kA ?kF ?kK ?k6 ?k7 ?k8 ?k9 ?kB ?kR ?kM ?_ ?c2 ?c3 ?c4 ?c5
  walk_at "my_in"
  intro L' h' tk' FG' F' N' B' X' T'
  try dsimp only
  try k_fold
  refine let_A ?_
  intro ak
  k_with "execs cons" => ((with_reducible show wpAny _ _ _ _ _ (PySem.Shared.mk _ _ _ (HAdd.hAdd _ _) _)); refine repack s rfl ?_; intro tk9)
  k_with "call" => (
     k_here
     have hz := (num_fst ebx).1 (by assumption)
     k_dflt (refine' sub_spec (x := z.natAbs) (y := 1) (vb := [Value.int 1 _]) (nb := [1]) ⟨?k1, ?k2, ?k3, ?k4, ?k5, ?k6, ?k7⟩ ?la ?ia (by omega) ?lb ?ib (by decide) hk2 hk9 ex (limbs_one hk2) (by omega) (by decide) ?_)
     (case k1 => k_asm)
     (case k2 => k_asm)
     (case k3 => k_asm)
     (case k4 => k_asm)
     (case k5 => first | exact rfl | assumption)
     (case k6 => ktr_room)
     (case k7 => ktr_units)
     (case la => is_list)
     (case ia => assumption)
     (case lb => is_list)
     (case ib => exact IntsAre.cons _ _ IntsAre.nil)
     intro r9 ws9 n9 h9 tk9 F9 S9 hn9 ho9 hi9
     have N9 := newsL (by assumption) (by assumption) S9 hn9 ho9
     (try dsimp only)
     (try k_sweep)
     (try k_fold))

  k_with "call" => (
     k_here
     have hz := (num_fst ebx).2 (by assumption)
     k_dflt (refine' add_spec (x := z.natAbs) (y := 1) (vb := [Value.int 1 _]) (nb := [1]) ⟨?k1, ?k2, ?k3, ?k4, ?k5, ?k6, ?k7⟩ ?la ?ia (by omega) ?lb ?ib (by decide) hk2 hk9 ex (limbs_one hk2) (by omega) (by decide) ?_)
     (case k1 => k_asm)
     (case k2 => k_asm)
     (case k3 => k_asm)
     (case k4 => k_asm)
     (case k5 => first | exact rfl | assumption)
     (case k6 => ktr_room)
     (case k7 => ktr_units)
     (case la => is_list)
     (case ia => assumption)
     (case lb => is_list)
     (case ib => exact IntsAre.cons _ _ IntsAre.nil)
     intro r9 ws9 n9 h9 tk9 F9 S9 hn9 ho9 hi9
     have N9 := newsL (by assumption) (by assumption) S9 hn9 ho9
     (try dsimp only)
     (try k_sweep)
     (try k_fold))

  k_with "ends" => first
    | (refine' retT ret ?a1 ?a2 ?a3 ?a4 ?a5 ?a6 (num_of_pos (by have hz := (num_fst ebx).1 (by assumption); omega) (by have hz := (num_fst ebx).1 (by assumption); rw [show -z - 1 = (z.natAbs : Int) - 1 by omega])); (case a1 => assumption); (case a2 => assumption); (case a3 => assumption); (case a4 => k_mem); (case a5 => k_mem); (case a6 => assumption))
    | (refine' retT ret ?a1 ?a2 ?a3 ?a4 ?a5 ?a6 (num_of_neg (by have hz := (num_fst ebx).2 (by assumption); omega) (by have hz := (num_fst ebx).2 (by assumption); rw [show -(-z - 1) = (z.natAbs : Int) + 1 by omega])); (case a1 => assumption); (case a2 => assumption); (case a3 => assumption); (case a4 => k_mem); (case a5 => k_mem); (case a6 => assumption))
  k_steps

end
end Mine
namespace Mine
open PySem PySem.W PySem.Spec PySem.Calls PyProof.Rows
set_option maxRecDepth 100000
set_option maxHeartbeats 0
local macro_rules | `(tactic| walk_at "my_in") => `(tactic| ((case kA => exact rfl); (case kF => exact rfl); (case kK => first | assumption | exact rfl); (case k1 => k_asm); (case k2 => k_asm); (case k3 => k_asm); (case k5 => k_asm); (case k6 => k_is); (case k7 => k_is); (case k8 => ktr_room); (case k9 => exact BindsTo.of_eq rfl); (case c5 => decide); (case kB => exact locs rfl); (case c2 => exact rfl); (case c3 => exact rfl); (case c4 => exact rfl); (case kR => exact rfl); (case kM => (intro y; (repeat refine lk_cons' _ _ _ _ ?_); exact rfl))))
local macro_rules | `(tactic| walk_at "my_inC") => `(tactic| ((case kA => exact rfl); (case kF => exact rfl); (case kK => first | assumption | exact rfl); (case k1 => k_asm); (case k2 => k_asm); (case k3 => k_asm); (case k5 => k_asm); (case k6 => k_is); (case k7 => k_is); (case k8 => ktr_room); (case k9 => exact BindsTo.of_eq rfl); (case kB => exact rfl); (case kD => decide +kernel); (case c2 => exact rfl); (case c3 => exact rfl); (case c4 => exact rfl); (case kM => (intro L'; rfl)); (case kC => (intro L'; rfl))))
local macro_rules | `(tactic| kmk_nums) => `(tactic| first | ((with_reducible refine' kmk_all ?gi); (case gi => l_ints)) | ((with_reducible refine' kmk_upto ?gi ?gx); (case gi => l_ints); (case gx => first | with_reducible assumption | decide | omega)))
local macro_rules | `(tactic| walk_at "eval ListComp") => `(tactic| k_extra "comp")
local macro_rules | `(tactic| walk_at "call type:zip") => `(tactic| k_extra "zip")
local macro_rules | `(tactic| wrow_close) => `(tactic| k_extra "ends")
local macro_rules | `(tactic| walk_at "call ref") => `(tactic| k_extra "call")
section
variable {w : World} {p : Program} {loose : List Str} {mean : ExcName → Option Value} {mg mb : Str → Option Value} {dp un : Nat} {gd : Option (List Code)} {cn : Str} {cs : Scope} {a : Addr} {ccd : Value} {cl : List (Str × Addr)} {outer : List Env} {A₀ : Around} {base h₀ : Heap} {L : Addr} {m : Str → Option Value} {s : Shared} {Q E : Value → Shared → Prop}

theorem done6_spec {vx vmx vmt : Value} {z y0 : Int} {k n : Nat} {td tm : Addr} {tf tn tw : Tok}
    (C : Cx w p loose mean mg mb dp un cs outer A₀ base h₀ L m s 25)
    (hx : NumH s.heap vx (num (2 ^ k) z)) (hd1 : IsTup s.heap td #[.int 6 tf, .int (n : Int) tn, .ref tm]) (hd2 : IsTup s.heap tm #[vmx, vmt]) (hy : NumH s.heap vmx (num (2 ^ k) y0)) (hk2 : 2 ≤ k) (hk9 : k ≤ 9) (bx' : (limbs (2 ^ k) z.natAbs).length < 2 ^ 14) 
    (ret : RetN h₀ L m s Q (num (2 ^ k) (-z - 1))) :
    wpAny (model PR w) (ktrTop dp un gd cn cs L a ccd cl outer) (call (.ref 280) [.ref td, vx, .int (k : Int) tw]) Q E s := by
  k_with_none
  obtain ⟨tx, lx, wx, rfl, itx, ilx, iix⟩ := hx.open
  generalize ebx : (num (2 ^ k) z).1 = bbx at itx
  generalize enx : (num (2 ^ k) z).2 = nx at iix
  have ex : nx = limbs (2 ^ k) z.natAbs := enx.symm
  obtain ⟨ty, ly, wy, rfl, ity, ily, iiy⟩ := hy.open
  obtain ⟨B, F, X, T, hk, hd, hu⟩ := C
  refine wpAny_call ?_
  refine' enterM [(Str.ofString "deed", Value.ref td), (Str.ofString "x", Value.ref tx), (Str.ofString "w", Value.int (k : Int) tw)] [(Str.ofString "w", Value.int (k : Int) tw), (Str.ofString "x", Value.ref tx), (Str.ofString "deed", Value.ref td)] (fun y => if y = Str.ofString "w" then some (Value.int (k : Int) tw) else if y = Str.ofString "x" then some (Value.ref tx) else if y = Str.ofString "deed" then some (Value.ref td) else none) ?k1 ?k2 ?k3 ?k5 ?kA ?kF ?kK ?k6 ?k7 ?k8 ?k9 ?kB ?kR ?kM ?_ ?c2 ?c3 ?c4 ?c5
  walk_at "my_in"
  intro L' h' tk' FG' F' N' B' X' T'
  try dsimp only
  try k_fold
  refine let_A ?_
  intro ak
  k_with "execs cons" => ((with_reducible show wpAny _ _ _ _ _ (PySem.Shared.mk _ _ _ (HAdd.hAdd _ _) _)); refine repack s rfl ?_; intro tk9)
  k_with "call" => (
     k_here
     k_dflt (refine' s_not_spec (z := z) ⟨?k1, ?k2, ?k3, ?k4, ?k5, ?k6, ?k7⟩ ?hx hk2 hk9 bx' ?_)
     (case k1 => k_asm)
     (case k2 => k_asm)
     (case k3 => k_asm)
     (case k4 => k_asm)
     (case k5 => first | exact rfl | assumption)
     (case k6 => ktr_room)
     (case k7 => ktr_units)
     (case hx => exact NumH.keeps hx (Fr.keep (by assumption)))
     intro t9 l9 vs9 n9 m9 h9 tk9 F9 S9 hn9 hn9' ho9 ho9' hi9
     have N9 := newsT (by assumption) (by assumption) S9 hn9 hn9' ho9 ho9'
     (try dsimp only)
     (try k_sweep)
     (try k_fold))

  k_with "ends" => exact retT (RetN.toT ret) (by assumption) (by assumption) (by assumption) (by k_mem) (by k_mem) (by assumption) rfl
  k_steps

end
end Mine
namespace Mine
open PySem PySem.W PySem.Spec PySem.Calls PyProof.Rows
set_option maxRecDepth 100000
set_option maxHeartbeats 0
local macro_rules | `(tactic| walk_at "my_in") => `(tactic| ((case kA => exact rfl); (case kF => exact rfl); (case kK => first | assumption | exact rfl); (case k1 => k_asm); (case k2 => k_asm); (case k3 => k_asm); (case k5 => k_asm); (case k6 => k_is); (case k7 => k_is); (case k8 => ktr_room); (case k9 => exact BindsTo.of_eq rfl); (case c5 => decide); (case kB => exact locs rfl); (case c2 => exact rfl); (case c3 => exact rfl); (case c4 => exact rfl); (case kR => exact rfl); (case kM => (intro y; (repeat refine lk_cons' _ _ _ _ ?_); exact rfl))))
local macro_rules | `(tactic| walk_at "my_inC") => `(tactic| ((case kA => exact rfl); (case kF => exact rfl); (case kK => first | assumption | exact rfl); (case k1 => k_asm); (case k2 => k_asm); (case k3 => k_asm); (case k5 => k_asm); (case k6 => k_is); (case k7 => k_is); (case k8 => ktr_room); (case k9 => exact BindsTo.of_eq rfl); (case kB => exact rfl); (case kD => decide +kernel); (case c2 => exact rfl); (case c3 => exact rfl); (case c4 => exact rfl); (case kM => (intro L'; rfl)); (case kC => (intro L'; rfl))))
local macro_rules | `(tactic| kmk_nums) => `(tactic| first | ((with_reducible refine' kmk_all ?gi); (case gi => l_ints)) | ((with_reducible refine' kmk_upto ?gi ?gx); (case gi => l_ints); (case gx => first | with_reducible assumption | decide | omega)))
local macro_rules | `(tactic| walk_at "eval ListComp") => `(tactic| k_extra "comp")
local macro_rules | `(tactic| walk_at "call type:zip") => `(tactic| k_extra "zip")
local macro_rules | `(tactic| wrow_close) => `(tactic| k_extra "ends")
section
variable {w : World} {p : Program} {loose : List Str} {mean : ExcName → Option Value} {mg mb : Str → Option Value} {dp un : Nat} {gd : Option (List Code)} {cn : Str} {cs : Scope} {a : Addr} {ccd : Value} {cl : List (Str × Addr)} {outer : List Env} {A₀ : Around} {base h₀ : Heap} {L : Addr} {m : Str → Option Value} {s : Shared} {Q E : Value → Shared → Prop}

theorem signed_spec {la : Addr} {va : List Value} {na : List Int} {b : Bool}
    (C : Cx w p loose mean mg mb dp un cs outer A₀ base h₀ L m s 5)
    (ha : s.heap.IsList la va.toArray) (ia : IntsAre va na) (ba : na.length < 2 ^ 16) (ret : RetN h₀ L m s Q (b && decide (0 < (na.length : Int)), na)) :
    wpAny (model PR w) (ktrTop dp un gd cn cs L a ccd cl outer) (call (.ref 230) [.bool b, .ref la]) Q E s := by
  k_with_none
  obtain ⟨B, F, X, T, hk, hd, hu⟩ := C
  refine wpAny_call ?_
  refine' enterM [(Str.ofString "is_below", Value.bool b), (Str.ofString "nat", Value.ref la)] [(Str.ofString "nat", Value.ref la), (Str.ofString "is_below", Value.bool b)] (fun y => if y = Str.ofString "nat" then some (Value.ref la) else if y = Str.ofString "is_below" then some (Value.bool b) else none) ?k1 ?k2 ?k3 ?k5 ?kA ?kF ?kK ?k6 ?k7 ?k8 ?k9 ?kB ?kR ?kM ?_ ?c2 ?c3 ?c4 ?c5
  walk_at "my_in"
  intro L' h' tk' FG' F' N' B' X' T'
  try dsimp only
  try k_fold
  refine let_A ?_
  intro ak
  k_with "execs cons" => ((with_reducible show wpAny _ _ _ _ _ (PySem.Shared.mk _ _ _ (HAdd.hAdd _ _) _)); refine repack s rfl ?_; intro tk9)
  k_with "ends" => first
    | exact retN ret (by assumption) (by assumption) (signed_end (by assumption) (by assumption) (by k_mem) ha ia (by simp_all))
  k_steps

end
end Mine
namespace Mine
open PySem PySem.W PySem.Spec PySem.Calls PyProof.Rows
set_option maxRecDepth 100000
set_option maxHeartbeats 0
local macro_rules | `(tactic| walk_at "my_in") => `(tactic| ((case kA => exact rfl); (case kF => exact rfl); (case kK => first | assumption | exact rfl); (case k1 => k_asm); (case k2 => k_asm); (case k3 => k_asm); (case k5 => k_asm); (case k6 => k_is); (case k7 => k_is); (case k8 => ktr_room); (case k9 => exact BindsTo.of_eq rfl); (case c5 => decide); (case kB => exact locs rfl); (case c2 => exact rfl); (case c3 => exact rfl); (case c4 => exact rfl); (case kR => exact rfl); (case kM => (intro y; (repeat refine lk_cons' _ _ _ _ ?_); exact rfl))))
local macro_rules | `(tactic| walk_at "my_inC") => `(tactic| ((case kA => exact rfl); (case kF => exact rfl); (case kK => first | assumption | exact rfl); (case k1 => k_asm); (case k2 => k_asm); (case k3 => k_asm); (case k5 => k_asm); (case k6 => k_is); (case k7 => k_is); (case k8 => ktr_room); (case k9 => exact BindsTo.of_eq rfl); (case kB => exact rfl); (case kD => decide +kernel); (case c2 => exact rfl); (case c3 => exact rfl); (case c4 => exact rfl); (case kM => (intro L'; rfl)); (case kC => (intro L'; rfl))))
local macro_rules | `(tactic| kmk_nums) => `(tactic| first | ((with_reducible refine' kmk_all ?gi); (case gi => l_ints)) | ((with_reducible refine' kmk_upto ?gi ?gx); (case gi => l_ints); (case gx => first | with_reducible assumption | decide | omega)))
local macro_rules | `(tactic| walk_at "eval ListComp") => `(tactic| k_extra "comp")
local macro_rules | `(tactic| walk_at "call type:zip") => `(tactic| k_extra "zip")
local macro_rules | `(tactic| wrow_close) => `(tactic| k_extra "ends")
local macro_rules | `(tactic| walk_at "call ref") => `(tactic| k_extra "call")
section
variable {w : World} {p : Program} {loose : List Str} {mean : ExcName → Option Value} {mg mb : Str → Option Value} {dp un : Nat} {gd : Option (List Code)} {cn : Str} {cs : Scope} {a : Addr} {ccd : Value} {cl : List (Str × Addr)} {outer : List Env} {A₀ : Around} {base h₀ : Heap} {L : Addr} {m : Str → Option Value} {s : Shared} {Q E : Value → Shared → Prop}

theorem s_shift_up_spec {vx : Value} {z : Int} {k n : Nat} {tn tw : Tok}
    (C : Cx w p loose mean mg mb dp un cs outer A₀ base h₀ L m s 15)
    (hx : NumH s.heap vx (num (2 ^ k) z)) (hk2 : 2 ≤ k) (hk9 : k ≤ 9) (bx' : (limbs (2 ^ k) z.natAbs).length < 2 ^ 14) (hn : n < 2 ^ 13) (b2 : (limbs (2 ^ k) ((z.natAbs : Int) * 2 ^ n)).length < 2 ^ 14)
    (ret : RetN h₀ L m s Q (num (2 ^ k) (z * 2 ^ n))) :
    wpAny (model PR w) (ktrTop dp un gd cn cs L a ccd cl outer) (call (.ref 237) [vx, .int (n : Int) tn, .int (k : Int) tw]) Q E s := by
  k_with_none
  obtain ⟨tx, lx, wx, rfl, itx, ilx, iix⟩ := hx.open
  generalize ebx : (num (2 ^ k) z).1 = bbx at itx
  generalize enx : (num (2 ^ k) z).2 = nx at iix
  have ex : nx = limbs (2 ^ k) z.natAbs := enx.symm
  have bnx : nx.length < 2 ^ 14 := by rw [ex]; exact bx'
  generalize eln : limbs (2 ^ k) ((z.natAbs : Int) * 2 ^ n) = ln at b2
  obtain ⟨B, F, X, T, hk, hd, hu⟩ := C
  refine wpAny_call ?_
  refine' enterM [(Str.ofString "x", Value.ref tx), (Str.ofString "n", Value.int (n : Int) tn), (Str.ofString "w", Value.int (k : Int) tw)] [(Str.ofString "w", Value.int (k : Int) tw), (Str.ofString "n", Value.int (n : Int) tn), (Str.ofString "x", Value.ref tx)] (fun y => if y = Str.ofString "w" then some (Value.int (k : Int) tw) else if y = Str.ofString "n" then some (Value.int (n : Int) tn) else if y = Str.ofString "x" then some (Value.ref tx) else none) ?k1 ?k2 ?k3 ?k5 ?kA ?kF ?kK ?k6 ?k7 ?k8 ?k9 ?kB ?kR ?kM ?_ ?c2 ?c3 ?c4 ?c5
  walk_at "my_in"
  intro L' h' tk' FG' F' N' B' X' T'
  try dsimp only
  try k_fold
  refine let_A ?_
  intro ak
  k_with "execs cons" => ((with_reducible show wpAny _ _ _ _ _ (PySem.Shared.mk _ _ _ (HAdd.hAdd _ _) _)); refine repack s rfl ?_; intro tk9)
  k_with "call" => (
     k_here
     k_dflt (refine' shift_left_spec (x := z.natAbs) (n := n) ⟨?k1, ?k2, ?k3, ?k4, ?k5, ?k6, ?k7⟩ ?la ?ia (by omega) hk2 hk9 (by omega) ex (by omega) ?_)
     (case k1 => k_asm)
     (case k2 => k_asm)
     (case k3 => k_asm)
     (case k4 => k_asm)
     (case k5 => first | exact rfl | assumption)
     (case k6 => ktr_room)
     (case k7 => ktr_units)
     (case la => is_list)
     (case ia => assumption)
     rw [eln]
     intro r9 ws9 n9 h9 tk9 F9 S9 hn9 ho9 hi9
     have N9 := newsL (by assumption) (by assumption) S9 hn9 ho9
     (try dsimp only)
     (try k_sweep)
     (try k_fold))

  k_with "call" => (
     k_here
     k_dflt (refine' signed_spec (na := ln) ⟨?k1, ?k2, ?k3, ?k4, ?k5, ?k6, ?k7⟩ ?la ?ia (by omega) ?_)
     (case k1 => k_asm)
     (case k2 => k_asm)
     (case k3 => k_asm)
     (case k4 => k_asm)
     (case k5 => first | exact rfl | assumption)
     (case k6 => ktr_room)
     (case k7 => ktr_units)
     (case la => is_list)
     (case ia => assumption)
     intro r9 h9 tk9 F9 S9 D9
     have N9 := newsK (by assumption) S9
     (try dsimp only)
     (try k_sweep)
     (try k_fold))

  k_with "ends" => exact retN ret (by assumption) (by assumption) (by rw [← shift_up hk2 ebx eln.symm]; assumption)
  k_steps

end
end Mine
namespace Mine
open PySem PySem.W PySem.Spec PySem.Calls PyProof.Rows
set_option maxRecDepth 100000
set_option maxHeartbeats 0
local macro_rules | `(tactic| walk_at "my_in") => `(tactic| ((case kA => exact rfl); (case kF => exact rfl); (case kK => first | assumption | exact rfl); (case k1 => k_asm); (case k2 => k_asm); (case k3 => k_asm); (case k5 => k_asm); (case k6 => k_is); (case k7 => k_is); (case k8 => ktr_room); (case k9 => exact BindsTo.of_eq rfl); (case c5 => decide); (case kB => exact locs rfl); (case c2 => exact rfl); (case c3 => exact rfl); (case c4 => exact rfl); (case kR => exact rfl); (case kM => (intro y; (repeat refine lk_cons' _ _ _ _ ?_); exact rfl))))
local macro_rules | `(tactic| walk_at "my_inC") => `(tactic| ((case kA => exact rfl); (case kF => exact rfl); (case kK => first | assumption | exact rfl); (case k1 => k_asm); (case k2 => k_asm); (case k3 => k_asm); (case k5 => k_asm); (case k6 => k_is); (case k7 => k_is); (case k8 => ktr_room); (case k9 => exact BindsTo.of_eq rfl); (case kB => exact rfl); (case kD => decide +kernel); (case c2 => exact rfl); (case c3 => exact rfl); (case c4 => exact rfl); (case kM => (intro L'; rfl)); (case kC => (intro L'; rfl))))
local macro_rules | `(tactic| kmk_nums) => `(tactic| first | ((with_reducible refine' kmk_all ?gi); (case gi => l_ints)) | ((with_reducible refine' kmk_upto ?gi ?gx); (case gi => l_ints); (case gx => first | with_reducible assumption | decide | omega)))
local macro_rules | `(tactic| walk_at "eval ListComp") => `(tactic| k_extra "comp")
local macro_rules | `(tactic| walk_at "call type:zip") => `(tactic| k_extra "zip")
local macro_rules | `(tactic| wrow_close) => `(tactic| k_extra "ends")
local macro_rules | `(tactic| walk_at "call ref") => `(tactic| k_extra "call")
section
variable {w : World} {p : Program} {loose : List Str} {mean : ExcName → Option Value} {mg mb : Str → Option Value} {dp un : Nat} {gd : Option (List Code)} {cn : Str} {cs : Scope} {a : Addr} {ccd : Value} {cl : List (Str × Addr)} {outer : List Env} {A₀ : Around} {base h₀ : Heap} {L : Addr} {m : Str → Option Value} {s : Shared} {Q E : Value → Shared → Prop}

theorem done7_spec {vx vmx vmt : Value} {z y0 : Int} {k n : Nat} {td tm : Addr} {tf tn tw : Tok}
    (C : Cx w p loose mean mg mb dp un cs outer A₀ base h₀ L m s 25)
    (hx : NumH s.heap vx (num (2 ^ k) z)) (hd1 : IsTup s.heap td #[.int 7 tf, .int (n : Int) tn, .ref tm]) (hd2 : IsTup s.heap tm #[vmx, vmt]) (hy : NumH s.heap vmx (num (2 ^ k) y0)) (hk2 : 2 ≤ k) (hk9 : k ≤ 9) (bx' : (limbs (2 ^ k) z.natAbs).length < 2 ^ 14) (hn : n < 2 ^ 13) (b2 : (limbs (2 ^ k) ((z.natAbs : Int) * 2 ^ n)).length < 2 ^ 14)
    (ret : RetN h₀ L m s Q (num (2 ^ k) (z * 2 ^ n))) :
    wpAny (model PR w) (ktrTop dp un gd cn cs L a ccd cl outer) (call (.ref 280) [.ref td, vx, .int (k : Int) tw]) Q E s := by
  k_with_none
  obtain ⟨tx, lx, wx, rfl, itx, ilx, iix⟩ := hx.open
  generalize ebx : (num (2 ^ k) z).1 = bbx at itx
  generalize enx : (num (2 ^ k) z).2 = nx at iix
  have ex : nx = limbs (2 ^ k) z.natAbs := enx.symm
  obtain ⟨ty, ly, wy, rfl, ity, ily, iiy⟩ := hy.open
  obtain ⟨B, F, X, T, hk, hd, hu⟩ := C
  refine wpAny_call ?_
  refine' enterM [(Str.ofString "deed", Value.ref td), (Str.ofString "x", Value.ref tx), (Str.ofString "w", Value.int (k : Int) tw)] [(Str.ofString "w", Value.int (k : Int) tw), (Str.ofString "x", Value.ref tx), (Str.ofString "deed", Value.ref td)] (fun y => if y = Str.ofString "w" then some (Value.int (k : Int) tw) else if y = Str.ofString "x" then some (Value.ref tx) else if y = Str.ofString "deed" then some (Value.ref td) else none) ?k1 ?k2 ?k3 ?k5 ?kA ?kF ?kK ?k6 ?k7 ?k8 ?k9 ?kB ?kR ?kM ?_ ?c2 ?c3 ?c4 ?c5
  walk_at "my_in"
  intro L' h' tk' FG' F' N' B' X' T'
  try dsimp only
  try k_fold
  refine let_A ?_
  intro ak
  k_with "execs cons" => ((with_reducible show wpAny _ _ _ _ _ (PySem.Shared.mk _ _ _ (HAdd.hAdd _ _) _)); refine repack s rfl ?_; intro tk9)
  k_with "call" => (
     k_here
     k_dflt (refine' s_shift_up_spec (z := z) (n := n) ⟨?k1, ?k2, ?k3, ?k4, ?k5, ?k6, ?k7⟩ ?hx hk2 hk9 bx' hn b2 ?_)
     (case k1 => k_asm)
     (case k2 => k_asm)
     (case k3 => k_asm)
     (case k4 => k_asm)
     (case k5 => first | exact rfl | assumption)
     (case k6 => ktr_room)
     (case k7 => ktr_units)
     (case hx => exact NumH.keeps hx (Fr.keep (by assumption)))
     intro r9 h9 tk9 F9 S9 D9
     have N9 := newsK (by assumption) S9
     (try dsimp only)
     (try k_sweep)
     (try k_fold))

  k_with "ends" => exact retN ret (by assumption) (by assumption) (by assumption)
  k_steps

end
end Mine
namespace Mine
open PySem PySem.W PySem.Spec PySem.Calls PyProof.Rows
set_option maxRecDepth 100000
set_option maxHeartbeats 0
local macro_rules | `(tactic| walk_at "my_in") => `(tactic| ((case kA => exact rfl); (case kF => exact rfl); (case kK => first | assumption | exact rfl); (case k1 => k_asm); (case k2 => k_asm); (case k3 => k_asm); (case k5 => k_asm); (case k6 => k_is); (case k7 => k_is); (case k8 => ktr_room); (case k9 => exact BindsTo.of_eq rfl); (case c5 => decide); (case kB => exact locs rfl); (case c2 => exact rfl); (case c3 => exact rfl); (case c4 => exact rfl); (case kR => exact rfl); (case kM => (intro y; (repeat refine lk_cons' _ _ _ _ ?_); exact rfl))))
local macro_rules | `(tactic| walk_at "my_inC") => `(tactic| ((case kA => exact rfl); (case kF => exact rfl); (case kK => first | assumption | exact rfl); (case k1 => k_asm); (case k2 => k_asm); (case k3 => k_asm); (case k5 => k_asm); (case k6 => k_is); (case k7 => k_is); (case k8 => ktr_room); (case k9 => exact BindsTo.of_eq rfl); (case kB => exact rfl); (case kD => decide +kernel); (case c2 => exact rfl); (case c3 => exact rfl); (case c4 => exact rfl); (case kM => (intro L'; rfl)); (case kC => (intro L'; rfl))))
local macro_rules | `(tactic| kmk_nums) => `(tactic| first | ((with_reducible refine' kmk_all ?gi); (case gi => l_ints)) | ((with_reducible refine' kmk_upto ?gi ?gx); (case gi => l_ints); (case gx => first | with_reducible assumption | decide | omega)))
local macro_rules | `(tactic| walk_at "eval ListComp") => `(tactic| k_extra "comp")
local macro_rules | `(tactic| walk_at "call type:zip") => `(tactic| k_extra "zip")
local macro_rules | `(tactic| wrow_close) => `(tactic| k_extra "ends")
local macro_rules | `(tactic| walk_at "call ref") => `(tactic| k_extra "call")
section
variable {w : World} {p : Program} {loose : List Str} {mean : ExcName → Option Value} {mg mb : Str → Option Value} {dp un : Nat} {gd : Option (List Code)} {cn : Str} {cs : Scope} {a : Addr} {ccd : Value} {cl : List (Str × Addr)} {outer : List Env} {A₀ : Around} {base h₀ : Heap} {L : Addr} {m : Str → Option Value} {s : Shared} {Q E : Value → Shared → Prop}

theorem shift_right_spec {la : Addr} {va : List Value} {na : List Int} {k n : Nat} {tn tw : Tok} {x : Int}
    (C : Cx w p loose mean mg mb dp un cs outer A₀ base h₀ L m s 7)
    (ha : s.heap.IsList la va.toArray) (ia : IntsAre va na) (ba : na.length < 2 ^ 16)
    (hk2 : 2 ≤ k) (hk9 : k ≤ 9) (hn : n < 2 ^ 16) (ea : na = limbs (2 ^ k) x) (h0x : 0 ≤ x)
    (ret : RetL h₀ L m s Q (limbs (2 ^ k) (x / 2 ^ n))) :
    wpAny (model PR w) (ktrTop dp un gd cn cs L a ccd cl outer) (call (.ref 88) [.ref la, .int (n : Int) tn, .int (k : Int) tw]) Q E s := by
  k_with_none
  have hfd : 0 ≤ (n : Int).fdiv (k : Int) := by rw [fdiv_nat]; exact Int.natCast_nonneg _
  have hfn : (n : Int).fdiv (k : Int) ≤ n := by rw [fdiv_nat]; exact Int.ofNat_le.mpr (Nat.div_le_self _ _)
  have hfm : 0 ≤ (n : Int).fmod (k : Int) := by rw [fmod_nat]; exact Int.natCast_nonneg _
  have hfl : (n : Int).fmod (k : Int) < k := by rw [fmod_nat]; exact Int.ofNat_lt.mpr (Nat.mod_lt _ (by omega))
  have hsm : ∀ y ∈ na, y.natAbs < 2 ^ 64 := fun y hy => limbs_mem_small hk2 hk9 h0x (ea ▸ hy)
  have hsg : ∀ i, (na.getD i 0).natAbs < 2 ^ 64 := fun i => by rw [ea]; exact limbs_small hk2 hk9 h0x i
  have er := rangeKs_length ((n : Int).fdiv (k : Int)) ((na.length : Int) - (n : Int).fdiv (k : Int)).toNat
  obtain ⟨B, F, X, T, hk, hd, hu⟩ := C
  refine wpAny_call ?_
  refine' enterM [(Str.ofString "a", Value.ref la), (Str.ofString "n", Value.int (n : Int) tn), (Str.ofString "w", Value.int (k : Int) tw)] [(Str.ofString "w", Value.int (k : Int) tw), (Str.ofString "n", Value.int (n : Int) tn), (Str.ofString "a", Value.ref la)] (fun y => if y = Str.ofString "w" then some (Value.int (k : Int) tw) else if y = Str.ofString "n" then some (Value.int (n : Int) tn) else if y = Str.ofString "a" then some (Value.ref la) else none) ?k1 ?k2 ?k3 ?k5 ?kA ?kF ?kK ?k6 ?k7 ?k8 ?k9 ?kB ?kR ?kM ?_ ?c2 ?c3 ?c4 ?c5
  walk_at "my_in"
  intro L' h' tk' FG' F' N' B' X' T'
  try dsimp only
  try k_fold
  refine let_A ?_
  intro ak
  k_with "execs cons" => ((with_reducible show wpAny _ _ _ _ _ (PySem.Shared.mk _ _ _ (HAdd.hAdd _ _) _)); refine repack s rfl ?_; intro tk9)
  k_with "binaryOp LShift int int" => (refine' lshift_int_small ?a1 ?a2 ?a3 ?_; (case a1 => omega); (case a2 => omega); (case a3 => first | decide | exact hsm _ (by assumption) | exact hsg _); k_whole)
  k_with "pyIter ref" => k_state (fun pre found => found.length = pre.length ∧ (found.length : Int) ≤ na.length ∧ found = row (2 ^ k) (x / 2 ^ n) found.length) "found"
  k_with "state" => first
    | exact ⟨rfl, by simp <;> omega, rfl⟩
    | (refine ⟨by (simp only [List.length_append, List.length_cons, List.length_nil]; omega), by (simp only [List.length_append, List.length_cons, List.length_nil]; omega), ?_⟩
       first
       | (with_reducible refine shr_turn1 hk2 ea h0x ?_ ?_ <;> first | assumption | omega)
       | (with_reducible refine shr_turn0 hk2 ea h0x ?_ ?_ ?_ <;> first | assumption | omega))
  k_with "call" => (
     k_here
     k_dflt (refine' normal_spec (W := 2 ^ k) (x := x / 2 ^ n) ⟨?k1, ?k2, ?k3, ?k4, ?k5, ?k6, ?k7⟩ ?hl ?hi ?h4 (two_pow_le hk2) ?hr ?h0 ?hx ?_)
     (case k1 => k_asm)
     (case k2 => k_asm)
     (case k3 => k_asm)
     (case k4 => k_asm)
     (case k5 => first | exact rfl | assumption)
     (case k6 => ktr_room)
     (case k7 => ktr_units)
     (case hl => is_list)
     (case hi => assumption)
     (case h4 => omega)
     (case hr => assumption)
     (case h0 => exact Int.ediv_nonneg h0x (Int.le_of_lt (kbt_pos n)))
     (case hx => exact (shr_lt hk2 ea h0x (by rw [fdiv_nat] at *; generalize n / k = q at *; omega)).2)
     intro r9 ws9 n9 h9 tk9 F9 S9 hn9 ho9 hi9
     have N9 := newsL (by assumption) (by assumption) S9 hn9 ho9
     (try dsimp only)
     (try k_sweep)
     (try k_fold))

  k_with "ends" => first
  | exact retL ret (by assumption) (by assumption) (by assumption) (by k_mem) (by assumption) rfl
  k_steps

end
end Mine
namespace Mine
open PySem PySem.W PySem.Spec PySem.Calls PyProof.Rows
set_option maxRecDepth 100000
set_option maxHeartbeats 0
local macro_rules | `(tactic| walk_at "my_in") => `(tactic| ((case kA => exact rfl); (case kF => exact rfl); (case kK => first | assumption | exact rfl); (case k1 => k_asm); (case k2 => k_asm); (case k3 => k_asm); (case k5 => k_asm); (case k6 => k_is); (case k7 => k_is); (case k8 => ktr_room); (case k9 => exact BindsTo.of_eq rfl); (case c5 => decide); (case kB => exact locs rfl); (case c2 => exact rfl); (case c3 => exact rfl); (case c4 => exact rfl); (case kR => exact rfl); (case kM => (intro y; (repeat refine lk_cons' _ _ _ _ ?_); exact rfl))))
local macro_rules | `(tactic| walk_at "my_inC") => `(tactic| ((case kA => exact rfl); (case kF => exact rfl); (case kK => first | assumption | exact rfl); (case k1 => k_asm); (case k2 => k_asm); (case k3 => k_asm); (case k5 => k_asm); (case k6 => k_is); (case k7 => k_is); (case k8 => ktr_room); (case k9 => exact BindsTo.of_eq rfl); (case kB => exact rfl); (case kD => decide +kernel); (case c2 => exact rfl); (case c3 => exact rfl); (case c4 => exact rfl); (case kM => (intro L'; rfl)); (case kC => (intro L'; rfl))))
local macro_rules | `(tactic| kmk_nums) => `(tactic| first | ((with_reducible refine' kmk_all ?gi); (case gi => l_ints)) | ((with_reducible refine' kmk_upto ?gi ?gx); (case gi => l_ints); (case gx => first | with_reducible assumption | decide | omega)))
local macro_rules | `(tactic| walk_at "eval ListComp") => `(tactic| k_extra "comp")
local macro_rules | `(tactic| walk_at "call type:zip") => `(tactic| k_extra "zip")
local macro_rules | `(tactic| wrow_close) => `(tactic| k_extra "ends")
local macro_rules | `(tactic| walk_at "call ref") => `(tactic| k_extra "call")
section
variable {w : World} {p : Program} {loose : List Str} {mean : ExcName → Option Value} {mg mb : Str → Option Value} {dp un : Nat} {gd : Option (List Code)} {cn : Str} {cs : Scope} {a : Addr} {ccd : Value} {cl : List (Str × Addr)} {outer : List Env} {A₀ : Around} {base h₀ : Heap} {L : Addr} {m : Str → Option Value} {s : Shared} {Q E : Value → Shared → Prop}

theorem low_spec {la : Addr} {va : List Value} {na : List Int} {k n : Nat} {tn tw : Tok} {x : Int}
    (C : Cx w p loose mean mg mb dp un cs outer A₀ base h₀ L m s 7)
    (ha : s.heap.IsList la va.toArray) (ia : IntsAre va na) (ba : na.length < 2 ^ 16)
    (hk2 : 2 ≤ k) (hk9 : k ≤ 9) (hn : n < 2 ^ 16) (ea : na = limbs (2 ^ k) x) (h0x : 0 ≤ x)
    (ret : RetL h₀ L m s Q (limbs (2 ^ k) (x % 2 ^ n))) :
    wpAny (model PR w) (ktrTop dp un gd cn cs L a ccd cl outer) (call (.ref 102) [.ref la, .int (n : Int) tn, .int (k : Int) tw]) Q E s := by
  k_with_none
  have hfd : 0 ≤ (n : Int).fdiv (k : Int) := by rw [fdiv_nat]; exact Int.natCast_nonneg _
  have hfn : (n : Int).fdiv (k : Int) ≤ n := by rw [fdiv_nat]; exact Int.ofNat_le.mpr (Nat.div_le_self _ _)
  have hfm : 0 ≤ (n : Int).fmod (k : Int) := by rw [fmod_nat]; exact Int.natCast_nonneg _
  have hfl : (n : Int).fmod (k : Int) < k := by rw [fmod_nat]; exact Int.ofNat_lt.mpr (Nat.mod_lt _ (by omega))
  obtain ⟨B, F, X, T, hk, hd, hu⟩ := C
  refine wpAny_call ?_
  refine' enterM [(Str.ofString "a", Value.ref la), (Str.ofString "n", Value.int (n : Int) tn), (Str.ofString "w", Value.int (k : Int) tw)] [(Str.ofString "w", Value.int (k : Int) tw), (Str.ofString "n", Value.int (n : Int) tn), (Str.ofString "a", Value.ref la)] (fun y => if y = Str.ofString "w" then some (Value.int (k : Int) tw) else if y = Str.ofString "n" then some (Value.int (n : Int) tn) else if y = Str.ofString "a" then some (Value.ref la) else none) ?k1 ?k2 ?k3 ?k5 ?kA ?kF ?kK ?k6 ?k7 ?k8 ?k9 ?kB ?kR ?kM ?_ ?c2 ?c3 ?c4 ?c5
  walk_at "my_in"
  intro L' h' tk' FG' F' N' B' X' T'
  try dsimp only
  try k_fold
  refine let_A ?_
  intro ak
  k_with "execs cons" => ((with_reducible show wpAny _ _ _ _ _ (PySem.Shared.mk _ _ _ (HAdd.hAdd _ _) _)); refine repack s rfl ?_; intro tk9)
  k_with "call" => (
     k_here
     have lr := low_row hk2 ea h0x (by assumption)
     k_dflt (refine' normal_spec (W := 2 ^ k) (x := x % 2 ^ n) ⟨?k1, ?k2, ?k3, ?k4, ?k5, ?k6, ?k7⟩ ?hl ?hi ?h4 (two_pow_le hk2) ?hr (Int.emod_nonneg _ (by have := kbt_pos n; omega)) ?hx ?_)
     (case k1 => k_asm)
     (case k2 => k_asm)
     (case k3 => k_asm)
     (case k4 => k_asm)
     (case k5 => first | exact rfl | assumption)
     (case k6 => ktr_room)
     (case k7 => ktr_units)
     (case hl => is_list)
     (case hi => assumption)
     (case h4 => (simp only [List.length_append, List.length_cons, List.length_nil]; omega))
     (case hr => rw [lr.1, row_length])
     (case hx => rw [lr.1, row_length]; exact lr.2)
     intro r9 ws9 n9 h9 tk9 F9 S9 hn9 ho9 hi9
     have N9 := newsL (by assumption) (by assumption) S9 hn9 ho9
     (try dsimp only)
     (try k_sweep)
     (try k_fold))
  k_steps
  · exact retL ret (by assumption) (by assumption) (by assumption) (by k_mem) (by assumption) (low_all hk2 ea h0x (by assumption))
  · exact retL ret (by assumption) (by assumption) (by assumption) (by k_mem) (by assumption) rfl

end
end Mine
namespace Mine
open PySem PySem.W PySem.Spec PySem.Calls PyProof.Rows
set_option maxRecDepth 100000
set_option maxHeartbeats 0
local macro_rules | `(tactic| walk_at "my_in") => `(tactic| ((case kA => exact rfl); (case kF => exact rfl); (case kK => first | assumption | exact rfl); (case k1 => k_asm); (case k2 => k_asm); (case k3 => k_asm); (case k5 => k_asm); (case k6 => k_is); (case k7 => k_is); (case k8 => ktr_room); (case k9 => exact BindsTo.of_eq rfl); (case c5 => decide); (case kB => exact locs rfl); (case c2 => exact rfl); (case c3 => exact rfl); (case c4 => exact rfl); (case kR => exact rfl); (case kM => (intro y; (repeat refine lk_cons' _ _ _ _ ?_); exact rfl))))
local macro_rules | `(tactic| walk_at "my_inC") => `(tactic| ((case kA => exact rfl); (case kF => exact rfl); (case kK => first | assumption | exact rfl); (case k1 => k_asm); (case k2 => k_asm); (case k3 => k_asm); (case k5 => k_asm); (case k6 => k_is); (case k7 => k_is); (case k8 => ktr_room); (case k9 => exact BindsTo.of_eq rfl); (case kB => exact rfl); (case kD => decide +kernel); (case c2 => exact rfl); (case c3 => exact rfl); (case c4 => exact rfl); (case kM => (intro L'; rfl)); (case kC => (intro L'; rfl))))
local macro_rules | `(tactic| kmk_nums) => `(tactic| first | ((with_reducible refine' kmk_all ?gi); (case gi => l_ints)) | ((with_reducible refine' kmk_upto ?gi ?gx); (case gi => l_ints); (case gx => first | with_reducible assumption | decide | omega)))
local macro_rules | `(tactic| walk_at "eval ListComp") => `(tactic| k_extra "comp")
local macro_rules | `(tactic| walk_at "call type:zip") => `(tactic| k_extra "zip")
local macro_rules | `(tactic| wrow_close) => `(tactic| k_extra "ends")
section
variable {w : World} {p : Program} {loose : List Str} {mean : ExcName → Option Value} {mg mb : Str → Option Value} {dp un : Nat} {gd : Option (List Code)} {cn : Str} {cs : Scope} {a : Addr} {ccd : Value} {cl : List (Str × Addr)} {outer : List Env} {A₀ : Around} {base h₀ : Heap} {L : Addr} {m : Str → Option Value} {s : Shared} {Q E : Value → Shared → Prop}

theorem add_limb_spec {la : Addr} {va : List Value} {na : List Int} {k : Nat} {t1 tw : Tok} {x : Int}
    (C : Cx w p loose mean mg mb dp un cs outer A₀ base h₀ L m s 5)
    (ha : s.heap.IsList la va.toArray) (ia : IntsAre va na) (ba : na.length < 2 ^ 16)
    (hk2 : 2 ≤ k) (hk9 : k ≤ 9) (ea : na = limbs (2 ^ k) x) (h0x : 0 ≤ x)
    (ret : RetL h₀ L m s Q (limbs (2 ^ k) (x + 1))) :
    wpAny (model PR w) (ktrTop dp un gd cn cs L a ccd cl outer) (call (.ref 74) [.ref la, .int 1 t1, .int (k : Int) tw]) Q E s := by
  k_with_none
  obtain ⟨B, F, X, T, hk, hd, hu⟩ := C
  refine wpAny_call ?_
  refine' enterM [(Str.ofString "a", Value.ref la), (Str.ofString "limb", Value.int 1 t1), (Str.ofString "w", Value.int (k : Int) tw)] [(Str.ofString "w", Value.int (k : Int) tw), (Str.ofString "limb", Value.int 1 t1), (Str.ofString "a", Value.ref la)] (fun y => if y = Str.ofString "w" then some (Value.int (k : Int) tw) else if y = Str.ofString "limb" then some (Value.int 1 t1) else if y = Str.ofString "a" then some (Value.ref la) else none) ?k1 ?k2 ?k3 ?k5 ?kA ?kF ?kK ?k6 ?k7 ?k8 ?k9 ?kB ?kR ?kM ?_ ?c2 ?c3 ?c4 ?c5
  walk_at "my_in"
  intro L' h' tk' FG' F' N' B' X' T'
  try dsimp only
  try k_fold
  refine let_A ?_
  intro ak
  k_with "execs cons" => ((with_reducible show wpAny _ _ _ _ _ (PySem.Shared.mk _ _ _ (HAdd.hAdd _ _) _)); refine repack s rfl ?_; intro tk9)
  k_with "pyIter ref" => k_state (fun pre limb found => found.length = pre.length ∧ (found.length : Int) ≤ na.length ∧ found = row (2 ^ k) (x + 1) found.length ∧ limb = (x % (2 ^ k) ^ found.length + 1) / (2 ^ k) ^ found.length) "limb" "found"
  k_with "state" => first
    | exact ⟨rfl, by simp <;> omega, rfl, by simp⟩
    | (refine ⟨by (simp only [List.length_append, List.length_cons, List.length_nil]; omega), by (simp only [List.length_append, List.length_cons, List.length_nil]; omega), ?_⟩
       exact inc_turn hk2 ea h0x (by assumption) (by assumption) (by assumption) (by assumption))
  k_with "ends" => first
    | exact retL ret (by assumption) (by assumption) (by assumption) (by k_mem) (by assumption) ((inc_end hk2 ea h0x (by assumption) (by assumption) (by assumption)).2 (by assumption))
    | (refine retL ret (by assumption) (by assumption) (by assumption) (n_push (by k_mem)) ?_ ((inc_end hk2 ea h0x (by assumption) (by assumption) (by assumption)).1 (by assumption)); exact ints_snoc (by assumption))
  k_steps

end
end Mine
namespace Mine
open PySem PySem.W PySem.Spec PySem.Calls PyProof.Rows
set_option maxRecDepth 100000
set_option maxHeartbeats 0
local macro_rules | `(tactic| walk_at "my_in") => `(tactic| ((case kA => exact rfl); (case kF => exact rfl); (case kK => first | assumption | exact rfl); (case k1 => k_asm); (case k2 => k_asm); (case k3 => k_asm); (case k5 => k_asm); (case k6 => k_is); (case k7 => k_is); (case k8 => ktr_room); (case k9 => exact BindsTo.of_eq rfl); (case c5 => decide); (case kB => exact locs rfl); (case c2 => exact rfl); (case c3 => exact rfl); (case c4 => exact rfl); (case kR => exact rfl); (case kM => (intro y; (repeat refine lk_cons' _ _ _ _ ?_); exact rfl))))
local macro_rules | `(tactic| walk_at "my_inC") => `(tactic| ((case kA => exact rfl); (case kF => exact rfl); (case kK => first | assumption | exact rfl); (case k1 => k_asm); (case k2 => k_asm); (case k3 => k_asm); (case k5 => k_asm); (case k6 => k_is); (case k7 => k_is); (case k8 => ktr_room); (case k9 => exact BindsTo.of_eq rfl); (case kB => exact rfl); (case kD => decide +kernel); (case c2 => exact rfl); (case c3 => exact rfl); (case c4 => exact rfl); (case kM => (intro L'; rfl)); (case kC => (intro L'; rfl))))
local macro_rules | `(tactic| kmk_nums) => `(tactic| first | ((with_reducible refine' kmk_all ?gi); (case gi => l_ints)) | ((with_reducible refine' kmk_upto ?gi ?gx); (case gi => l_ints); (case gx => first | with_reducible assumption | decide | omega)))
local macro_rules | `(tactic| walk_at "eval ListComp") => `(tactic| k_extra "comp")
local macro_rules | `(tactic| walk_at "call type:zip") => `(tactic| k_extra "zip")
local macro_rules | `(tactic| wrow_close) => `(tactic| k_extra "ends")
local macro_rules | `(tactic| walk_at "call ref") => `(tactic| k_extra "call")
section
variable {w : World} {p : Program} {loose : List Str} {mean : ExcName → Option Value} {mg mb : Str → Option Value} {dp un : Nat} {gd : Option (List Code)} {cn : Str} {cs : Scope} {a : Addr} {ccd : Value} {cl : List (Str × Addr)} {outer : List Env} {A₀ : Around} {base h₀ : Heap} {L : Addr} {m : Str → Option Value} {s : Shared} {Q E : Value → Shared → Prop}

theorem s_shift_dn_spec {vx : Value} {z : Int} {k n : Nat} {i : Int} {tn tw : Tok}
    (C : Cx w p loose mean mg mb dp un cs outer A₀ base h₀ L m s 15)
    (hx : NumH s.heap vx (num (2 ^ k) z)) (hk2 : 2 ≤ k) (hk9 : k ≤ 9) (bx' : (limbs (2 ^ k) z.natAbs).length < 2 ^ 14) (hn : n < 2 ^ 13) (hi : i = -(n : Int)) (hn1 : 0 < n)
    (ret : RetN h₀ L m s Q (num (2 ^ k) (z / 2 ^ n))) :
    wpAny (model PR w) (ktrTop dp un gd cn cs L a ccd cl outer) (call (.ref 237) [vx, .int i tn, .int (k : Int) tw]) Q E s := by
  k_with_none
  obtain ⟨tx, lx, wx, rfl, itx, ilx, iix⟩ := hx.open
  generalize ebx : (num (2 ^ k) z).1 = bbx at itx
  generalize enx : (num (2 ^ k) z).2 = nx at iix
  have ex : nx = limbs (2 ^ k) z.natAbs := enx.symm
  have bnx : nx.length < 2 ^ 14 := by rw [ex]; exact bx'
  have hp2 := kbt_pos n
  have x0 : (0 : Int) ≤ (z.natAbs : Int) := by omega
  have eni : -i = (n : Int) := by omega
  have d0 : 0 ≤ (z.natAbs : Int) / 2 ^ n := Int.ediv_nonneg x0 (Int.le_of_lt hp2)
  have d1 : (limbs (2 ^ k) ((z.natAbs : Int) / 2 ^ n)).length < 2 ^ 14 := Nat.lt_of_le_of_lt (limbs_len_le (two_pow_le hk2) d0 (n := (limbs (2 ^ k) z.natAbs).length) (Int.lt_of_le_of_lt (Int.ediv_le_self _ x0) (limbs_is (two_pow_le hk2) x0).lt)) bx'
  have d2 : (limbs (2 ^ k) ((z.natAbs : Int) / 2 ^ n + 1)).length < 2 ^ 15 := Nat.lt_of_le_of_lt (limbs_len_le (two_pow_le hk2) (by omega) (n := (limbs (2 ^ k) z.natAbs).length + 1) (by have h1 := (limbs_is (two_pow_le hk2) x0).lt; have h2 := Int.ediv_le_self (2 ^ n) x0; have h3 := two_pow_le hk2; have h4 := powPos h3 (limbs (2 ^ k) z.natAbs).length; have h5 := Int.mul_le_mul_of_nonneg_left h3 (Int.le_of_lt h4); rw [Int.pow_succ]; omega)) (by omega)
  have d3 : (limbs (2 ^ k) ((z.natAbs : Int) % 2 ^ n)).length < 2 ^ 14 := Nat.lt_of_le_of_lt (limbs_len_le (two_pow_le hk2) (Int.emod_nonneg _ (by omega)) (n := (limbs (2 ^ k) z.natAbs).length) (Int.lt_of_le_of_lt (emod_le_self x0 hp2) (limbs_is (two_pow_le hk2) x0).lt)) bx'
  have low1 := low_some (k := k) (n := n) (x := (z.natAbs : Int)) hk2
  have low0 := low_none (k := k) (n := n) (x := (z.natAbs : Int)) hk2
  generalize elq : limbs (2 ^ k) ((z.natAbs : Int) / 2 ^ n) = lq at d1
  generalize elr : limbs (2 ^ k) ((z.natAbs : Int) / 2 ^ n + 1) = lr at d2
  generalize elo : limbs (2 ^ k) ((z.natAbs : Int) % 2 ^ n) = lo at d3 low1 low0
  obtain ⟨B, F, X, T, hk, hd, hu⟩ := C
  refine wpAny_call ?_
  refine' enterM [(Str.ofString "x", Value.ref tx), (Str.ofString "n", Value.int i tn), (Str.ofString "w", Value.int (k : Int) tw)] [(Str.ofString "w", Value.int (k : Int) tw), (Str.ofString "n", Value.int i tn), (Str.ofString "x", Value.ref tx)] (fun y => if y = Str.ofString "w" then some (Value.int (k : Int) tw) else if y = Str.ofString "n" then some (Value.int i tn) else if y = Str.ofString "x" then some (Value.ref tx) else none) ?k1 ?k2 ?k3 ?k5 ?kA ?kF ?kK ?k6 ?k7 ?k8 ?k9 ?kB ?kR ?kM ?_ ?c2 ?c3 ?c4 ?c5
  walk_at "my_in"
  intro L' h' tk' FG' F' N' B' X' T'
  try dsimp only
  try k_fold
  refine let_A ?_
  intro ak
  k_with "execs cons" => ((with_reducible show wpAny _ _ _ _ _ (PySem.Shared.mk _ _ _ (HAdd.hAdd _ _) _)); refine repack s rfl ?_; intro tk9)
  k_with "call" => (
     k_here
     rw [eni]
     k_dflt (refine' shift_right_spec (x := z.natAbs) (n := n) ⟨?k1, ?k2, ?k3, ?k4, ?k5, ?k6, ?k7⟩ ?la ?ia (by omega) hk2 hk9 (by omega) ex x0 ?_)
     (case k1 => k_asm)
     (case k2 => k_asm)
     (case k3 => k_asm)
     (case k4 => k_asm)
     (case k5 => first | exact rfl | assumption)
     (case k6 => ktr_room)
     (case k7 => ktr_units)
     (case la => is_list)
     (case ia => assumption)
     rw [elq]
     intro r9 ws9 n9 h9 tk9 F9 S9 hn9 ho9 hi9
     have N9 := newsL (by assumption) (by assumption) S9 hn9 ho9
     (try dsimp only)
     (try k_sweep)
     (try k_fold))

  k_with "call" => (
     k_here
     rw [eni]
     k_dflt (refine' low_spec (x := z.natAbs) (n := n) ⟨?k1, ?k2, ?k3, ?k4, ?k5, ?k6, ?k7⟩ ?la ?ia (by omega) hk2 hk9 (by omega) ex x0 ?_)
     (case k1 => k_asm)
     (case k2 => k_asm)
     (case k3 => k_asm)
     (case k4 => k_asm)
     (case k5 => first | exact rfl | assumption)
     (case k6 => ktr_room)
     (case k7 => ktr_units)
     (case la => is_list)
     (case ia => assumption)
     rw [elo]
     intro r9 ws9 n9 h9 tk9 F9 S9 hn9 ho9 hi9
     have N9 := newsL (by assumption) (by assumption) S9 hn9 ho9
     (try dsimp only)
     (try k_sweep)
     (try k_fold))

  k_with "call" => (
     k_here
     k_dflt (refine' add_limb_spec (x := (z.natAbs : Int) / 2 ^ n) (na := lq) ⟨?k1, ?k2, ?k3, ?k4, ?k5, ?k6, ?k7⟩ ?la ?ia (by omega) hk2 hk9 elq.symm d0 ?_)
     (case k1 => k_asm)
     (case k2 => k_asm)
     (case k3 => k_asm)
     (case k4 => k_asm)
     (case k5 => first | exact rfl | assumption)
     (case k6 => ktr_room)
     (case k7 => ktr_units)
     (case la => is_list)
     (case ia => assumption)
     rw [elr]
     intro r9 ws9 n9 h9 tk9 F9 S9 hn9 ho9 hi9
     have N9 := newsL (by assumption) (by assumption) S9 hn9 ho9
     (try dsimp only)
     (try k_sweep)
     (try k_fold))

  k_with "call" => (
     k_here
     k_dflt (refine' signed_spec (na := lq) ⟨?k1, ?k2, ?k3, ?k4, ?k5, ?k6, ?k7⟩ ?la ?ia (by omega) ?_)
     (case k1 => k_asm)
     (case k2 => k_asm)
     (case k3 => k_asm)
     (case k4 => k_asm)
     (case k5 => first | exact rfl | assumption)
     (case k6 => ktr_room)
     (case k7 => ktr_units)
     (case la => is_list)
     (case ia => assumption)
     intro r9 h9 tk9 F9 S9 D9
     have N9 := newsK (by assumption) S9
     (try dsimp only)
     (try k_sweep)
     (try k_fold))

  k_with "call" => (
     k_here
     k_dflt (refine' signed_spec (na := lr) ⟨?k1, ?k2, ?k3, ?k4, ?k5, ?k6, ?k7⟩ ?la ?ia (by omega) ?_)
     (case k1 => k_asm)
     (case k2 => k_asm)
     (case k3 => k_asm)
     (case k4 => k_asm)
     (case k5 => first | exact rfl | assumption)
     (case k6 => ktr_room)
     (case k7 => ktr_units)
     (case la => is_list)
     (case ia => assumption)
     intro r9 h9 tk9 F9 S9 D9
     have N9 := newsK (by assumption) S9
     (try dsimp only)
     (try k_sweep)
     (try k_fold))

  k_with "ends" => first
    | exact retN ret (by assumption) (by assumption) (by rw [← dn_end1 hk2 ebx (by assumption) (low1 (by assumption)) elr]; assumption)
    | exact retN ret (by assumption) (by assumption) (by rw [← dn_end2 hk2 ebx (by assumption) (low0 (by assumption)) elq]; assumption)
    | exact retN ret (by assumption) (by assumption) (by rw [← dn_end3 ebx (by assumption) elq]; assumption)
  k_steps

end
end Mine
namespace Mine
open PySem PySem.W PySem.Spec PySem.Calls PyProof.Rows
set_option maxRecDepth 100000
set_option maxHeartbeats 0
local macro_rules | `(tactic| walk_at "my_in") => `(tactic| ((case kA => exact rfl); (case kF => exact rfl); (case kK => first | assumption | exact rfl); (case k1 => k_asm); (case k2 => k_asm); (case k3 => k_asm); (case k5 => k_asm); (case k6 => k_is); (case k7 => k_is); (case k8 => ktr_room); (case k9 => exact BindsTo.of_eq rfl); (case c5 => decide); (case kB => exact locs rfl); (case c2 => exact rfl); (case c3 => exact rfl); (case c4 => exact rfl); (case kR => exact rfl); (case kM => (intro y; (repeat refine lk_cons' _ _ _ _ ?_); exact rfl))))
local macro_rules | `(tactic| walk_at "my_inC") => `(tactic| ((case kA => exact rfl); (case kF => exact rfl); (case kK => first | assumption | exact rfl); (case k1 => k_asm); (case k2 => k_asm); (case k3 => k_asm); (case k5 => k_asm); (case k6 => k_is); (case k7 => k_is); (case k8 => ktr_room); (case k9 => exact BindsTo.of_eq rfl); (case kB => exact rfl); (case kD => decide +kernel); (case c2 => exact rfl); (case c3 => exact rfl); (case c4 => exact rfl); (case kM => (intro L'; rfl)); (case kC => (intro L'; rfl))))
local macro_rules | `(tactic| kmk_nums) => `(tactic| first | ((with_reducible refine' kmk_all ?gi); (case gi => l_ints)) | ((with_reducible refine' kmk_upto ?gi ?gx); (case gi => l_ints); (case gx => first | with_reducible assumption | decide | omega)))
local macro_rules | `(tactic| walk_at "eval ListComp") => `(tactic| k_extra "comp")
local macro_rules | `(tactic| walk_at "call type:zip") => `(tactic| k_extra "zip")
local macro_rules | `(tactic| wrow_close) => `(tactic| k_extra "ends")
local macro_rules | `(tactic| walk_at "call ref") => `(tactic| k_extra "call")
section
variable {w : World} {p : Program} {loose : List Str} {mean : ExcName → Option Value} {mg mb : Str → Option Value} {dp un : Nat} {gd : Option (List Code)} {cn : Str} {cs : Scope} {a : Addr} {ccd : Value} {cl : List (Str × Addr)} {outer : List Env} {A₀ : Around} {base h₀ : Heap} {L : Addr} {m : Str → Option Value} {s : Shared} {Q E : Value → Shared → Prop}

theorem done8_spec {vx vmx vmt : Value} {z y0 : Int} {k n : Nat} {td tm : Addr} {tf tn tw : Tok}
    (C : Cx w p loose mean mg mb dp un cs outer A₀ base h₀ L m s 25)
    (hx : NumH s.heap vx (num (2 ^ k) z)) (hd1 : IsTup s.heap td #[.int 8 tf, .int (n : Int) tn, .ref tm]) (hd2 : IsTup s.heap tm #[vmx, vmt]) (hy : NumH s.heap vmx (num (2 ^ k) y0)) (hk2 : 2 ≤ k) (hk9 : k ≤ 9) (bx' : (limbs (2 ^ k) z.natAbs).length < 2 ^ 14) (hn : n < 2 ^ 13) (hn1 : 0 < n)
    (ret : RetN h₀ L m s Q (num (2 ^ k) (z / 2 ^ n))) :
    wpAny (model PR w) (ktrTop dp un gd cn cs L a ccd cl outer) (call (.ref 280) [.ref td, vx, .int (k : Int) tw]) Q E s := by
  k_with_none
  obtain ⟨tx, lx, wx, rfl, itx, ilx, iix⟩ := hx.open
  generalize ebx : (num (2 ^ k) z).1 = bbx at itx
  generalize enx : (num (2 ^ k) z).2 = nx at iix
  have ex : nx = limbs (2 ^ k) z.natAbs := enx.symm
  obtain ⟨ty, ly, wy, rfl, ity, ily, iiy⟩ := hy.open
  obtain ⟨B, F, X, T, hk, hd, hu⟩ := C
  refine wpAny_call ?_
  refine' enterM [(Str.ofString "deed", Value.ref td), (Str.ofString "x", Value.ref tx), (Str.ofString "w", Value.int (k : Int) tw)] [(Str.ofString "w", Value.int (k : Int) tw), (Str.ofString "x", Value.ref tx), (Str.ofString "deed", Value.ref td)] (fun y => if y = Str.ofString "w" then some (Value.int (k : Int) tw) else if y = Str.ofString "x" then some (Value.ref tx) else if y = Str.ofString "deed" then some (Value.ref td) else none) ?k1 ?k2 ?k3 ?k5 ?kA ?kF ?kK ?k6 ?k7 ?k8 ?k9 ?kB ?kR ?kM ?_ ?c2 ?c3 ?c4 ?c5
  walk_at "my_in"
  intro L' h' tk' FG' F' N' B' X' T'
  try dsimp only
  try k_fold
  refine let_A ?_
  intro ak
  k_with "execs cons" => ((with_reducible show wpAny _ _ _ _ _ (PySem.Shared.mk _ _ _ (HAdd.hAdd _ _) _)); refine repack s rfl ?_; intro tk9)
  k_with "call" => (
     k_here
     k_dflt (refine' s_shift_dn_spec (z := z) (n := n) ⟨?k1, ?k2, ?k3, ?k4, ?k5, ?k6, ?k7⟩ ?hx hk2 hk9 bx' hn (by omega) (by omega) ?_)
     (case k1 => k_asm)
     (case k2 => k_asm)
     (case k3 => k_asm)
     (case k4 => k_asm)
     (case k5 => first | exact rfl | assumption)
     (case k6 => ktr_room)
     (case k7 => ktr_units)
     (case hx => exact NumH.keeps hx (Fr.keep (by assumption)))
     intro r9 h9 tk9 F9 S9 D9
     have N9 := newsK (by assumption) S9
     (try dsimp only)
     (try k_sweep)
     (try k_fold))

  k_with "ends" => exact retN ret (by assumption) (by assumption) (by assumption)
  k_steps

end
end Mine
namespace Mine
open PySem PySem.W PySem.Spec PySem.Calls PyProof.Rows
set_option maxRecDepth 100000
set_option maxHeartbeats 0
local macro_rules | `(tactic| walk_at "my_in") => `(tactic| ((case kA => exact rfl); (case kF => exact rfl); (case kK => first | assumption | exact rfl); (case k1 => k_asm); (case k2 => k_asm); (case k3 => k_asm); (case k5 => k_asm); (case k6 => k_is); (case k7 => k_is); (case k8 => ktr_room); (case k9 => exact BindsTo.of_eq rfl); (case c5 => decide); (case kB => exact locs rfl); (case c2 => exact rfl); (case c3 => exact rfl); (case c4 => exact rfl); (case kR => exact rfl); (case kM => (intro y; (repeat refine lk_cons' _ _ _ _ ?_); exact rfl))))
local macro_rules | `(tactic| walk_at "my_inC") => `(tactic| ((case kA => exact rfl); (case kF => exact rfl); (case kK => first | assumption | exact rfl); (case k1 => k_asm); (case k2 => k_asm); (case k3 => k_asm); (case k5 => k_asm); (case k6 => k_is); (case k7 => k_is); (case k8 => ktr_room); (case k9 => exact BindsTo.of_eq rfl); (case kB => exact rfl); (case kD => decide +kernel); (case c2 => exact rfl); (case c3 => exact rfl); (case c4 => exact rfl); (case kM => (intro L'; rfl)); (case kC => (intro L'; rfl))))
local macro_rules | `(tactic| kmk_nums) => `(tactic| first | ((with_reducible refine' kmk_all ?gi); (case gi => l_ints)) | ((with_reducible refine' kmk_upto ?gi ?gx); (case gi => l_ints); (case gx => first | with_reducible assumption | decide | omega)))
local macro_rules | `(tactic| walk_at "eval ListComp") => `(tactic| k_extra "comp")
local macro_rules | `(tactic| walk_at "call type:zip") => `(tactic| k_extra "zip")
local macro_rules | `(tactic| wrow_close) => `(tactic| k_extra "ends")
local macro_rules | `(tactic| walk_at "call ref") => `(tactic| k_extra "call")
section
variable {w : World} {p : Program} {loose : List Str} {mean : ExcName → Option Value} {mg mb : Str → Option Value} {dp un : Nat} {gd : Option (List Code)} {cn : Str} {cs : Scope} {a : Addr} {ccd : Value} {cl : List (Str × Addr)} {outer : List Env} {A₀ : Around} {base h₀ : Heap} {L : Addr} {m : Str → Option Value} {s : Shared} {Q E : Value → Shared → Prop}

theorem done9_spec {vx vmx vmt : Value} {z y0 : Int} {k n : Nat} {td tm : Addr} {tf tn tw : Tok}
    (C : Cx w p loose mean mg mb dp un cs outer A₀ base h₀ L m s 25)
    (hx : NumH s.heap vx (num (2 ^ k) z)) (hd1 : IsTup s.heap td #[.int 8 tf, .int 0 tn, .ref tm]) (hd2 : IsTup s.heap tm #[vmx, vmt]) (hy : NumH s.heap vmx (num (2 ^ k) y0)) (hk2 : 2 ≤ k) (hk9 : k ≤ 9) (bx' : (limbs (2 ^ k) z.natAbs).length < 2 ^ 14) 
    (ret : RetN h₀ L m s Q (num (2 ^ k) (z))) :
    wpAny (model PR w) (ktrTop dp un gd cn cs L a ccd cl outer) (call (.ref 280) [.ref td, vx, .int (k : Int) tw]) Q E s := by
  k_with_none
  obtain ⟨tx, lx, wx, rfl, itx, ilx, iix⟩ := hx.open
  generalize ebx : (num (2 ^ k) z).1 = bbx at itx
  generalize enx : (num (2 ^ k) z).2 = nx at iix
  have ex : nx = limbs (2 ^ k) z.natAbs := enx.symm
  obtain ⟨ty, ly, wy, rfl, ity, ily, iiy⟩ := hy.open
  obtain ⟨B, F, X, T, hk, hd, hu⟩ := C
  refine wpAny_call ?_
  refine' enterM [(Str.ofString "deed", Value.ref td), (Str.ofString "x", Value.ref tx), (Str.ofString "w", Value.int (k : Int) tw)] [(Str.ofString "w", Value.int (k : Int) tw), (Str.ofString "x", Value.ref tx), (Str.ofString "deed", Value.ref td)] (fun y => if y = Str.ofString "w" then some (Value.int (k : Int) tw) else if y = Str.ofString "x" then some (Value.ref tx) else if y = Str.ofString "deed" then some (Value.ref td) else none) ?k1 ?k2 ?k3 ?k5 ?kA ?kF ?kK ?k6 ?k7 ?k8 ?k9 ?kB ?kR ?kM ?_ ?c2 ?c3 ?c4 ?c5
  walk_at "my_in"
  intro L' h' tk' FG' F' N' B' X' T'
  try dsimp only
  try k_fold
  refine let_A ?_
  intro ak
  k_with "execs cons" => ((with_reducible show wpAny _ _ _ _ _ (PySem.Shared.mk _ _ _ (HAdd.hAdd _ _) _)); refine repack s rfl ?_; intro tk9)
  k_with "call" => (
     k_here
     rw [show ((0 : Int) - 0) = ((0 : Nat) : Int) from rfl]
     k_dflt (refine' s_shift_up_spec (z := z) (n := 0) ⟨?k1, ?k2, ?k3, ?k4, ?k5, ?k6, ?k7⟩ ?hx hk2 hk9 bx' (by decide) (by rw [Int.pow_zero, Int.mul_one]; exact bx') ?_)
     (case k1 => k_asm)
     (case k2 => k_asm)
     (case k3 => k_asm)
     (case k4 => k_asm)
     (case k5 => first | exact rfl | assumption)
     (case k6 => ktr_room)
     (case k7 => ktr_units)
     (case hx => exact NumH.keeps hx (Fr.keep (by assumption)))
     rw [Int.pow_zero, Int.mul_one]
     intro r9 h9 tk9 F9 S9 D9
     have N9 := newsK (by assumption) S9
     (try dsimp only)
     (try k_sweep)
     (try k_fold))

  k_with "ends" => exact retN ret (by assumption) (by assumption) (by assumption)
  k_steps

end
end Mine
namespace Mine
open PySem PySem.W PySem.Spec PySem.Calls PyProof.Rows
set_option maxRecDepth 100000
theorem ints_eqv : ∀ (xs ys : List Int), PyData.eqvAll (xs.map .int) (ys.map .int) = decide (xs = ys)
  | [], [] => by simp [PyData.eqvAll]
  | [], _ :: _ => by simp [PyData.eqvAll]
  | _ :: _, [] => by simp [PyData.eqvAll]
  | x :: xs, y :: ys => by
    rw [List.map_cons, List.map_cons, PyData.eqvAll, ints_eqv xs ys, PyData.eqv, Bool.eq_iff_iff]
    simp
theorem numP_eqv (x y : Bool × List Int) : PyData.eqv (numP x) (numP y) = decide (x = y) := by
  obtain ⟨a, xs⟩ := x
  obtain ⟨b, ys⟩ := y
  unfold numP
  simp only [PyData.eqv, PyData.eqvAll, ints_eqv]
  rw [Bool.eq_iff_iff]
  simp
theorem ints_lay : ∀ xs : List Int, PyData.canLayAll0 (xs.map .int) = true ∧ PyData.depthAll (xs.map .int) = 0
  | [] => by simp [PyData.canLayAll0, PyData.depthAll]
  | x :: xs => by
    have := ints_lay xs
    simp [PyData.canLayAll0, PyData.depthAll, PyData.canLay0, PyData.depth, this.1, this.2]
theorem numP_lay (x : Bool × List Int) : (numP x).canLay0 = true ∧ (numP x).depth = 2 := by
  have := ints_lay x.2
  unfold numP
  simp [PyData.canLayAll0, PyData.depthAll, PyData.canLay0, PyData.depth, this.1, this.2]
theorem numP_shaped (x : Bool × List Int) : SeqAt.shaped (numP x) = true := by
  have := numP_lay x
  unfold SeqAt.shaped
  rw [this.1, this.2]; rfl
theorem num_eqq {prog : Program} {w : World} {A : Around} {E : Value → Shared → Prop} {s : Shared} {a b : Value} {x y : Bool × List Int} {Q : Value → Shared → Prop} (hx : NumH s.heap a x) (hy : NumH s.heap b y) (hu : A.units + 64 < cLine)
    (h : Q (.bool (decide (x = y))) s) : wpAny (model prog w) A (compareOp .Eq a b) Q E s := by
  obtain ⟨as, ra⟩ := hx
  obtain ⟨bs, rb⟩ := hy
  exact eq_dataH ra rb (numP_shaped x) (numP_shaped y) hu (by rw [numP_eqv]; exact h)
theorem num_nee {prog : Program} {w : World} {A : Around} {E : Value → Shared → Prop} {s : Shared} {a b : Value} {x y : Bool × List Int} {Q : Value → Shared → Prop} (hx : NumH s.heap a x) (hy : NumH s.heap b y) (hu : A.units + 64 < cLine)
    (h : Q (.bool (!decide (x = y))) s) : wpAny (model prog w) A (compareOp .NotEq a b) Q E s := by
  obtain ⟨as, ra⟩ := hx
  obtain ⟨bs, rb⟩ := hy
  exact ne_dataH ra rb (numP_shaped x) (numP_shaped y) hu (by rw [numP_eqv]; exact h)
theorem num_ne {prog : Program} {w : World} {A : Around} {E : Value → Shared → Prop} {s : Shared} {a b : Value} {x y : Bool × List Int} {Q : Value → Shared → Prop} (hx : NumH s.heap a x) (hy : NumH s.heap b y) (e : x = y) (hu : A.units + 64 < cLine)
    (h : Q (.bool false) s) : wpAny (model prog w) A (compareOp .NotEq a b) Q E s :=
  num_nee hx hy hu (by rw [decide_eq_true e]; exact h)
theorem num_eq {prog : Program} {w : World} {A : Around} {E : Value → Shared → Prop} {s : Shared} {a b : Value} {x y : Bool × List Int} {Q : Value → Shared → Prop} (hx : NumH s.heap a x) (hy : NumH s.heap b y) (e : x = y) (hu : A.units + 64 < cLine)
    (h : Q (.bool true) s) : wpAny (model prog w) A (compareOp .Eq a b) Q E s :=
  num_eqq hx hy hu (by rw [decide_eq_true e]; exact h)
end Mine
namespace Mine
theorem nff {p : Prop} (h : (false == false && decide (([] : List Int) = [])) = false) : p := by simp at h
end Mine
namespace Mine
open PySem PySem.W PySem.Spec PySem.Calls PyProof.Rows
theorem numH_news {h₀ h : Heap} {L : Addr} {news : List (Addr × Obj)} {t l : Addr} {n n' : Nat} {b : Bool} {vs : List Value} {ns : List Int} (N : News h₀ L h news)
    (h1 : (t, ({ cls := .type "tuple", data := .seq #[.bool b, .ref l] n } : Obj)) ∈ news) (h2 : (l, listOf vs.toArray n') ∈ news) (h3 : IntsAre vs ns) : NumH h (.ref t) (b, ns) :=
  NumH.mk (x := (b, ns)) (News.isTup N h1) (News.isList N h2) h3
end Mine
namespace Mine
open PySem PySem.W PySem.Spec PySem.Calls PyProof.Rows
theorem numH_newsX {h₀ h : Heap} {L : Addr} {news : List (Addr × Obj)} {t l : Addr} {n n' : Nat} {x : Bool × List Int} {vs : List Value} (N : News h₀ L h news)
    (h1 : (t, ({ cls := .type "tuple", data := .seq #[.bool x.1, .ref l] n } : Obj)) ∈ news) (h2 : (l, listOf vs.toArray n') ∈ news) (h3 : IntsAre vs x.2) : NumH h (.ref t) x :=
  NumH.mk (x := x) (News.isTup N h1) (News.isList N h2) h3
end Mine
namespace Mine
open PySem PySem.W PySem.Spec PySem.Calls PyProof.Rows
def OVal (v : Value) : Option Int → Prop
  | none => v = .none
  | some i => ∃ t, v = .int i t
theorem OVal.of {v : Value} {x : Option Int} (h : match x with | none => v = Value.none | some i => ∃ t, v = .int i t) : OVal v x := by
  cases x <;> exact h
section
variable {prog : Program} {w : World} {A : Around} {E : Value → Shared → Prop} {s : Shared} {a b : Value} {Q : Value → Shared → Prop}
theorem o_eq {x : Option Int} (ha : OVal a x) (hb : OVal b x) (h : Q (.bool true) s) : wpAny (model prog w) A (compareOp .Eq a b) Q E s := by
  cases x with
  | none => cases ha; cases hb; exact EqNone.eq_none_none h
  | some i =>
    obtain ⟨t, rfl⟩ := ha
    obtain ⟨u, rfl⟩ := hb
    refine eq_int ?_
    rw [beq_self_eq_true]; exact h
theorem o_ne {x : Option Int} (ha : OVal a x) (hb : OVal b x) (h : Q (.bool false) s) : wpAny (model prog w) A (compareOp .NotEq a b) Q E s := by
  cases x with
  | none => cases ha; cases hb; exact EqNone.ne_none_none h
  | some i =>
    obtain ⟨t, rfl⟩ := ha
    obtain ⟨u, rfl⟩ := hb
    refine ne_int ?_
    rw [bne_self_eq_false]; exact h
end
end Mine
namespace Mine
open PySem PySem.W PySem.Spec PySem.Calls PyProof.Rows
theorem ifexp_O {M : Model} {A : Around} {E : Value → Shared → Prop} {s : Shared} {env : Env} {test body orelse : PySem.Expr} {pos : Pos} {Q : Value → Shared → Prop} (x : Option Int)
    (h : wpAny M A (isTrue test env (eval test env)) (fun b s₁ => if b then wpAny M A (eval body env) (fun v s' => ∃ tk, s' = { s with toks := tk } ∧ OVal v x) E s₁ else wpAny M A (eval orelse env) (fun v s' => ∃ tk, s' = { s with toks := tk } ∧ OVal v x) E s₁) E s)
    (k : ∀ v tk, OVal v x → Q v { s with toks := tk }) : wpAny M A (eval (.IfExp test body orelse pos) env) Q E s :=
  wpAny_mono (PySem.wpAny_IfExp h) (fun v s' ⟨tk, e, o⟩ => by subst e; exact k v tk o) fun _ _ e => e
theorem oval_none {b : Bool} {i : Option Int} (h : b = true) : OVal .none (if b = true then none else i) := by rw [if_pos h]; exact rfl
theorem oval_some {b : Bool} {i : Int} {t : Tok} (h : ¬ b = true) : OVal (.int i t) (if b = true then none else some i) := by rw [if_neg h]; exact ⟨t, rfl⟩
theorem oval_some' {b : Bool} {i : Int} {t : Tok} (h : b = false) : OVal (.int i t) (if b = true then none else some i) := oval_some (by rw [h]; simp)
end Mine
namespace Mine
open PySem PySem.W PySem.Spec PySem.Calls PyProof.Rows
set_option maxRecDepth 100000
def Stay1 (h h' : Heap) : Prop := ∀ b o, b ≠ 265 → h.get? b = some o → h'.get? b = some o
theorem Stay1.rfl {h : Heap} : Stay1 h h := fun _ _ _ e => e
theorem Stay1.trans {h h' h'' : Heap} (a : Stay1 h h') (b : Stay1 h' h'') : Stay1 h h'' := fun c o n e => b c o n (a c o n e)
theorem Stay1.of {h h' : Heap} (a : h.StaysIn h') : Stay1 h h' := fun _ _ _ e => a _ _ e
abbrev tab3 (c0 c1 c2 : Addr) : Array Value := #[rawInt 187, rawInt 0, .ref c0, rawInt 188, rawInt 0, .ref c1, rawInt 189, rawInt 0, .ref c2]
abbrev qLam : Str := "_law_joined" ++ ".<locals>." ++ "<lambda>"
structure Full (h : Heap) (c0 c1 c2 : Addr) : Prop where
  r0 : h.CodeRec (.ref c0) qLam
  n0 : c0 ≠ 265
  r1 : h.CodeRec (.ref c1) qLam
  n1 : c1 ≠ 265
  r2 : h.CodeRec (.ref c2) qLam
  n2 : c2 ≠ 265
theorem codeRec_stay {h h' : Heap} {c : Addr} {q : Str} (n : c ≠ 265) (k : Stay1 h h') (a : h.CodeRec (.ref c) q) : h'.CodeRec (.ref c) q := by
  obtain ⟨c₂, oc, vs, t, e2, hoc, hd, hv⟩ := a
  cases e2
  exact ⟨c, oc, vs, t, rfl, k _ _ n hoc, hd, hv⟩
theorem Full.stay {h h' : Heap} {c0 c1 c2 : Addr} (k : Stay1 h h') (a : Full h c0 c1 c2) : Full h' c0 c1 c2 :=
  ⟨codeRec_stay a.n0 k a.r0, a.n0, codeRec_stay a.n1 k a.r1, a.n1, codeRec_stay a.n2 k a.r2, a.n2⟩
inductive TabIs (h : Heap) : Array Value → Prop
  | nil : TabIs h #[]
  | full {c0 c1 c2 : Addr} (a : Full h c0 c1 c2) : TabIs h (tab3 c0 c1 c2)
theorem TabIs.stay {h h' : Heap} {ps : Array Value} (k : Stay1 h h') (a : TabIs h ps) : TabIs h' ps := by
  cases a with
  | nil => exact .nil
  | full a => exact .full (a.stay k)
structure Tab (h₀ : Heap) (L : Addr) (h : Heap) : Prop where
  ex : ∃ ps, News h₀ L h [(265, tabObj ps)] ∧ TabIs h ps
theorem isTup_hide {h : Heap} {t : Addr} {xs ps : Array Value} (hp : h.get? 265 = some (tabObj ps)) (a : IsTup h t xs) : t ≠ 265 := by
  rintro rfl
  obtain ⟨o, e, c, _⟩ := a
  rw [hp] at e; cases e; cases c
theorem isList_hide {h : Heap} {t : Addr} {xs ps : Array Value} (hp : h.get? 265 = some (tabObj ps)) (a : h.IsList t xs) : t ≠ 265 := by
  rintro rfl
  obtain ⟨o, e, c, _⟩ := a
  rw [hp] at e; cases e; cases c
theorem isTup_stay {h h' : Heap} {t : Addr} {xs ps : Array Value} (hp : h.get? 265 = some (tabObj ps)) (k : Stay1 h h') (a : IsTup h t xs) : IsTup h' t xs := by
  have n := isTup_hide hp a
  obtain ⟨o, e, r⟩ := a
  exact ⟨o, k _ _ n e, r⟩
theorem isList_stay {h h' : Heap} {t : Addr} {xs ps : Array Value} (hp : h.get? 265 = some (tabObj ps)) (k : Stay1 h h') (a : h.IsList t xs) : h'.IsList t xs := by
  have n := isList_hide hp a
  obtain ⟨o, e, r⟩ := a
  exact ⟨o, k _ _ n e, r⟩
theorem NumH.stay {h h' : Heap} {v : Value} {x : Bool × List Int} {ps : Array Value} (hp : h.get? 265 = some (tabObj ps)) (k : Stay1 h h') (a : NumH h v x) : NumH h' v x := by
  obtain ⟨t, l, vs, rfl, e1, e2, e3⟩ := a.open
  exact NumH.mk (isTup_stay hp k e1) (isList_stay hp k e2) e3
section
variable {prog : Program} {w : World} {A₀ A : Around} {s : Shared} {base h₀ : Heap} {outer : List Env} {L : Addr} {m : Str → Option Value} {env : Env} {K : Frag}
  {p : Program} {loose : List Str} {mean : ExcName → Option Value} {mg mb : Str → Option Value}
  {R : Result → Shared → Prop} {name qual : Str} {params : Arguments} {body : List Stmt} {scope : Scope} {dV kV doc pm cdv ct oc : Value} {an od : Option Addr} {osl : Array (Option Value)} {f : Addr} {args : Args} {ps : Array Value}
theorem enterJ (binds : List (Str × Value)) (mm cm : Str → Option Value)
    (B : Below A₀ base outer h₀) (F : Fr h₀ L s.heap m) (X₀ : K.In h₀) (N : News h₀ L s.heap [(265, tabObj ps)]) (T : Top p loose mean mg mb h₀) (hA : A.frames = some (env :: outer)) (hf : env.frame = some L) (hke : env.scope.kind = .function)
    (ho : K.lookup f = some ⟨oc, od, .func (fnOf name qual params body scope dV kV doc pm an cdv ct), osl⟩) (hcd : codeIn K cdv qual = true) (hroom : A.depth < recursionLimit)
    (hbind : BindsTo s (fnOf name qual params body scope dV kV doc pm an cdv ct) args binds) (hkind : (binds.all fun y => scope.names.lookup y.1 == some .local || scope.names.lookup y.1 == some .cell) = true)
    (hnd : ((cellsFrom 0 scope.names []).map (·.1)).Nodup)
    (hmm : ∀ L', bindL (envOfC qual scope L' f cdv).kindOf binds (fun _ => none) = mm) (hcm : ∀ L', bindC (envOfC qual scope L' f cdv).kindOf binds (fun _ => none) = cm)
    (h : ∀ g L' h₁ tk cells, Stay1 s.heap g → (∀ b o, g.get? b = some o → s.heap.get? b = some o) → g.objs.size = s.heap.objs.size → Fr h₀ L g m → Fr g L' h₁ mm → News g L' h₁ (cells ++ [(265, tabObj ps)]) → CellsAre cm (cellsFrom (L' + 1) scope.names []) cells → 265 < L' → Below A base (env :: outer) g → K.In g → Top p loose mean mg mb g →
      wpAny (model prog w) (A.deeper (envOfC qual scope L' f cdv)) (execs body (envOfC qual scope L' f cdv))
        (fun fl s' => LeaveK h₀ L m g R (match fl with | .ret v => v | _ => .none) s')
        (fun e s' => wpAny (model prog w) (A.deeper (envOfC qual scope L' f cdv)) (leaving (envOfC qual scope L' f cdv) e) (fun _ s'' => R (.error e) s'') (fun e' s'' => R (.error e') s'') s')
        { s with heap := h₁, toks := tk })
    (hco : scope.isCoroutine = false) (hgen : scope.isGenerator = false) (hk : scope.kind = .function) : codeAny (model prog w) A (.call (.ref f) args) R s := by
  obtain ⟨FG, BG, st, lv⟩ := groundX (R := R) B F N hA hf hke
  have hcl : (s.heap).CodeRec cdv qual := codeRec_of (X₀.keeps F.keep) hcd
  have hlim := T.nolimit
  refine codeAny_call_function hroom ((X₀.keeps F.keep) _ _ ho) rfl hco hgen rfl hcl (hbind _ _ _ _ ?_)
  refine wpAny_newFunctionEnv_cells hk (kindsX hkind _) fun env' he s' x => ?_
  subst he
  refine ⟨(hlim.keeps F.keep).keeps x.toInCall.keep, codeAny_func ?_⟩
  obtain ⟨h₁, tk, rfl, _⟩ := x.done
  have hk₁ := x.toInCall.keep
  obtain ⟨cells, NC, Y⟩ := Cl.news (h₀ := s.heap) (Nat.le_refl _) fun n c hm => ⟨x.cell n c (lookup_of_mem_nodup (cellsFrom_names scope.names 0 (s.heap.objs.size + 1) [] [] rfl ▸ hnd) hm), x.above n c hm⟩
  have Fin : Fr (hideAll s.heap [265]) s.heap.objs.size h₁ (bindL (envOfC qual scope s.heap.objs.size f cdv).kindOf binds fun _ => none) := ⟨x.toInCall.ns, fun b o e => hk₁ b o (of_hideAll _ e), Nat.le_of_eq (hideAll_size _ _)⟩
  rw [hmm] at Fin
  have Y' : CellsAre cm (cellsFrom (s.heap.objs.size + 1) scope.names []) cells := by
    rw [← hcm s.heap.objs.size]; exact Y
  have NN : News (hideAll s.heap [265]) s.heap.objs.size h₁ (cells ++ [(265, tabObj ps)]) := by
    intro p hp
    rcases List.mem_append.mp hp with hp | hp
    · refine ⟨(NC p hp).1, (NC p hp).2.1, ?_⟩
      cases q : (hideAll s.heap [265]).get? p.1 with
      | none => rfl
      | some o => have := of_hideAll _ q; rw [(NC p hp).2.2] at this; cases this
    · rw [List.mem_singleton.mp hp]
      exact ⟨hk₁ _ _ (N _ (.head _)).1, Nat.ne_of_lt (Heap.lt_size (N _ (.head _)).1), hideAll_none _ (List.mem_singleton.mpr rfl)⟩
  exact wpAny_mono (h (hideAll s.heap [265]) s.heap.objs.size h₁ tk cells (fun b o n e => hideAll_get _ e (by simpa using n)) (fun b o e => of_hideAll _ e) (hideAll_size _ _) FG Fin NN Y' (Heap.lt_size (N _ (.head _)).1) BG (X₀.keeps st) (T.keeps st)) (fun fl s' hl => lv _ _ hl) fun _ _ y => y
end
end Mine
namespace Mine
open PySem PySem.W PySem.Spec PySem.Calls PyProof.Rows
set_option maxRecDepth 100000
theorem enterLam {prog : Program} {w : World} {A₀ A : Around} {s : Shared} {base h₀ : Heap} {outer : List Env} {L : Addr} {m : Str → Option Value} {env : Env} {K : Frag}
  {p : Program} {loose : List Str} {mean : ExcName → Option Value} {mg mb : Str → Option Value}
  {R : Result → Shared → Prop} {name qual : Str} {params : Arguments} {body : PySem.Expr} {scope : Scope} {pm ctv : Value} {c' : Addr} {f : Addr} {args : Args} (binds rs : List (Str × Value)) (mm : Str → Option Value)
    (B : Below A₀ base outer h₀) (F : Fr h₀ L s.heap m) (X₀ : K.In h₀) (T : Top p loose mean mg mb h₀) (hA : A.frames = some (env :: outer)) (hf : env.frame = some L) (hke : env.scope.kind = .function)
    (ho : s.heap.get? f = some (kla_obj name qual params body scope [] pm c' ctv)) (hcd : s.heap.CodeRec (.ref c') qual) (hroom : A.depth < recursionLimit)
    (hbind : bindArgs (kla_fn name qual params body scope [] pm (.ref c') ctv) args = pure binds) (hloc : ∀ y ∈ binds, scope.names.lookup y.1 = some .local)
    (hrs : binds.reverse = rs) (hmm : ∀ y, rs.lookup y = mm y)
    (h : ∀ L' h₁ tk, Fr h₀ L s.heap m → Fr s.heap L' h₁ mm → News s.heap L' h₁ [] → Below A base (env :: outer) s.heap → K.In s.heap → Top p loose mean mg mb s.heap →
      wpAny (model prog w) (A.deeper (envX qual scope L' f (.ref c') [])) (eval body (envX qual scope L' f (.ref c') []))
        (fun v s' => LeaveK h₀ L m s.heap R v s')
        (fun e s' => wpAny (model prog w) (A.deeper (envX qual scope L' f (.ref c') [])) (leaving (envX qual scope L' f (.ref c') []) e) (fun _ s'' => R (.error e) s'') (fun e' s'' => R (.error e') s'') s')
        { s with heap := h₁, toks := tk })
    (hco : scope.isCoroutine = false) (hgen : scope.isGenerator = false) (hk : scope.kind = .function)
    (hcell : ∀ x ∈ scope.names, x.2 ≠ .cell) : codeAny (model prog w) A (.call (.ref f) args) R s := by
  obtain ⟨FG, BG, st, lv⟩ := groundX (R := R) B F News.nil hA hf hke
  refine kla_callFunE hroom ho rfl hco hgen rfl hcd ?_
  rw [hbind]
  refine wpAny_pure (wpAny_newFunctionEnv hcell hloc (fun h₁ hns hsb => ⟨((T.nolimit).keeps F.keep).fresh _ hsb, ?_⟩) hk)
  show codeAny _ _ (.expr body (envX qual scope s.heap.objs.size f (.ref c') [])) _ _
  have hk₁ : ∀ b o, s.heap.get? b = some o → h₁.get? b = some o := fun b o e => hsb.extBut b o (Nat.ne_of_lt (Heap.lt_size e)) (Heap.get?_push_of_some _ e)
  have em : (fun y => binds.reverse.lookup y) = mm := funext fun y => by rw [hrs]; exact hmm y
  have hns' : h₁.Ns s.heap.objs.size mm := by rw [← em]; exact hns
  exact kla_codeExpr (wpAny_mono (h s.heap.objs.size h₁ _ FG ⟨hns', hk₁, Nat.le_refl _⟩ News.nil BG (X₀.keeps st) (T.keeps st)) (fun v s' hl => lv _ _ hl) fun _ _ y => y)
end Mine
namespace Mine
open PySem PySem.W PySem.Spec PySem.Calls PyProof.Rows
set_option maxRecDepth 100000
abbrev abM (x y : Bool) : Str → Option Value := fun n => if n = Str.ofString "b" then some (.bool y) else if n = Str.ofString "a" then some (.bool x) else none
section
variable {w : World} {p : Program} {loose : List Str} {mean : ExcName → Option Value} {mg mb : Str → Option Value} {dp un : Nat} {gd : Option (List Code)} {cn : Str} {cs : Scope} {a : Addr} {ccd : Value} {cl : List (Str × Addr)} {outer : List Env} {A₀ : Around} {base h₀ : Heap} {L : Addr} {m : Str → Option Value} {s : Shared} {Q E : Value → Shared → Prop}
theorem lam_call {name qual : Str} {params : Arguments} {body : PySem.Expr} {scope : Scope} {pm ctv : Value} {c' : Addr} {f : Addr} {x y : Bool} (r : Bool)
    (C : Cx w p loose mean mg mb dp un cs outer A₀ base h₀ L m s 3)
    (ho : s.heap.get? f = some (kla_obj name qual params body scope [] pm c' ctv)) (hcd : s.heap.CodeRec (.ref c') qual)
    (hbind : bindArgs (kla_fn name qual params body scope [] pm (.ref c') ctv) ⟨[.bool x, .bool y], []⟩ = pure [(Str.ofString "a", .bool x), (Str.ofString "b", .bool y)])
    (hla : scope.names.lookup (Str.ofString "a") = some .local) (hlb : scope.names.lookup (Str.ofString "b") = some .local) (hco : scope.isCoroutine = false) (hgen : scope.isGenerator = false) (hk : scope.kind = .function)
    (hcell : ∀ x ∈ scope.names, x.2 ≠ .cell)
    (hev : ∀ (A' : Around) (L' : Addr) (s' : Shared) (Q' E' : Value → Shared → Prop), s'.heap.Ns L' (abM x y) → Q' (.bool r) s' → wpAny (model PR w) A' (eval body (envX qual scope L' f (.ref c') [])) Q' E' s')
    (ret : RetB h₀ L m s Q r) : wpAny (model PR w) (ktrTop dp un gd cn cs L a ccd cl outer) (call (.ref f) [.bool x, .bool y]) Q E s := by
  obtain ⟨B, F, X, T, hkk, hd, hu⟩ := C
  refine wpAny_call ?_
  refine enterLam [(Str.ofString "a", .bool x), (Str.ofString "b", .bool y)] [(Str.ofString "b", .bool y), (Str.ofString "a", .bool x)] (abM x y) B F X T rfl rfl hkk ho hcd (by show dp < recursionLimit; omega) hbind ?_ rfl ?_ ?_ hco hgen hk hcell
  · intro z hz
    rcases List.mem_cons.mp hz with rfl | hz
    · exact hla
    · rw [List.mem_singleton.mp hz]; exact hlb
  · intro z
    repeat refine lk_cons' _ _ _ _ ?_
    rfl
  · intro L' h₁ tk FG F' N' B' X' T'
    refine hev _ L' _ _ _ F'.ns ?_
    exact ⟨L', _, [], F', N', fun F9 _ => ret h₁ tk F9 F'.keep⟩
end
section
variable {prog : Program} {w : World} {A : Around} {E Q : Value → Shared → Prop} {s : Shared} {qual : Str} {scope : Scope} {L f : Addr} {cd : Value} {x y : Bool}
theorem lam_name {n : Str} {pn : Pos} {v : Value} {m : Str → Option Value} (hk : scope.kind = .function) (hl : scope.names.lookup n = some .local) (hd : (n == ("__debug__" : Str)) = false) (hn : s.heap.Ns L m) (hm : m n = some v) (h : Q v s) :
    wpAny (model prog w) A (eval (.Name n pn) (envX qual scope L f cd [])) Q E s :=
  wpAny_Name (wpAny_loadName_local hk hl hn hm h) hd
theorem lam_and {pa pb po : Pos} (hk : scope.kind = .function) (hla : scope.names.lookup (Str.ofString "a") = some .local) (hlb : scope.names.lookup (Str.ofString "b") = some .local) (hn : s.heap.Ns L (abM x y)) (h : Q (.bool (x && y)) s) :
    wpAny (model prog w) A (eval (.BoolOp .And [.Name (Str.ofString "a") pa, .Name (Str.ofString "b") pb] po) (envX qual scope L f cd [])) Q E s := by
  refine BoolOp_and (lam_name hk hla (by decide) hn (v := .bool x) (by simp (decide := true) [abM]) ?_)
  refine wpAny_truthy_bool ?_
  cases x with
  | true => 
    rw [if_pos rfl]
    refine BoolOp_one (lam_name hk hlb (by decide) hn (v := .bool y) (by simp [abM]) ?_)
    simpa using h
  | false => 
    rw [if_neg (by simp)]
    simpa using h
theorem lam_or {pa pb po : Pos} (hk : scope.kind = .function) (hla : scope.names.lookup (Str.ofString "a") = some .local) (hlb : scope.names.lookup (Str.ofString "b") = some .local) (hn : s.heap.Ns L (abM x y)) (h : Q (.bool (x || y)) s) :
    wpAny (model prog w) A (eval (.BoolOp .Or [.Name (Str.ofString "a") pa, .Name (Str.ofString "b") pb] po) (envX qual scope L f cd [])) Q E s := by
  refine BoolOp_or (lam_name hk hla (by decide) hn (v := .bool x) (by simp (decide := true) [abM]) ?_)
  refine wpAny_truthy_bool ?_
  cases x with
  | true => 
    rw [if_pos rfl]
    simpa using h
  | false => 
    rw [if_neg (by simp)]
    refine BoolOp_one (lam_name hk hlb (by decide) hn (v := .bool y) (by simp [abM]) ?_)
    simpa using h
theorem lam_ne {pa pb po : Pos} (hk : scope.kind = .function) (hla : scope.names.lookup (Str.ofString "a") = some .local) (hlb : scope.names.lookup (Str.ofString "b") = some .local) (hn : s.heap.Ns L (abM x y)) (h : Q (.bool (x != y)) s) :
    wpAny (model prog w) A (eval (.Compare (.Name (Str.ofString "a") pa) [.NotEq] [.Name (Str.ofString "b") pb] po) (envX qual scope L f cd [])) Q E s := by
  refine wpAny_Compare1 (lam_name hk hla (by decide) hn (v := .bool x) (by simp (decide := true) [abM]) ?_)
  refine lam_name hk hlb (by decide) hn (v := .bool y) (by simp [abM]) ?_
  exact ne_bool h
end
end Mine
namespace Mine
open PySem PySem.W PySem.Spec PySem.Calls PyProof.Rows
set_option maxRecDepth 100000
def LamIs (w : World) (f : Addr) (fo : Obj) (c0 c1 c2 : Addr) (op : Bool → Bool → Bool) : Prop :=
  ∀ {p : Program} {loose : List Str} {mean : ExcName → Option Value} {mg mb : Str → Option Value} {dp un : Nat} {gd : Option (List Code)} {cn : Str} {cs : Scope} {a : Addr} {ccd : Value} {cl : List (Str × Addr)} {outer : List Env} {A₀ : Around} {base h₀ : Heap} {L : Addr} {m : Str → Option Value} {s : Shared} {Q E : Value → Shared → Prop} (x y : Bool),
    Cx w p loose mean mg mb dp un cs outer A₀ base h₀ L m s 3 → s.heap.get? f = some fo → Full s.heap c0 c1 c2 → RetB h₀ L m s Q (op x y) →
    wpAny (model PR w) (ktrTop dp un gd cn cs L a ccd cl outer) (call (.ref f) [.bool x, .bool y]) Q E s
theorem news_pick {h₀ h : Heap} {L : Addr} {news r : List (Addr × Obj)} {p : Addr × Obj} (N : News h₀ L h news) (hp : p ∈ news) (R : News h₀ L h r) : News h₀ L h (p :: r) := by
  intro q hq
  rcases List.mem_cons.mp hq with rfl | hq
  · exact N _ hp
  · exact R _ hq
theorem codeRec_get {h : Heap} {c : Addr} {oc : Obj} {vs : Array Value} {q : Str} {t : Tok} (e : h.get? c = some oc) (d : oc.data = .fields vs) (v : vs[1]? = some (.str q t)) : h.CodeRec (.ref c) q := ⟨c, oc, vs, t, rfl, e, d, v⟩
inductive JMid (w : World) (g : Heap) (L' : Addr) (mm : Str → Option Value) (s0 : Shared) (o1 o3 o4 : Obj) (op : Bool → Bool → Bool) (fl : Flow) (s' : Shared) : Prop
  | mk (efl : fl = .next) (h' : Heap) (tk : Nat) (f : Addr) (oc : Value) (od : Option Addr) (fd : FuncData) (sl : Array (Option Value)) (o2 : Obj) (e0 e1 e2 : Addr) (x0 x1 x2 : Obj) (c0 c1 c2 : Addr) (es : s' = { s0 with heap := h', toks := tk }) (F : Fr g L' h' mm)
    (N : News g L' h' [(L' + 1 + 1 + 1 + 1, o1), (L' + 1 + 1 + 1, o2), (L' + 1 + 1, o3), (L' + 1, o4), (f, ⟨oc, od, .func fd, sl⟩), (e0, x0), (e1, x1), (e2, x2), (265, tabObj (tab3 c0 c1 c2))]) (d : o2.data = .cell (some (.ref f)))
    (l : @LT.lt Nat _ (L' + 1 + 1 + 1 + 1) f ∧ @LT.lt Nat _ (L' + 1 + 1 + 1 + 1) e0 ∧ @LT.lt Nat _ (L' + 1 + 1 + 1 + 1) e1 ∧ @LT.lt Nat _ (L' + 1 + 1 + 1 + 1) e2)
    (full : ∀ h : Heap, g.StaysIn h → h.get? e0 = some x0 → h.get? e1 = some x1 → h.get? e2 = some x2 → Full h c0 c1 c2) (lam : LamIs w f ⟨oc, od, .func fd, sl⟩ c0 c1 c2 op) : JMid w g L' mm s0 o1 o3 o4 op fl s'
abbrev RetJ (h₀ : Heap) (L : Addr) (m : Str → Option Value) (s : Shared) (Q : Value → Shared → Prop) (x : Bool × List Int) : Prop :=
  ∀ v ps' h' tk', Fr h₀ L h' m → Stay1 s.heap h' → News h₀ L h' [(265, tabObj ps')] → TabIs h' ps' → NumH h' v x → Q v { s with heap := h', toks := tk' }
end Mine
namespace Mine
open PySem PySem.W PySem.Spec PySem.Calls PyProof.Rows
set_option maxRecDepth 100000
theorem News.nil' {h₀ h : Heap} {L : Addr} : News h₀ L h [] := News.nil
theorem JMid.of {w : World} {g h' : Heap} {L' : Addr} {mm : Str → Option Value} {s0 : Shared} {o1 o2 o3 o4 : Obj} {op : Bool → Bool → Bool} {tk : Nat} {news : List (Addr × Obj)} {f e0 e1 e2 c0 c1 c2 : Addr} {oc : Value} {od : Option Addr} {fd : FuncData} {sl : Array (Option Value)} {x0 x1 x2 : Obj}
    (F : Fr g L' h' mm) (N : News g L' h' news) (m1 : (L' + 1 + 1 + 1 + 1, o1) ∈ news) (m2 : (L' + 1 + 1 + 1, o2) ∈ news) (d : o2.data = .cell (some (.ref f))) (m3 : (L' + 1 + 1, o3) ∈ news) (m4 : (L' + 1, o4) ∈ news) (mf : (f, (⟨oc, od, .func fd, sl⟩ : Obj)) ∈ news)
    (mt : (265, tabObj (tab3 c0 c1 c2)) ∈ news) (me0 : (e0, x0) ∈ news) (me1 : (e1, x1) ∈ news) (me2 : (e2, x2) ∈ news)
    (l : @LT.lt Nat _ (L' + 1 + 1 + 1 + 1) f ∧ @LT.lt Nat _ (L' + 1 + 1 + 1 + 1) e0 ∧ @LT.lt Nat _ (L' + 1 + 1 + 1 + 1) e1 ∧ @LT.lt Nat _ (L' + 1 + 1 + 1 + 1) e2)
    (full : ∀ h : Heap, g.StaysIn h → h.get? e0 = some x0 → h.get? e1 = some x1 → h.get? e2 = some x2 → Full h c0 c1 c2) (lam : LamIs w f ⟨oc, od, .func fd, sl⟩ c0 c1 c2 op) :
    JMid w g L' mm s0 o1 o3 o4 op .next { s0 with heap := h', toks := tk } :=
  ⟨rfl, h', tk, f, oc, od, fd, sl, o2, e0, e1, e2, x0, x1, x2, c0, c1, c2, rfl, F,
    news_pick N m1 (news_pick N m2 (news_pick N m3 (news_pick N m4 (news_pick N mf (news_pick N me0 (news_pick N me1 (news_pick N me2 (news_pick N mt News.nil)))))))), d, l, full, lam⟩
theorem JMid.nest {w : World} {g h' : Heap} {L' : Addr} {mm : Str → Option Value} {s0 : Shared} {o1 o2 o3 o4 : Obj} {op : Bool → Bool → Bool} {tk : Nat} {news : List (Addr × Obj)} {f c0 c1 c2 : Addr} {oc : Value} {od : Option Addr} {fd : FuncData} {sl : Array (Option Value)} {x0 x1 x2 : Obj} {v0 v1 v2 : Array Value} {t0 t1 t2 : Tok}
    (F : Fr g L' h' mm) (N : News g L' h' news) (m1 : (L' + 1 + 1 + 1 + 1, o1) ∈ news) (m2 : (L' + 1 + 1 + 1, o2) ∈ news) (d : o2.data = .cell (some (.ref f))) (m3 : (L' + 1 + 1, o3) ∈ news) (m4 : (L' + 1, o4) ∈ news) (mf : (f, (⟨oc, od, .func fd, sl⟩ : Obj)) ∈ news)
    (mt : (265, tabObj (tab3 c0 c1 c2)) ∈ news) (me0 : (c0, x0) ∈ news) (me1 : (c1, x1) ∈ news) (me2 : (c2, x2) ∈ news)
    (d0 : x0.data = .fields v0) (d1 : x1.data = .fields v1) (d2 : x2.data = .fields v2) (q0 : v0[1]? = some (.str qLam t0)) (q1 : v1[1]? = some (.str qLam t1)) (q2 : v2[1]? = some (.str qLam t2))
    (l : @LT.lt Nat _ 265 L' ∧ @LT.lt Nat _ (L' + 1 + 1 + 1 + 1) f ∧ @LT.lt Nat _ (L' + 1 + 1 + 1 + 1) c0 ∧ @LT.lt Nat _ (L' + 1 + 1 + 1 + 1) c1 ∧ @LT.lt Nat _ (L' + 1 + 1 + 1 + 1) c2)
    (lam : LamIs w f ⟨oc, od, .func fd, sl⟩ c0 c1 c2 op) :
    JMid w g L' mm s0 o1 o3 o4 op .next { s0 with heap := h', toks := tk } :=
  have ne : ∀ c : Addr, @LT.lt Nat _ (L' + 1 + 1 + 1 + 1) c → c ≠ 265 := fun c hc e => by
    have := l.1; subst e; omega
  JMid.of F N m1 m2 d m3 m4 mf mt me0 me1 me2 l.2 (fun h _ a b c => ⟨codeRec_get a d0 q0, ne _ l.2.2.1, codeRec_get b d1 q1, ne _ l.2.2.2.1, codeRec_get c d2 q2, ne _ l.2.2.2.2⟩) lam
theorem JMid.hit {w : World} {g h' : Heap} {L' : Addr} {mm : Str → Option Value} {s0 : Shared} {o1 o2 o3 o4 : Obj} {op : Bool → Bool → Bool} {tk : Nat} {news : List (Addr × Obj)} {f c0 c1 c2 : Addr} {oc : Value} {od : Option Addr} {fd : FuncData} {sl : Array (Option Value)}
    (F : Fr g L' h' mm) (N : News g L' h' news) (m1 : (L' + 1 + 1 + 1 + 1, o1) ∈ news) (m2 : (L' + 1 + 1 + 1, o2) ∈ news) (d : o2.data = .cell (some (.ref f))) (m3 : (L' + 1 + 1, o3) ∈ news) (m4 : (L' + 1, o4) ∈ news) (mf : (f, (⟨oc, od, .func fd, sl⟩ : Obj)) ∈ news)
    (mt : (265, tabObj (tab3 c0 c1 c2)) ∈ news) (a : Full g c0 c1 c2) (l : @LT.lt Nat _ (L' + 1 + 1 + 1 + 1) f)
    (lam : LamIs w f ⟨oc, od, .func fd, sl⟩ c0 c1 c2 op) :
    JMid w g L' mm s0 o1 o3 o4 op .next { s0 with heap := h', toks := tk } :=
  JMid.of F N m1 m2 d m3 m4 mf mt mf mf mf ⟨l, l, l, l⟩ (fun h k _ _ _ => a.stay (Stay1.of k)) lam
end Mine
namespace Mine
open PySem PySem.W PySem.Spec PySem.Calls PyProof.Rows
theorem newsGet {h₀ h : Heap} {L a : Addr} {o : Obj} {news : List (Addr × Obj)} (N : News h₀ L h news) (hm : (a, o) ∈ news) : h.get? a = some o := (N _ hm).1
theorem frStays {h₀ h : Heap} {L : Addr} {m : Str → Option Value} (F : Fr h₀ L h m) : h₀.StaysIn h := F.keep
end Mine
namespace Mine
open PySem PySem.W PySem.Spec PySem.Calls PyProof.Rows
theorem retJ {h₀ h' g : Heap} {L L' : Addr} {m m' : Str → Option Value} {s : Shared} {Q : Value → Shared → Prop} {news : List (Addr × Obj)} {tk' : Nat} {x : Bool × List Int} {b : Bool} {t l c0 c1 c2 : Addr} {vs : List Value} {ns : List Int} {n n' : Nat} (ret : RetJ h₀ L m s Q x) (F : Fr h₀ L h' m) (ST : Stay1 s.heap g) (F' : Fr g L' h' m') (N : News h₀ L h' news)
    (ht : (t, ({ cls := .type "tuple", data := .seq #[.bool b, .ref l] n } : Obj)) ∈ news) (hl : (l, listOf vs.toArray n') ∈ news) (m0 : (265, tabObj (tab3 c0 c1 c2)) ∈ news) (hi : IntsAre vs ns) (full : Full h' c0 c1 c2) (e : (b, ns) = x) : Q (.ref t) { s with heap := h', toks := tk' } := by
  subst e
  exact ret _ _ h' tk' F (ST.trans (Stay1.of F'.keep)) (news_pick N m0 News.nil) (.full full) (numH_news N ht hl hi)
end Mine
namespace Mine
open PySem PySem.W PySem.Spec PySem.Calls PyProof.Rows
abbrev RetJT (h₀ : Heap) (L : Addr) (m : Str → Option Value) (s : Shared) (Q : Value → Shared → Prop) (x : Bool × List Int) : Prop :=
  ∀ t l vs n n' ps' h' tk', Fr h₀ L h' m → Stay1 s.heap h' → News h₀ L h' [(t, ({ cls := .type "tuple", data := .seq #[.bool x.1, .ref l] n } : Obj)), (l, listOf (List.toArray vs) n'), (265, tabObj ps')] → TabIs h' ps' → IntsAre vs x.2 → Q (.ref t) { s with heap := h', toks := tk' }
theorem RetJ.toT {h₀ : Heap} {L : Addr} {m : Str → Option Value} {s : Shared} {Q : Value → Shared → Prop} {x : Bool × List Int} (r : RetJ h₀ L m s Q x) : RetJT h₀ L m s Q x :=
  fun t _ _ _ _ ps' h' tk' F S N T I => r (.ref t) ps' h' tk' F S (fun p hp => N p (.tail _ (.tail _ hp))) T (numH_newsX N (.head _) (.tail _ (.head _)) I)
theorem retJT {h₀ h' g : Heap} {L L' : Addr} {m m' : Str → Option Value} {s : Shared} {Q : Value → Shared → Prop} {news : List (Addr × Obj)} {tk' : Nat} {x : Bool × List Int} {b : Bool} {t l c0 c1 c2 : Addr} {vs : List Value} {ns : List Int} {n n' : Nat} (ret : RetJT h₀ L m s Q x) (F : Fr h₀ L h' m) (ST : Stay1 s.heap g) (F' : Fr g L' h' m') (N : News h₀ L h' news)
    (ht : (t, ({ cls := .type "tuple", data := .seq #[.bool b, .ref l] n } : Obj)) ∈ news) (hl : (l, listOf vs.toArray n') ∈ news) (m0 : (265, tabObj (tab3 c0 c1 c2)) ∈ news) (hi : IntsAre vs ns) (full : Full h' c0 c1 c2) (e : (b, ns) = x) : Q (.ref t) { s with heap := h', toks := tk' } := by
  subst e
  exact ret _ _ _ _ _ _ h' tk' F (ST.trans (Stay1.of F'.keep)) (news_pick N ht (news_pick N hl (news_pick N m0 News.nil))) (.full full) hi
end Mine
namespace Mine
open PySem PySem.W PySem.Spec PySem.Calls PyProof.Rows
section
variable {h₀ h' g : Heap} {L L' : Addr} {m m' : Str → Option Value} {s : Shared} {Q : Value → Shared → Prop} {news : List (Addr × Obj)} {tk' : Nat} {x : Bool × List Int} {v : Value} {ps : Array Value}
theorem retJ2 (ret : RetJ h₀ L m s Q x) (F : Fr h₀ L h' m) (ST : Stay1 s.heap g) (F' : Fr g L' h' m') (N : News h₀ L h' news) (m0 : (265, tabObj ps) ∈ news) (tab : TabIs g ps) (hx : NumH h' v x) : Q v { s with heap := h', toks := tk' } :=
  ret v ps h' tk' F (ST.trans (Stay1.of F'.keep)) (news_pick N m0 News.nil) (tab.stay (Stay1.of F'.keep)) hx
theorem numH_half {t l : Addr} {b : Bool} {n : Nat} {vs : List Value} {ns : List Int} (F' : Fr g L' h' m') (N : News h₀ L h' news) (h1 : (t, ({ cls := .type "tuple", data := .seq #[.bool b, .ref l] n } : Obj)) ∈ news) (h2 : g.IsList l vs.toArray) (h3 : IntsAre vs ns) : NumH h' (.ref t) (b, ns) := by
  obtain ⟨o, e1, e2⟩ := h2
  exact NumH.mk (x := (b, ns)) (News.isTup N h1) ⟨o, F'.keep _ _ e1, e2⟩ h3
end
theorem due_len {P : List Int} {f : Int → Bool} {c : Bool} {n : Int} (hP : P.length < 2 ^ 13) : (List.map (fun a => a) (List.filter f P)).length + (List.replicate (if c = true then (1 : Int) else 0).toNat [n]).flatten.length ≤ sizeLine := by
  have := List.length_filter_le f P
  rw [sizeLine_eq, List.length_map]
  cases c <;> simp <;> omega
theorem due_len' {P : List Int} {f : Int → Bool} {c : Bool} {n : Int} (hP : P.length < 2 ^ 13) : (List.map (fun a => a) (List.filter f P) ++ (List.replicate (if c = true then (1 : Int) else 0).toNat [n]).flatten).length < 2 ^ 20 := by
  have := due_len (f := f) (c := c) (n := n) hP
  have h2 := List.length_filter_le f P
  rw [List.length_append, List.length_map]
  cases c <;> simp <;> omega
theorem due_perm {X ns : List Int} {c : Bool} {n : Int} (h : ns.Perm (List.map (fun a => a) X ++ (List.replicate (if c = true then (1 : Int) else 0).toNat [n]).flatten)) : ns.Perm (X ++ if c = true then [n] else []) := by
  cases c <;> simpa using h
theorem due_small {n : Nat} {b : Bool} (hn : n < 2 ^ 10) : Builtin.Range.small 0 ((n : Int) * if b = true then 1 else 0) 1 = true := by
  refine small_one (by omega) (by omega) ?_ ?_ <;> cases b <;> simp <;> omega
theorem due_size {n : Nat} {b : Bool} : Builtin.Range.rangeSize 0 ((n : Int) * if b = true then 1 else 0) 1 = ((if b = true then n else 0 : Nat) : Int) := by
  rw [rangeSize_nat]
  cases b <;> simp
theorem due_z {n : Nat} {b : Bool} (hn : n < 2 ^ 10) : (if b = true then n else 0) ≤ 2 ^ 24 := by cases b <;> simp; omega
theorem due_len7 {P : List Int} {n : Nat} {b : Bool} (hn : n < 2 ^ 10) (hP : P.length < 2 ^ 13) : (rangeKs 0 (if b = true then n else 0)).length + (List.map (fun a : Int => a + (n : Int)) P).length ≤ sizeLine := by
  rw [rangeKs_length, List.length_map, sizeLine_eq]
  cases b <;> simp <;> omega
end Mine
namespace Mine
open PySem PySem.W PySem.Spec PySem.Calls PyProof.Rows
theorem list_itemK {prog : Program} {w : World} {A : Around} {E : Value → Shared → Prop} {s : Shared} {h₀ : Heap} {L l : Addr} {news : List (Addr × Obj)} {Q : Value → Shared → Prop} {value slice : PySem.Expr} {items : Array Value} {n : Nat} {k : Int} {u : Tok} {x : Value}
    (N : News h₀ L s.heap news) (hm : (l, listOf items n) ∈ news) (h0 : 0 ≤ k) (hfit : k < 2 ^ 63) (hx : items[k.toNat]? = some x) (h : Q x s)
    (hs : subscripted slice false (.ref l) (.int k u) = operate [.ref l, .int k u] (getItem (.ref l) (.int k u)) := by with_unfolding_all rfl) : wpAny (model prog w) A (subscriptTail value slice (.ref l) (.int k u)) Q E s := by
  have hl : s.heap.IsList l items := ⟨_, (N _ hm).1, rfl, n, rfl⟩
  exact tail_any hl.typeIs slot_list_getitem.lookup (wpAny_getItem_list hl h0 hfit hx h) hs
end Mine
namespace Mine
open PySem PyProof.Rows
def gallopP : Bool → Keyed → Array Keyed → Nat → Nat → Nat → StateT SortSt Sem (Option Nat) := sortPriv% PySem.Builtin.gallop
def mergeLoP : Array Keyed → Array Keyed → StateT SortSt Sem (Array Keyed) := sortPriv% PySem.Builtin.mergeLo
def mergeHiP : Array Keyed → Array Keyed → StateT SortSt Sem (Array Keyed) := sortPriv% PySem.Builtin.mergeHi
def IntK (p : Keyed) : Prop := ∃ n t, p.1 = .int n t
def AllK (a : Array Keyed) : Prop := ∀ p, p ∈ a → IntK p
section
variable {prog : Program} {w : World} {A : Around} {E : Value → Shared → Prop} {s : Shared}
theorem wpS_ltP {st : SortSt} {x y : Keyed} {Q : Option Bool → SortSt → Prop} (hk : kindOf st = oneType') (hx : IntK x) (hy : IntK y) (h : ∀ b, Q (some b) st) :
    wpS (model prog w) A E s (lt' x y) Q st := by
  obtain ⟨a, t, ha⟩ := hx
  obtain ⟨b, u, hb⟩ := hy
  rw [lt'_eq]
  refine wpS_bind (wpS_get ?_)
  rw [hk, keyLt'_oneType, ha, hb]
  exact wpS_bind (wpS_lift (wpAny_attempt (oneLt_int ⟨rfl, wpS_pure (h _)⟩)))
theorem wpS_elemP {st : SortSt} {a : Array Keyed} {i : Nat} {Q : Keyed → SortSt → Prop} (hi : i < a.size) (h : ∀ p, p ∈ a → a[i]? = some p → Q p st) : wpS (model prog w) A E s (elem' a i) Q st := by
  rw [elem'_eq]
  have e : a[i]? = some a[i] := getElem?_pos a i hi
  rw [e]
  exact wpS_pure (h _ (Array.getElem_mem hi) e)
theorem wpS_beyond {st : SortSt} {left : Bool} {key : Keyed} {arr : Array Keyed} {i : Nat} {Q : Option Bool → SortSt → Prop} (hk : kindOf st = oneType') (hkey : IntK key) (ha : AllK arr) (hi : i < arr.size) (h : ∀ b, Q (some b) st) :
    wpS (model prog w) A E s (do let x ← elem' arr i; if left = true then lt' x key else do let r ← lt' key x; pure (Option.map (fun x => !x) r)) Q st := by
  refine wpS_bind (wpS_elemP hi fun p hp _ => ?_)
  cases left with
  | true =>
    rw [if_pos rfl]
    exact wpS_ltP hk (ha _ hp) hkey h
  | false =>
    rw [if_neg (by simp)]
    exact wpS_bind (wpS_ltP hk hkey (ha _ hp) fun b => wpS_pure (h _))

theorem forR {ρ β γ : Type} {a b : Nat} {f : Nat → Option ρ × β → StateT SortSt Sem (ForInStep (Option ρ × β))} {g : Option ρ × β → StateT SortSt Sem γ} {Q : γ → SortSt → Prop} {st : SortSt} {x : β}
    (I : Nat → β → SortSt → Prop) (Js : ρ → SortSt → Prop) (Jn : β → SortSt → Prop) (h0 : I a x st) (hend : ∀ y st', I (max a b) y st' → Jn y st')
    (hs : ∀ r y st', Js r st' → wpS (model prog w) A E s (g (some r, y)) Q st') (hn : ∀ y st', Jn y st' → wpS (model prog w) A E s (g (none, y)) Q st')
    (hstep : ∀ i y st' Q', (∀ r z st'', Js r st'' → Q' (.done (some r, z)) st'') → (∀ z st'', Jn z st'' → Q' (.done (none, z)) st'') → (∀ z st'', I (i + 1) z st'' → Q' (.yield (none, z)) st'') →
      a ≤ i → i < b → I i y st' → wpS (model prog w) A E s (f i (none, y)) Q' st') : wpS (model prog w) A E s (forIn [a:b] (none, x) f >>= g) Q st := by
  refine wpS_bind (wpS_mono (wpS_forRange (I := fun i c st' => c.1 = none ∧ I i c.2 st') (Q := fun c st' => (∃ r, c.1 = some r ∧ Js r st') ∨ (c.1 = none ∧ Jn c.2 st')) ?_ (fun c st' z => .inr ⟨z.1, hend _ _ z.2⟩) ⟨rfl, h0⟩) ?_)
  · rintro i ⟨c1, y⟩ st' h1 h2 ⟨hc, hI⟩
    cases (hc : c1 = none)
    exact hstep i y st' _ (fun r z st'' j => .inl ⟨r, rfl, j⟩) (fun z st'' j => .inr ⟨rfl, j⟩) (fun z st'' j => ⟨rfl, j⟩) h1 h2 hI
  · rintro ⟨c1, y⟩ st' (⟨r, hc, j⟩ | ⟨hc, j⟩)
    · cases (hc : c1 = some r)
      exact hs r y st' j
    · cases (hc : c1 = none)
      exact hn y st' j
theorem wpS_ite {α : Type} {x y : StateT SortSt Sem α} {Q : α → SortSt → Prop} {st : SortSt} {c : Prop} [Decidable c] (h1 : c → wpS (model prog w) A E s x Q st) (h2 : ¬c → wpS (model prog w) A E s y Q st) : wpS (model prog w) A E s (if c then x else y) Q st := by
  by_cases h : c
  · rw [if_pos h]; exact h1 h
  · rw [if_neg h]; exact h2 h
theorem wpS_gen {α : Type} {m : StateT SortSt Sem α} {Q : α → SortSt → Prop} {st : SortSt} (P : SortSt → Prop) (hp : P st) (h : ∀ st', P st' → wpS (model prog w) A E s m Q st') : wpS (model prog w) A E s m Q st := h st hp
theorem wpS_jp2 {α : Type} {Q : α → SortSt → Prop} {st : SortSt} {c : Prop} [Decidable c] {x y : Nat} (jp : Unit → Nat → StateT SortSt Sem α) (H : ∀ u g, wpS (model prog w) A E s (jp u g) Q st) : wpS (model prog w) A E s (if c then jp () x else jp () y) Q st := by split <;> apply H
theorem nb {x y : Nat} (h : ¬(x == y) = true) : x ≠ y := fun e => h (by simp [e])
theorem wpS_gallopP {st : SortSt} {left : Bool} {key : Keyed} {arr : Array Keyed} {base n hint : Nat} {Q : Option Nat → SortSt → Prop} (hk : kindOf st = oneType') (hkey : IntK key) (ha : AllK arr) (hn : base + n ≤ arr.size) (hh : hint < n)
    (h : ∀ k, k ≤ n → Q (some k) st) : wpS (model prog w) A E s (gallopP left key arr base n hint) Q st := by
  unfold gallopP
  have fin : ∀ (g : Option (Option Nat) × Nat × Nat → StateT SortSt Sem (Option Nat)) (f : Nat → Option (Option Nat) × Nat × Nat → StateT SortSt Sem (ForInStep (Option (Option Nat) × Nat × Nat))) (lo hi : Nat), (∀ y, g (none, y) = pure (some y.2)) →
      (∀ i y Q', (∀ z : Nat × Nat, z.2 ≤ n → Q' (.done (none, z)) st) → (∀ z : Nat × Nat, z.2 ≤ n → Q' (.yield (none, z)) st) → y.2 ≤ n → wpS (model prog w) A E s (f i (none, y)) Q' st) → hi ≤ n → wpS (model prog w) A E s (forIn [0:n] (none, lo, hi) f >>= g) Q st := by
    intro g f lo hi hg hf hle
    refine forR (fun _ y st' => st' = st ∧ y.2 ≤ n) (fun _ _ => False) (fun y st' => st' = st ∧ y.2 ≤ n) ⟨rfl, hle⟩ (fun _ _ z => z) (fun _ _ _ z => z.elim) (fun y st' z => ?_) (fun i y st' Q' _ d e _ _ z => ?_)
    · rw [hg, z.1]
      exact wpS_pure (h _ z.2)
    · rw [z.1]
      exact hf i y Q' (fun z q => d z st ⟨rfl, q⟩) (fun z q => e z st ⟨rfl, q⟩) z.2
  have mid : ∀ lo hi : Nat, ¬lo ≥ hi → hi ≤ n → lo + (hi - lo) / 2 ≤ n ∧ base + (lo + (hi - lo) / 2) < arr.size := by
    intro lo hi h1 h2
    clear h fin
    omega
  refine wpS_bind (wpS_beyond hk hkey ha (by omega) fun right => ?_)
  cases right with
  | true =>
    refine forR (fun _ _ st' => st' = st) (fun _ _ => False) (fun _ st' => st' = st) rfl (fun _ _ z => z) (fun _ _ _ z => z.elim) (fun y st' z => ?_) (fun i y st' Q' _ d e _ _ z => ?_)
    · rw [z]
      refine fin _ _ _ _ (fun _ => rfl) (fun i y Q' d e z => wpS_ite (fun _ => wpS_pure (d _ z)) fun g => wpS_bind (wpS_beyond hk hkey ha (mid _ _ g z).2 fun b => ?_)) ?_
      · cases b
        · exact wpS_pure (e (y.1, y.1 + (y.2 - y.1) / 2) (mid _ _ g z).1)
        · exact wpS_pure (e (y.1 + (y.2 - y.1) / 2 + 1, y.2) z)
      · show hint + min y.2 (n - hint) ≤ n
        omega
    · rw [z]
      refine wpS_ite (fun _ => wpS_pure (d _ _ rfl)) fun g => wpS_bind (wpS_beyond hk hkey ha (show base + (hint + y.2) < arr.size by have g' : ¬ y.2 ≥ n - hint := g; omega) fun b => ?_)
      cases b
      · exact wpS_pure (d _ _ rfl)
      · exact wpS_pure (e _ _ rfl)
  | false =>
    refine forR (fun _ _ st' => st' = st) (fun _ _ => False) (fun _ st' => st' = st) rfl (fun _ _ z => z) (fun _ _ _ z => z.elim) (fun y st' z => ?_) (fun i y st' Q' _ d e _ _ z => ?_)
    · rw [z]
      refine fin _ _ _ _ (fun _ => rfl) (fun i y Q' d e z => wpS_ite (fun _ => wpS_pure (d _ z)) fun g => wpS_bind (wpS_beyond hk hkey ha (mid _ _ g z).2 fun b => ?_)) ?_
      · cases b
        · exact wpS_pure (e (y.1, y.1 + (y.2 - y.1) / 2) (mid _ _ g z).1)
        · exact wpS_pure (e (y.1 + (y.2 - y.1) / 2 + 1, y.2) z)
      · show hint - y.1 ≤ n
        omega
    · rw [z]
      refine wpS_ite (fun _ => wpS_pure (d _ _ rfl)) fun g => wpS_bind (wpS_beyond hk hkey ha (show base + (hint - y.2) < arr.size by omega) fun b => ?_)
      cases b
      · exact wpS_pure (e _ _ rfl)
      · exact wpS_pure (d _ _ rfl)
end
end Mine
namespace Mine
open PySem PyProof.Rows
structure Same (st st' : SortSt) : Prop where
  kind : kindOf st' = kindOf st
  arr : arrOf st' = arrOf st
  pend : pendingOf st' = pendingOf st
  failed : failedOf st' = failedOf st
theorem Same.rfl {st : SortSt} : Same st st := ⟨_root_.rfl, _root_.rfl, _root_.rfl, _root_.rfl⟩
def Cov (a b out : Array Keyed) (ia ib : Nat) : Prop := (out.toList ++ (a.toList.drop ia ++ b.toList.drop ib)).Perm (a.toList ++ b.toList)
def RetOk (a b r : Array Keyed) : Prop := r.toList.Perm (a.toList ++ b.toList)
section
variable {a b out : Array Keyed} {ia ib : Nat}
theorem drop_get {x : Array Keyed} {i : Nat} {p : Keyed} (e : x[i]? = some p) : x.toList.drop i = p :: x.toList.drop (i + 1) := by
  have e' : x.toList[i]? = some p := by rw [Array.getElem?_toList]; exact e
  obtain ⟨h, e2⟩ := List.getElem?_eq_some_iff.mp e'
  rw [List.drop_eq_getElem_cons h, e2]
theorem Cov.pushA {p : Keyed} (c : Cov a b out ia ib) (e : a[ia]? = some p) : Cov a b (out.push p) (ia + 1) ib := by
  unfold Cov at c ⊢
  rw [drop_get e] at c
  rw [Array.toList_push, List.append_assoc]
  exact c
theorem Cov.pushB {p : Keyed} (c : Cov a b out ia ib) (e : b[ib]? = some p) : Cov a b (out.push p) ia (ib + 1) := by
  unfold Cov at c ⊢
  rw [drop_get e] at c
  rw [Array.toList_push, List.append_assoc]
  refine List.Perm.trans ?_ c
  refine List.Perm.append_left _ ?_
  show (p :: (List.drop ia a.toList ++ List.drop (ib + 1) b.toList)).Perm _
  exact List.perm_middle.symm
theorem extract_list (x : Array Keyed) (i k : Nat) : (x.extract i (i + k)).toList = (x.toList.drop i).take k := by
  simp
theorem extract_all (x : Array Keyed) (i : Nat) : (x.extract i).toList = x.toList.drop i := by
  simp only [Array.toList_extract, List.extract_eq_take_drop]
  exact List.take_of_length_le (by simp)
theorem Cov.appA (k : Nat) (c : Cov a b out ia ib) : Cov a b (out ++ a.extract ia (ia + k)) (ia + k) ib := by
  unfold Cov at c ⊢
  rw [Array.toList_append, extract_list, List.append_assoc, ← List.append_assoc (List.take k _), ← List.drop_drop, List.take_append_drop]
  exact c
theorem Cov.appB (k : Nat) (c : Cov a b out ia ib) : Cov a b (out ++ b.extract ib (ib + k)) ia (ib + k) := by
  unfold Cov at c ⊢
  rw [Array.toList_append, extract_list, List.append_assoc]
  refine List.Perm.trans (List.Perm.append_left _ ?_) c
  rw [← List.append_assoc]
  refine List.Perm.trans (List.Perm.append_right _ List.perm_append_comm) ?_
  rw [List.append_assoc, ← List.drop_drop, List.take_append_drop]
theorem Cov.fin (c : Cov a b out ia ib) : RetOk a b (out ++ a.extract ia ++ b.extract ib) := by
  unfold Cov at c
  unfold RetOk
  have e1 : (a.extract ia).toList = a.toList.drop ia := extract_all a ia
  have e2 : (b.extract ib).toList = b.toList.drop ib := extract_all b ib
  rw [Array.toList_append, Array.toList_append, e1, e2, List.append_assoc]
  exact c
theorem Cov.last (c : Cov a b out ia ib) : RetOk a b (out ++ b.extract ib ++ a.extract ia) := by
  unfold Cov at c
  unfold RetOk
  have e1 : (a.extract ia).toList = a.toList.drop ia := extract_all a ia
  have e2 : (b.extract ib).toList = b.toList.drop ib := extract_all b ib
  rw [Array.toList_append, Array.toList_append, e1, e2, List.append_assoc]
  exact (List.Perm.append_left _ List.perm_append_comm).trans c
theorem Cov.size (c : Cov a b out ia ib) : out.size + ((a.size - ia) + (b.size - ib)) = a.size + b.size := by
  have := c.length_eq
  simpa using this
structure Run (a b : Array Keyed) (n : Nat) (out : Array Keyed) (ia ib : Nat) : Prop where
  ha : ia + 1 < a.size
  hb : ib < b.size
  len : n ≤ out.size
  cov : Cov a b out ia ib
theorem Run.mono {n n' : Nat} (r : Run a b n out ia ib) (h : n' ≤ n) : Run a b n' out ia ib := ⟨r.ha, r.hb, Nat.le_trans h r.len, r.cov⟩
theorem Run.over (r : Run a b (max 0 (a.size + b.size) + 1) out ia ib) : False := by
  have := r.cov.size
  have := r.len
  have := r.ha
  have := r.hb
  clear r
  omega
theorem Run.goB {n : Nat} {p : Keyed} (r : Run a b n out ia ib) (e : b[ib]? = some p) (g : ¬(ib + 1 == b.size) = true) : Run a b (n + 1) (out.push p) ia (ib + 1) :=
  ⟨r.ha, Nat.lt_of_le_of_ne r.hb (nb g), by rw [Array.size_push]; exact Nat.succ_le_succ r.len, r.cov.pushB e⟩
theorem Run.goA {n : Nat} {p : Keyed} (r : Run a b n out ia ib) (e : a[ia]? = some p) (g : ¬(ia + 1 + 1 == a.size) = true) : Run a b (n + 1) (out.push p) (ia + 1) ib :=
  ⟨Nat.lt_of_le_of_ne r.ha (nb g), r.hb, by rw [Array.size_push]; exact Nat.succ_le_succ r.len, r.cov.pushA e⟩
theorem Run.appA {n k : Nat} (r : Run a b n out ia ib) (hk : k ≤ a.size - ia) (g1 : ¬(ia + k + 1 == a.size) = true) (g2 : ¬(ia + k == a.size) = true) : Run a b n (out ++ a.extract ia (ia + k)) (ia + k) ib :=
  ⟨by have := nb g1; have := nb g2; have := r.ha; clear r g1 g2; omega, r.hb, Nat.le_trans r.len (by rw [Array.size_append]; exact Nat.le_add_right _ _), r.cov.appA k⟩
theorem Run.appB {n k : Nat} (r : Run a b n out ia ib) (hk : k ≤ b.size - ib) (g : ¬(ib + k == b.size) = true) : Run a b n (out ++ b.extract ib (ib + k)) ia (ib + k) :=
  ⟨r.ha, by have := nb g; have := r.hb; clear r g; omega, Nat.le_trans r.len (by rw [Array.size_append]; exact Nat.le_add_right _ _), r.cov.appB k⟩
end
section
variable {prog : Program} {w : World} {A : Around} {E : Value → Shared → Prop} {s : Shared}
theorem wpS_mergeLoP {a b : Array Keyed} {st : SortSt} {Q : Array Keyed → SortSt → Prop} (hk : kindOf st = oneType') (ka : AllK a) (kb : AllK b) (ha : 1 ≤ a.size) (hb : 1 ≤ b.size)
    (h : ∀ r st', Same st st' → RetOk a b r → Q r st') : wpS (model prog w) A E s (mergeLoP a b) Q st := by
  unfold mergeLoP
  refine wpS_bind (wpS_lift (wpAny_rule ⟨rfl, ?_⟩))
  refine wpS_bind (wpS_elemP hb fun p hp e => ?_)
  have c0 : Cov a b #[p] 0 1 := Cov.pushB (out := #[]) (List.Perm.refl _) e
  clear e hp
  refine wpS_ite (c := (1 == b.size) = true) (fun _ => wpS_pure (h _ _ Same.rfl c0.fin)) fun h1 => ?_
  refine wpS_ite (c := (0 + 1 == a.size) = true) (fun _ => wpS_pure (h _ _ Same.rfl c0.last)) fun h2 => ?_
  have r0 : Run a b 1 #[p] 0 1 := ⟨Nat.lt_of_le_of_ne ha (nb h2), Nat.lt_of_le_of_ne hb (nb h1), Nat.le_refl 1, c0⟩
  have hT : 1 ≤ max 0 (a.size + b.size) := by clear h r0 c0 h1 h2; omega
  clear h1 h2 c0 ha hb
  refine wpS_bind (wpS_get ?_)
  refine forR (fun x y st' => Same st st' ∧ Run a b (x + 1) y.1 y.2.1 y.2.2.1) (fun r st' => Same st st' ∧ RetOk a b r) (fun _ _ => False) ⟨Same.rfl, r0⟩ (fun _ _ z => z.2.over) (fun r y st' j => wpS_pure (h _ _ j.1 j.2)) (fun _ _ z => z.elim) ?_
  clear h r0
  intro x y st1 Q1 q1 _ q3 _ _ hI
  clear p
  refine forR (fun i z st' => Same st st' ∧ Run a b (x + 1 + i) z.1 z.2.1 z.2.2.1) (fun r st' => Same st st' ∧ RetOk a b r) (fun z st' => Same st st' ∧ Run a b (x + 2) z.1 z.2.1 z.2.2.1) hI (fun _ _ z => ⟨z.1, z.2.mono (Nat.add_le_add_left hT (x + 1))⟩) (fun r y st' j => wpS_pure (q1 _ _ _ j)) ?gal ?lin
  case lin =>
    clear q1 q3 hI
    intro i y st2 Q2 d1 d2 d3 _ _ hI
    have hS := hI.1
    have hr := hI.2
    refine wpS_bind (wpS_elemP hr.hb fun pb hpb eb => ?_)
    refine wpS_bind (wpS_elemP (Nat.lt_of_succ_lt hr.ha) fun pa hpa ea => ?_)
    refine wpS_bind (wpS_ltP (hS.kind.trans hk) (kb _ hpb) (ka _ hpa) fun bw => ?_)
    clear hpa hpb ea eb
    refine wpS_ite (c := bw = true) (fun _ => ?_) fun _ => ?_
    · refine wpS_bind (wpS_elemP hr.hb fun pb _ eb => ?_)
      refine wpS_ite (fun _ => wpS_pure (d1 _ _ _ ⟨hS, (hr.cov.pushB eb).fin⟩)) fun g1 => ?_
      have r1 := hr.goB eb g1
      exact wpS_ite (fun _ => wpS_pure (d2 _ _ ⟨hS, r1.mono (Nat.succ_le_succ (Nat.le_add_right (x + 1) i))⟩)) fun _ => wpS_pure (d3 _ _ ⟨hS, r1⟩)
    · refine wpS_bind (wpS_elemP (Nat.lt_of_succ_lt hr.ha) fun pa _ ea => ?_)
      refine wpS_ite (fun _ => wpS_pure (d1 _ _ _ ⟨hS, (hr.cov.pushA ea).last⟩)) fun g1 => ?_
      have r1 := hr.goA ea g1
      exact wpS_ite (fun _ => wpS_pure (d2 _ _ ⟨hS, r1.mono (Nat.succ_le_succ (Nat.le_add_right (x + 1) i))⟩)) fun _ => wpS_pure (d3 _ _ ⟨hS, r1⟩)
  case gal =>
    clear hI
    intro z0 st2 hI
    refine wpS_bind (wpS_lift (wpAny_rule ⟨rfl, ?_⟩))
    refine forR (fun i z st' => Same st st' ∧ Run a b (x + 2) z.1 z.2.1 z.2.2.1) (fun r st' => Same st st' ∧ RetOk a b r) (fun z st' => Same st st' ∧ Run a b (x + 2) z.1 z.2.1 z.2.2.1) hI (fun _ _ z => z) (fun r y st' j => wpS_pure (q1 _ _ _ j)) (fun y st' j => wpS_bind (wpS_modify (wpS_pure (q3 _ _ ⟨⟨j.1.kind, j.1.arr, j.1.pend, j.1.failed⟩, j.2⟩)))) ?_
    clear q1 q3 hI hT
    intro i y st3 Q3 d1 d2 d3 _ _ hI
    have hr := hI.2
    extract_lets s1 out1 s2 ia1 s3 ib1 s4 mg1 s5 ac1 bc1 ib2 jp mg2
    refine wpS_jp2 jp (fun u g => ?_)
    refine wpS_bind (wpS_modify ?_)
    refine wpS_gen (fun st' => Same st st') ⟨hI.1.kind, hI.1.arr, hI.1.pend, hI.1.failed⟩ fun st4 hS4 => ?_
    have hk4 : kindOf st4 = oneType' := hS4.kind.trans hk
    clear hI u
    refine wpS_bind (wpS_elemP hr.hb fun pb hpb eb => ?_)
    refine wpS_bind (wpS_gallopP hk4 (kb _ hpb) ka (Nat.le_of_eq (Nat.add_sub_cancel' (Nat.le_of_succ_le (Nat.le_of_succ_le hr.ha)))) (Nat.sub_pos_of_lt (Nat.lt_of_succ_lt hr.ha)) fun k hkle => ?_)
    clear hpb eb pb
    dsimp -zeta only
    extract_lets ac2 jp2 out2 ia2
    have H2 : ∀ u out' ia', Run a b (x + 2) out' ia' ib1 → wpS (model prog w) A E s (jp2 u out' ia') Q3 st4 := by
      clear hr hkle
      intro u out' ia' rA
      refine wpS_bind (wpS_elemP rA.hb fun pb2 _ eb2 => ?_)
      refine wpS_ite (fun _ => wpS_pure (d1 _ _ _ ⟨hS4, (rA.cov.pushB eb2).fin⟩)) fun q3 => ?_
      have rB := rA.goB eb2 q3
      refine wpS_bind (wpS_elemP (Nat.lt_of_succ_lt rB.ha) fun pa hpa ea => ?_)
      refine wpS_bind (wpS_gallopP hk4 (ka _ hpa) kb (Nat.le_of_eq (Nat.add_sub_cancel' (Nat.le_of_succ_le rB.hb))) (Nat.sub_pos_of_lt rB.hb) fun k2 hk2le => ?_)
      clear eb2 hpa ea pa rA q3
      dsimp -zeta only
      extract_lets bc3 iaN jp3 out3 ib3
      have H3 : ∀ u o2 i2, Run a b (x + 3) o2 ia' i2 → wpS (model prog w) A E s (jp3 u o2 i2) Q3 st4 := by
        clear rB hk2le
        intro u o2 i2 rD
        refine wpS_bind (wpS_elemP (Nat.lt_of_succ_lt rD.ha) fun pa2 _ ea2 => ?_)
        refine wpS_ite (fun _ => wpS_pure (d1 _ _ _ ⟨hS4, (rD.cov.pushA ea2).last⟩)) fun q5 => ?_
        have rE := (rD.goA ea2 q5).mono (Nat.le_add_right (x + 2) 2)
        exact wpS_ite (fun _ => wpS_pure (d2 _ _ ⟨hS4, rE⟩)) fun _ => wpS_pure (d3 _ _ ⟨hS4, rE⟩)
      clear_value jp3
      refine wpS_ite (fun _ => ?_) (fun _ => H3 _ _ _ rB)
      exact wpS_ite (fun _ => wpS_pure (d1 _ _ _ ⟨hS4, (rB.cov.appB k2).fin⟩)) fun q4 => H3 _ _ _ (rB.appB hk2le q4)
    clear_value jp2
    refine wpS_ite (fun _ => ?_) (fun _ => H2 _ _ _ hr)
    refine wpS_ite (fun _ => wpS_pure (d1 _ _ _ ⟨hS4, (hr.cov.appA k).last⟩)) fun q1 => ?_
    exact wpS_ite (fun _ => wpS_pure (d1 _ _ _ ⟨hS4, (hr.cov.appA k).fin⟩)) fun q2 => H2 _ _ _ (hr.appA hkle q1 q2)
end
end Mine
namespace Mine
open PySem PyProof.Rows
def CovH (a b out : Array Keyed) (na nb : Nat) : Prop := (out.toList ++ (a.toList.take na ++ b.toList.take nb)).Perm (a.toList ++ b.toList)
section
variable {a b out : Array Keyed} {na nb : Nat}
theorem take_get {x : Array Keyed} {i : Nat} {p : Keyed} (e : x[i]? = some p) : x.toList.take (i + 1) = x.toList.take i ++ [p] := by
  have e' : x.toList[i]? = some p := by rw [Array.getElem?_toList]; exact e
  rw [List.take_add_one, e']; rfl
theorem CovH.pushA {p : Keyed} (c : CovH a b out (na + 1) nb) (e : a[na]? = some p) : CovH a b (out.push p) na nb := by
  unfold CovH at c ⊢
  rw [take_get e] at c
  rw [Array.toList_push, List.append_assoc]
  refine List.Perm.trans (List.Perm.append_left _ ?_) c
  rw [List.append_assoc]
  show (p :: (List.take na a.toList ++ List.take nb b.toList)).Perm (List.take na a.toList ++ (p :: List.take nb b.toList))
  exact List.perm_middle.symm
theorem CovH.pushB {p : Keyed} (c : CovH a b out na (nb + 1)) (e : b[nb]? = some p) : CovH a b (out.push p) na nb := by
  unfold CovH at c ⊢
  rw [take_get e] at c
  rw [Array.toList_push, List.append_assoc]
  refine List.Perm.trans (List.Perm.append_left _ ?_) c
  rw [← List.append_assoc (List.take na a.toList)]
  exact List.perm_append_comm
theorem take_split {x : Array Keyed} {i n : Nat} (h : i ≤ n) : x.toList.take n = x.toList.take i ++ (x.extract i n).toList := by
  have e : (x.extract i n).toList = (x.toList.drop i).take (n - i) := by simp
  rw [e]
  obtain ⟨k, rfl⟩ := Nat.exists_eq_add_of_le h
  rw [List.take_add, Nat.add_sub_cancel_left]
theorem CovH.appA {i : Nat} (h : i ≤ na) (c : CovH a b out na nb) : CovH a b (out ++ (a.extract i na).reverse) i nb := by
  unfold CovH at c ⊢
  rw [take_split h] at c
  rw [Array.toList_append, Array.toList_reverse, List.append_assoc]
  refine List.Perm.trans (List.Perm.append_left _ ?_) c
  rw [← List.append_assoc]
  exact List.Perm.append_right _ (List.perm_append_comm.trans (List.Perm.append_left _ (List.reverse_perm _)))
theorem CovH.appB {i : Nat} (h : i ≤ nb) (c : CovH a b out na nb) : CovH a b (out ++ (b.extract i nb).reverse) na i := by
  unfold CovH at c ⊢
  rw [take_split h] at c
  rw [Array.toList_append, Array.toList_reverse, List.append_assoc]
  refine List.Perm.trans (List.Perm.append_left _ ?_) c
  rw [← List.append_assoc (List.take na a.toList)]
  exact List.perm_append_comm.trans (List.Perm.append_left _ (List.reverse_perm _))
theorem extract_zero (x : Array Keyed) (n : Nat) : (x.extract 0 n).toList = x.toList.take n := by simp
theorem CovH.fin (c : CovH a b out na nb) : RetOk a b (a.extract 0 na ++ b.extract 0 nb ++ out.reverse) := by
  unfold CovH at c
  unfold RetOk
  rw [Array.toList_append, Array.toList_append, extract_zero, extract_zero, Array.toList_reverse]
  exact (List.perm_append_comm.trans (List.Perm.append_right _ (List.reverse_perm _))).trans c
theorem CovH.last (c : CovH a b out na nb) : RetOk a b (b.extract 0 nb ++ a.extract 0 na ++ out.reverse) := by
  unfold CovH at c
  unfold RetOk
  rw [Array.toList_append, Array.toList_append, extract_zero, extract_zero, Array.toList_reverse]
  exact (List.perm_append_comm.trans (List.Perm.append (List.reverse_perm _) List.perm_append_comm)).trans c
theorem CovH.size (c : CovH a b out na nb) (ha : na ≤ a.size) (hb : nb ≤ b.size) : out.size + (na + nb) = a.size + b.size := by
  have := c.length_eq
  simp only [List.length_append, List.length_take, Array.length_toList] at this
  omega
structure RunH (a b : Array Keyed) (n : Nat) (out : Array Keyed) (na nb : Nat) : Prop where
  a1 : 1 ≤ na
  ha : na ≤ a.size
  b2 : 2 ≤ nb
  hb : nb ≤ b.size
  len : n ≤ out.size
  cov : CovH a b out na nb
theorem RunH.mono {n n' : Nat} (r : RunH a b n out na nb) (h : n' ≤ n) : RunH a b n' out na nb := ⟨r.a1, r.ha, r.b2, r.hb, Nat.le_trans h r.len, r.cov⟩
theorem CovH.predA {p : Keyed} (c : CovH a b out na nb) (h : 1 ≤ na) (e : a[na - 1]? = some p) : CovH a b (out.push p) (na - 1) nb := by
  obtain ⟨k, rfl⟩ : ∃ k, na = k + 1 := ⟨na - 1, by omega⟩
  exact CovH.pushA c e
theorem CovH.predB {p : Keyed} (c : CovH a b out na nb) (h : 1 ≤ nb) (e : b[nb - 1]? = some p) : CovH a b (out.push p) na (nb - 1) := by
  obtain ⟨k, rfl⟩ : ∃ k, nb = k + 1 := ⟨nb - 1, by omega⟩
  exact CovH.pushB c e
theorem RunH.over (r : RunH a b (max 0 (a.size + b.size) + 1) out na nb) : False := by
  have := r.cov.size r.ha r.hb
  have := r.len
  have := r.a1
  clear r
  omega
theorem RunH.goB {n : Nat} {p : Keyed} (r : RunH a b n out na nb) (e : b[nb - 1]? = some p) (g : ¬(nb - 1 == 1) = true) : RunH a b (n + 1) (out.push p) na (nb - 1) :=
  ⟨r.a1, r.ha, by have := Mine.nb g; have := r.b2; clear r e g; omega, Nat.le_trans (Nat.sub_le _ _) r.hb, by rw [Array.size_push]; exact Nat.succ_le_succ r.len, r.cov.predB (Nat.le_of_succ_le r.b2) e⟩
theorem RunH.goA {n : Nat} {p : Keyed} (r : RunH a b n out na nb) (e : a[na - 1]? = some p) (g : ¬(na - 1 == 0) = true) : RunH a b (n + 1) (out.push p) (na - 1) nb :=
  ⟨Nat.pos_of_ne_zero (Mine.nb g), Nat.le_trans (Nat.sub_le _ _) r.ha, r.b2, r.hb, by rw [Array.size_push]; exact Nat.succ_le_succ r.len, r.cov.predA r.a1 e⟩
theorem RunH.appA {n i : Nat} (r : RunH a b n out na nb) (h : i ≤ na) (g : ¬(i == 0) = true) : RunH a b n (out ++ (a.extract i na).reverse) i nb :=
  ⟨Nat.pos_of_ne_zero (Mine.nb g), Nat.le_trans h r.ha, r.b2, r.hb, Nat.le_trans r.len (by rw [Array.size_append]; exact Nat.le_add_right _ _), r.cov.appA h⟩
theorem RunH.appB {n i : Nat} (r : RunH a b n out na nb) (h : i ≤ nb) (g1 : ¬(i == 1) = true) (g2 : ¬(i == 0) = true) : RunH a b n (out ++ (b.extract i nb).reverse) na i :=
  ⟨r.a1, r.ha, by have := Mine.nb g1; have := Mine.nb g2; clear r g1 g2 h; omega, Nat.le_trans h r.hb, Nat.le_trans r.len (by rw [Array.size_append]; exact Nat.le_add_right _ _), r.cov.appB h⟩
theorem pred_lt {x y : Nat} (h1 : 1 ≤ x) (h2 : x ≤ y) : x - 1 < y := Nat.lt_of_lt_of_le (Nat.sub_lt h1 Nat.one_pos) h2
end
section
variable {prog : Program} {w : World} {A : Around} {E : Value → Shared → Prop} {s : Shared}
theorem wpS_mergeHiP {a b : Array Keyed} {st : SortSt} {Q : Array Keyed → SortSt → Prop} (hk : kindOf st = oneType') (ka : AllK a) (kb : AllK b) (ha : 1 ≤ a.size) (hb : 1 ≤ b.size)
    (h : ∀ r st', Same st st' → RetOk a b r → Q r st') : wpS (model prog w) A E s (mergeHiP a b) Q st := by
  unfold mergeHiP
  refine wpS_bind (wpS_lift (wpAny_rule ⟨rfl, ?_⟩))
  refine wpS_bind (wpS_elemP (pred_lt ha (Nat.le_refl _)) fun p hp e => ?_)
  have c0 : CovH a b #[p] (a.size - 1) b.size := CovH.predA (out := #[]) (by unfold CovH; rw [List.take_of_length_le (by simp), List.take_of_length_le (by simp)]; exact List.Perm.refl _) ha e
  clear e hp
  refine wpS_ite (c := (a.size - 1 == 0) = true) (fun _ => wpS_pure (h _ _ Same.rfl c0.fin)) fun h1 => ?_
  refine wpS_ite (c := (b.size == 1) = true) (fun _ => wpS_pure (h _ _ Same.rfl c0.last)) fun h2 => ?_
  have r0 : RunH a b 1 #[p] (a.size - 1) b.size := ⟨Nat.pos_of_ne_zero (nb h1), Nat.sub_le _ _, Nat.lt_of_le_of_ne hb (Ne.symm (nb h2)), Nat.le_refl _, Nat.le_refl 1, c0⟩
  have hT : 1 ≤ max 0 (a.size + b.size) := by clear h r0 c0 h1 h2; omega
  clear h1 h2 c0 ha hb
  refine wpS_bind (wpS_get ?_)
  refine forR (fun x y st' => Same st st' ∧ RunH a b (x + 1) y.2.2.1 y.1 y.2.1) (fun r st' => Same st st' ∧ RetOk a b r) (fun _ _ => False) ⟨Same.rfl, r0⟩ (fun _ _ z => z.2.over) (fun r y st' j => wpS_pure (h _ _ j.1 j.2)) (fun _ _ z => z.elim) ?_
  clear h r0
  intro x y st1 Q1 q1 _ q3 _ _ hI
  clear p
  refine forR (fun i z st' => Same st st' ∧ RunH a b (x + 1 + i) z.2.2.1 z.1 z.2.1) (fun r st' => Same st st' ∧ RetOk a b r) (fun z st' => Same st st' ∧ RunH a b (x + 2) z.2.2.1 z.1 z.2.1) hI (fun _ _ z => ⟨z.1, z.2.mono (Nat.add_le_add_left hT (x + 1))⟩) (fun r y st' j => wpS_pure (q1 _ _ _ j)) ?gal ?lin
  case lin =>
    clear q1 q3 hI
    intro i y st2 Q2 d1 d2 d3 _ _ hI
    have hS := hI.1
    have hr := hI.2
    refine wpS_bind (wpS_elemP (pred_lt (Nat.le_of_succ_le hr.b2) hr.hb) fun pb hpb eb => ?_)
    refine wpS_bind (wpS_elemP (pred_lt hr.a1 hr.ha) fun pa hpa ea => ?_)
    refine wpS_bind (wpS_ltP (hS.kind.trans hk) (kb _ hpb) (ka _ hpa) fun aw => ?_)
    clear hpa hpb ea eb
    refine wpS_ite (c := aw = true) (fun _ => ?_) fun _ => ?_
    · refine wpS_bind (wpS_elemP (pred_lt hr.a1 hr.ha) fun pa _ ea => ?_)
      refine wpS_ite (fun _ => wpS_pure (d1 _ _ _ ⟨hS, (hr.cov.predA hr.a1 ea).fin⟩)) fun g1 => ?_
      have r1 := hr.goA ea g1
      exact wpS_ite (fun _ => wpS_pure (d2 _ _ ⟨hS, r1.mono (Nat.succ_le_succ (Nat.le_add_right (x + 1) i))⟩)) fun _ => wpS_pure (d3 _ _ ⟨hS, r1⟩)
    · refine wpS_bind (wpS_elemP (pred_lt (Nat.le_of_succ_le hr.b2) hr.hb) fun pb _ eb => ?_)
      refine wpS_ite (fun _ => wpS_pure (d1 _ _ _ ⟨hS, (hr.cov.predB (Nat.le_of_succ_le hr.b2) eb).last⟩)) fun g1 => ?_
      have r1 := hr.goB eb g1
      exact wpS_ite (fun _ => wpS_pure (d2 _ _ ⟨hS, r1.mono (Nat.succ_le_succ (Nat.le_add_right (x + 1) i))⟩)) fun _ => wpS_pure (d3 _ _ ⟨hS, r1⟩)
  case gal =>
    clear hI
    intro z0 st2 hI
    refine wpS_bind (wpS_lift (wpAny_rule ⟨rfl, ?_⟩))
    refine forR (fun i z st' => Same st st' ∧ RunH a b (x + 2) z.2.2.1 z.1 z.2.1) (fun r st' => Same st st' ∧ RetOk a b r) (fun z st' => Same st st' ∧ RunH a b (x + 2) z.2.2.1 z.1 z.2.1) hI (fun _ _ z => z) (fun r y st' j => wpS_pure (q1 _ _ _ j)) (fun y st' j => wpS_bind (wpS_modify (wpS_pure (q3 _ _ ⟨⟨j.1.kind, j.1.arr, j.1.pend, j.1.failed⟩, j.2⟩)))) ?_
    clear q1 q3 hI hT
    intro i y st3 Q3 d1 d2 d3 _ _ hI
    have hr := hI.2
    extract_lets s1 na1 s2 nb1 s3 out1 s4 mg1 s5 ac1 bc1 nb2 jp mg2
    refine wpS_jp2 jp (fun u g => ?_)
    refine wpS_bind (wpS_modify ?_)
    refine wpS_gen (fun st' => Same st st') ⟨hI.1.kind, hI.1.arr, hI.1.pend, hI.1.failed⟩ fun st4 hS4 => ?_
    have hk4 : kindOf st4 = oneType' := hS4.kind.trans hk
    clear hI u
    refine wpS_bind (wpS_elemP (pred_lt (Nat.le_of_succ_le hr.b2) hr.hb) fun pb hpb eb => ?_)
    refine wpS_bind (wpS_gallopP hk4 (kb _ hpb) ka ((Nat.zero_add _).symm ▸ hr.ha) (pred_lt hr.a1 (Nat.le_refl _)) fun i hile => ?_)
    clear hpb eb pb
    dsimp -zeta only
    extract_lets k1 ac2 jp2 out2 na2
    have H2 : ∀ u na' out', RunH a b (x + 2) out' na' nb1 → wpS (model prog w) A E s (jp2 u na' out') Q3 st4 := by
      clear hr hile
      intro u na' out' rA
      refine wpS_bind (wpS_elemP (pred_lt (Nat.le_of_succ_le rA.b2) rA.hb) fun pb2 _ eb2 => ?_)
      refine wpS_ite (fun _ => wpS_pure (d1 _ _ _ ⟨hS4, (rA.cov.predB (Nat.le_of_succ_le rA.b2) eb2).last⟩)) fun q3 => ?_
      have rB := rA.goB eb2 q3
      refine wpS_bind (wpS_elemP (pred_lt rB.a1 rB.ha) fun pa hpa ea => ?_)
      refine wpS_bind (wpS_gallopP hk4 (ka _ hpa) kb ((Nat.zero_add _).symm ▸ rB.hb) (pred_lt (Nat.le_of_succ_le rB.b2) (Nat.le_refl _)) fun j hjle => ?_)
      clear eb2 hpa ea pa rA q3
      dsimp -zeta only
      extract_lets k2 bc2 NX jp3 out3 nb3
      have H3 : ∀ u i2 o2, RunH a b (x + 3) o2 na' i2 → wpS (model prog w) A E s (jp3 u i2 o2) Q3 st4 := by
        clear rB hjle
        intro u i2 o2 rD
        refine wpS_bind (wpS_elemP (pred_lt rD.a1 rD.ha) fun pa2 _ ea2 => ?_)
        refine wpS_ite (fun _ => wpS_pure (d1 _ _ _ ⟨hS4, (rD.cov.predA rD.a1 ea2).fin⟩)) fun q6 => ?_
        have rE := (rD.goA ea2 q6).mono (Nat.le_add_right (x + 2) 2)
        exact wpS_ite (fun _ => wpS_pure (d2 _ _ ⟨hS4, rE⟩)) fun _ => wpS_pure (d3 _ _ ⟨hS4, rE⟩)
      clear_value jp3
      refine wpS_ite (fun _ => ?_) (fun _ => H3 _ _ _ rB)
      refine wpS_ite (fun _ => wpS_pure (d1 _ _ _ ⟨hS4, (rB.cov.appB hjle).last⟩)) fun q4 => ?_
      exact wpS_ite (fun _ => wpS_pure (d1 _ _ _ ⟨hS4, (rB.cov.appB hjle).fin⟩)) fun q5 => H3 _ _ _ (rB.appB hjle q4 q5)
    clear_value jp2
    refine wpS_ite (fun _ => ?_) (fun _ => H2 _ _ _ hr)
    exact wpS_ite (fun _ => wpS_pure (d1 _ _ _ ⟨hS4, (hr.cov.appA hile).fin⟩)) fun q1 => H2 _ _ _ (hr.appA hile q1)
end
end Mine
namespace Mine
open PySem PyProof.Rows
structure SP (a₀ : Array Keyed) (st : SortSt) : Prop where
  perm : (arrOf st).Perm a₀
  kind : kindOf st = oneType'
  failed : failedOf st = none
theorem SP.size {a₀ : Array Keyed} {st : SortSt} (h : SP a₀ st) : (arrOf st).size = a₀.size := h.perm.size_eq
theorem SP.keys {a₀ : Array Keyed} {st : SortSt} (h : SP a₀ st) (h0 : AllK a₀) : AllK (arrOf st) := fun p hp => h0 p (by
  have := (Array.perm_iff_toList_perm.mp h.perm).mem_iff (a := p)
  simpa using this.mp (by simpa using hp))
theorem SP.setArr {a₀ : Array Keyed} {st : SortSt} (h : SP a₀ st) {xs : Array Keyed} (hp : xs.Perm (arrOf st)) : SP a₀ (setArr st xs) := ⟨hp.trans h.perm, h.kind, h.failed⟩
section
variable {prog : Program} {w : World} {A : Around} {E : Value → Shared → Prop} {s : Shared} {a₀ : Array Keyed}
theorem wpS_ltAtP {st : SortSt} {i j : Nat} {Q : Option Bool → SortSt → Prop} (hS : SP a₀ st) (h0 : AllK a₀) (hi : i < a₀.size) (hj : j < a₀.size) (h : ∀ b, Q (some b) st) :
    wpS (model prog w) A E s (ltAt' i j) Q st := by
  rw [ltAt'_eq]
  refine wpS_bind (wpS_get ?_)
  refine wpS_bind (wpS_elemP (by rw [hS.size]; exact hi) fun p hp _ => wpS_bind (wpS_elemP (by rw [hS.size]; exact hj) fun q hq _ => ?_))
  exact wpS_ltP hS.kind (hS.keys h0 p hp) (hS.keys h0 q hq) h
theorem wpS_revP {st : SortSt} {i j : Nat} {Q : Unit → SortSt → Prop} (hS : SP a₀ st) (h : ∀ st', SP a₀ st' → pendingOf st' = pendingOf st → Q () st') : wpS (model prog w) A E s (reverseSlice' i j) Q st := by
  rw [reverseSlice'_eq]
  exact wpS_modify (h _ (hS.setArr (mirror_perm _ _ _ _)) rfl)
theorem wpS_moveP {st : SortSt} {i j : Nat} {Q : Unit → SortSt → Prop} (hS : SP a₀ st) (h : ∀ st', SP a₀ st' → pendingOf st' = pendingOf st → Q () st') : wpS (model prog w) A E s (moveDown' i j) Q st := by
  rw [moveDown'_eq]
  exact wpS_modify (h _ (hS.setArr (bubble_perm _ _ _)) rfl)
theorem wpS_binarySortP {st : SortSt} {lo n ok : Nat} {Q : Bool → SortSt → Prop} (hS : SP a₀ st) (h0 : AllK a₀) (hn : lo + n ≤ a₀.size)
    (h : ∀ st', SP a₀ st' → pendingOf st' = pendingOf st → Q true st') : wpS (model prog w) A E s (binarySort' lo n ok) Q st := by
  unfold binarySort'
  refine wpS_bind (wpS_mono (wpS_forRange (I := fun _ c st' => c = (none, ()) ∧ SP a₀ st' ∧ pendingOf st' = pendingOf st) (Q := fun c st' => c = (none, ()) ∧ SP a₀ st' ∧ pendingOf st' = pendingOf st) ?step (fun _ _ z => z) ⟨rfl, hS, rfl⟩) ?post)
  case post =>
    rintro c st' ⟨rfl, hS', hp⟩
    exact wpS_pure (h st' hS' hp)
  case step =>
    rintro k c st1 hk1 hk2 ⟨rfl, hS1, hp1⟩
    refine wpS_bind (wpS_mono (wpS_forRange (I := fun _ c st' => st' = st1 ∧ c.1 = none ∧ c.2.2 ≤ k) (Q := fun c st' => st' = st1 ∧ c.1 = none ∧ c.2.2 ≤ k) ?istep (fun _ _ z => z) ⟨rfl, rfl, Nat.le_refl _⟩) ?ipost)
    case istep =>
      rintro x ⟨c1, l, r⟩ st2 _ _ ⟨rfl, hc, hr⟩
      dsimp only at hc hr ⊢
      by_cases g : l ≥ r
      · rw [if_pos g]; exact wpS_pure ⟨rfl, rfl, hr⟩
      · rw [if_neg g]
        refine wpS_bind (wpS_ltAtP hS1 h0 (by omega) (by omega) fun b => ?_)
        cases b
        · exact wpS_pure ⟨rfl, rfl, hr⟩
        · exact wpS_pure ⟨rfl, rfl, by show (l + r) / 2 ≤ k; omega⟩
    case ipost =>
      rintro ⟨c1, l, r⟩ st2 ⟨rfl, hc, hr⟩
      dsimp only at hc ⊢
      subst hc
      dsimp only
      exact wpS_bind (wpS_moveP hS1 fun st3 hS3 hp3 => wpS_pure ⟨rfl, hS3, hp3.trans hp1⟩)
structure SQ (a₀ : Array Keyed) (st0 st : SortSt) : Prop where
  sp : SP a₀ st
  pe : pendingOf st = pendingOf st0
theorem wpS_countRunP {st : SortSt} {lo nrem : Nat} {Q : Option Nat → SortSt → Prop} (hS : SP a₀ st) (h0 : AllK a₀) (hn : lo + nrem ≤ a₀.size) (h1 : 1 ≤ nrem)
    (h : ∀ m st', SP a₀ st' → pendingOf st' = pendingOf st → 1 ≤ m → m ≤ nrem → Q (some m) st') : wpS (model prog w) A E s (countRun' lo nrem) Q st := by
  unfold countRun'
  have lt1 : ∀ x, x < nrem → lo + x < a₀.size := fun x hx => Nat.lt_of_lt_of_le (Nat.add_lt_add_left hx lo) hn
  have lt2 : ∀ x, x < nrem → lo + x - 1 < a₀.size := fun x hx => Nat.lt_of_le_of_lt (Nat.sub_le _ _) (lt1 x hx)
  refine forR (fun x y st' => SQ a₀ st st' ∧ y = x) (fun _ _ => False) (fun y st' => SQ a₀ st st' ∧ 1 ≤ y ∧ y ≤ nrem) ⟨⟨hS, rfl⟩, rfl⟩ (fun y _ z => ⟨z.1, by rw [z.2]; exact Nat.le_max_left _ _, by rw [z.2]; exact Nat.max_le.mpr ⟨h1, Nat.le_refl _⟩⟩) (fun _ _ _ z => z.elim) (fun y st1 hJ => ?_) (fun x y st1 Q' _ d3 d4 hx1 hx2 hI => ?_)
  · refine wpS_ite (c := (y == nrem) = true) (fun _ => wpS_pure (h _ _ hJ.1.sp hJ.1.pe hJ.2.1 hJ.2.2)) fun g => ?_
    have hlt : y < nrem := Nat.lt_of_le_of_ne hJ.2.2 (nb g)
    clear g
    dsimp -zeta only
    extract_lets n1 neq jp
    have H : ∀ u st2, SQ a₀ st st2 → wpS (model prog w) A E s (jp u) Q st2 := by
      clear hJ
      intro u st2 hQ
      refine wpS_bind (wpS_lift (wpAny_rule ⟨rfl, ?_⟩))
      refine forR (fun x z st' => SQ a₀ st st' ∧ z.1 = x) (fun _ _ => False) (fun z st' => SQ a₀ st st' ∧ 1 ≤ z.1 ∧ z.1 ≤ nrem) ⟨hQ, rfl⟩ (fun y _ z => ⟨z.1, by rw [z.2]; exact Nat.le_trans (Nat.le_add_left 1 _) (Nat.le_max_left _ _), by rw [z.2]; exact Nat.max_le.mpr ⟨hlt, Nat.le_refl _⟩⟩) (fun _ _ _ z => z.elim) (fun z st3 hJ => ?_) (fun x z st3 Q' _ d3 d4 hx1 hx2 hI => ?_)
      · extract_lets r2 sn2 n2 q2 jp2
        have H2 : ∀ u st4, SQ a₀ st st4 → wpS (model prog w) A E s (jp2 u) Q st4 := by
          intro u st4 hQ
          refine wpS_bind (wpS_revP hQ.sp fun st5 s5 p5 => ?_)
          refine forR (fun x y st' => SQ a₀ st st' ∧ y = max z.1 x) (fun _ _ => False) (fun y st' => SQ a₀ st st' ∧ 1 ≤ y ∧ y ≤ nrem) ⟨⟨s5, p5.trans hQ.pe⟩, (Nat.max_self _).symm⟩ (fun y _ w => ⟨w.1, by rw [w.2]; exact Nat.le_trans hJ.2.1 (Nat.le_max_left _ _), by rw [w.2]; exact Nat.max_le.mpr ⟨hJ.2.2, Nat.max_le.mpr ⟨hJ.2.2, Nat.le_refl _⟩⟩⟩) (fun _ _ _ z => z.elim) (fun y st6 hJ => wpS_pure (h _ _ hJ.1.sp hJ.1.pe hJ.2.1 hJ.2.2)) (fun x y st6 Q' _ d3 d4 hx1 hx2 hI => ?_)
          have ey : y = x := hI.2.trans (Nat.max_eq_right hx1)
          refine wpS_bind (wpS_ltAtP hI.1.sp h0 (lt1 _ (ey ▸ hx2)) (lt2 _ (ey ▸ hx2)) fun b => ?_)
          cases b
          · exact wpS_pure (d4 _ _ ⟨hI.1, by rw [ey]; exact (Nat.max_eq_right (Nat.le_succ_of_le hx1)).symm⟩)
          · exact wpS_pure (d3 _ _ ⟨hI.1, ey ▸ Nat.le_trans hJ.2.1 hx1, ey ▸ Nat.le_of_lt hx2⟩)
        clear_value jp2
        exact wpS_ite (fun _ => wpS_bind (wpS_revP hJ.1.sp fun st4 s4 p4 => H2 _ _ ⟨s4, p4.trans hJ.1.pe⟩)) (fun _ => H2 _ _ hJ.1)
      · have hz : z.1 < nrem := hI.2 ▸ hx2
        have stp : ∀ q st', SQ a₀ st st' → Q' (.yield (none, z.1 + 1, q)) st' := fun q st' s => d4 _ _ ⟨s, congrArg (· + 1) hI.2⟩
        refine wpS_bind (wpS_ltAtP hI.1.sp h0 (lt1 _ hz) (lt2 _ hz) fun b => ?_)
        cases b
        · refine wpS_bind (wpS_ltAtP hI.1.sp h0 (lt2 _ hz) (lt1 _ hz) fun b2 => ?_)
          cases b2
          · exact wpS_pure (stp _ _ hI.1)
          · exact wpS_pure (d3 _ _ ⟨hI.1, hI.2 ▸ Nat.le_trans (Nat.le_add_left 1 y) hx1, Nat.le_of_lt hz⟩)
        · refine wpS_ite (c := true = true) (fun _ => ?_) (fun q => absurd rfl q)
          exact wpS_ite (fun _ => wpS_bind (wpS_revP hI.1.sp fun st4 s4 p4 => wpS_pure (stp _ _ ⟨s4, p4.trans hI.1.pe⟩))) (fun _ => wpS_pure (stp _ _ hI.1))
    clear_value jp
    refine wpS_ite (fun _ => ?_) (fun _ => H _ _ hJ.1)
    refine wpS_bind (wpS_ltAtP hJ.1.sp h0 (Nat.lt_of_lt_of_le (Nat.lt_of_le_of_lt (Nat.le_add_right lo 0) (Nat.add_lt_add_left (Nat.lt_of_lt_of_le Nat.one_pos h1) lo)) hn) (lt2 _ hlt) fun b => ?_)
    cases b
    · exact wpS_ite (c := false = true) (fun q => (nomatch q)) (fun _ => wpS_bind (wpS_revP hJ.1.sp fun st4 s4 p4 => H _ _ ⟨s4, p4.trans hJ.1.pe⟩))
    · exact wpS_ite (c := true = true) (fun _ => wpS_pure (h _ _ hJ.1.sp hJ.1.pe hJ.2.1 hJ.2.2)) (fun q => absurd rfl q)
  · refine wpS_bind (wpS_ltAtP hI.1.sp h0 (lt1 _ (hI.2 ▸ hx2)) (lt2 _ (hI.2 ▸ hx2)) fun b => ?_)
    cases b
    · exact wpS_pure (d4 _ _ ⟨hI.1, congrArg (· + 1) hI.2⟩)
    · exact wpS_pure (d3 _ _ ⟨hI.1, hI.2 ▸ hx1, hI.2 ▸ Nat.le_of_lt hx2⟩)
end
end Mine
namespace Mine
open PySem PyProof.Rows
theorem wb_list (sa : Nat) : ∀ (l : List Keyed) (j0 : Nat) (arr : Array Keyed), sa + j0 + l.length ≤ arr.size →
    ((l.zipIdx j0).foldl (fun (a : Array Keyed) (x : Keyed × Nat) => a.setIfInBounds (sa + x.2) x.1) arr).toList = arr.toList.take (sa + j0) ++ (l ++ arr.toList.drop (sa + j0 + l.length))
  | [], j0, arr, _ => by simp
  | p :: l, j0, arr, h => by
    rw [List.length_cons] at h
    rw [List.zipIdx_cons, List.foldl_cons, wb_list sa l (j0 + 1) _ (by rw [Array.size_setIfInBounds]; omega)]
    dsimp only
    have hl : sa + j0 < arr.toList.length := by simp; omega
    rw [Array.toList_setIfInBounds, show sa + (j0 + 1) = sa + j0 + 1 by omega, List.drop_set_of_lt (by omega), List.length_cons, show sa + j0 + 1 + l.length = sa + j0 + (l.length + 1) by omega]
    have e : (arr.toList.set (sa + j0) p).take (sa + j0 + 1) = arr.toList.take (sa + j0) ++ [p] := by
      rw [List.take_add_one, List.take_set_of_le (Nat.le_refl _), List.getElem?_set_self hl]
      rfl
    rw [e, List.append_assoc]
    rfl
theorem wpS_setP {M : Model} {A : Around} {E : Value → Shared → Prop} {s : Shared} {σ : Type} {st st' : σ} {Q : PUnit → σ → Prop} (h : Q ⟨⟩ st') : wpS M A E s (set st' : StateT σ Sem PUnit) Q st := by
  unfold wpS; rw [StateT.run_set]; exact wpAny_pure ⟨rfl, h⟩
structure PO (lim : Nat) (p : Array (Nat × Nat × Nat)) : Prop where
  one : ∀ (j : Nat) (x : Nat × Nat × Nat), p[j]? = some x → 1 ≤ x.2.1 ∧ x.1 + x.2.1 ≤ lim
  two : ∀ (j : Nat) (x y : Nat × Nat × Nat), p[j]? = some x → p[j + 1]? = some y → x.1 + x.2.1 ≤ y.1
theorem PO.nil {lim : Nat} : PO lim #[] := ⟨fun j x h => by simp at h, fun j x y h => by simp at h⟩
theorem PO.mono {lim lim' : Nat} {p : Array (Nat × Nat × Nat)} (h : PO lim p) (hl : lim ≤ lim') : PO lim' p := ⟨fun j x e => ⟨(h.one j x e).1, Nat.le_trans (h.one j x e).2 hl⟩, h.two⟩
theorem PO.push {lim n : Nat} {p : Array (Nat × Nat × Nat)} (h : PO lim p) (hn : 1 ≤ n) : PO (lim + n) (p.push (lim, n, 0)) := by
  refine ⟨fun j x e => ?_, fun j x y e e2 => ?_⟩
  · rw [Array.getElem?_push] at e
    by_cases g : j = p.size
    · rw [if_pos g] at e
      cases e
      exact ⟨hn, Nat.le_refl _⟩
    · rw [if_neg g] at e
      have := h.one j x e
      exact ⟨this.1, by omega⟩
  · rw [Array.getElem?_push] at e e2
    by_cases g2 : j + 1 = p.size
    · rw [if_pos g2] at e2
      rw [if_neg (by omega)] at e
      cases e2
      exact (h.one j x e).2
    · rw [if_neg g2] at e2
      by_cases g : j = p.size
      · have : p[j + 1]? = none := Array.getElem?_eq_none (by omega)
        rw [this] at e2; cases e2
      · rw [if_neg g] at e
        exact h.two j x y e e2
theorem po_get {p : Array (Nat × Nat × Nat)} {i : Nat} {v : Nat × Nat × Nat} (hi : i + 1 < p.size) (j : Nat) :
    ((p.setIfInBounds i v).eraseIdxIfInBounds (i + 1))[j]? = if j < i then p[j]? else if j = i then some v else p[j + 1]? := by
  rw [← Array.getElem?_toList]
  have e : ((p.setIfInBounds i v).eraseIdxIfInBounds (i + 1)).toList = (p.toList.set i v).eraseIdx (i + 1) := by simp
  rw [e, List.getElem?_eraseIdx, List.getElem?_set, List.getElem?_set]
  repeat' split
  all_goals first
    | rfl
    | (exfalso; omega)
    | (simp; done)
    | (exfalso; simp at *; omega)
theorem PO.merge {lim : Nat} {p : Array (Nat × Nat × Nat)} {i sa na pw sb nb q : Nat} (h : PO lim p) (hi : p[i]? = some (sa, na, pw)) (hj : p[i + 1]? = some (sb, nb, q)) :
    PO lim ((p.setIfInBounds i (sa, na + nb, pw)).eraseIdxIfInBounds (i + 1)) := by
  have hs : i + 1 < p.size := (Array.getElem?_eq_some_iff.mp hj).1
  have h1 := h.one _ _ hi
  have h2 := h.one _ _ hj
  have h3 := h.two _ _ _ hi hj
  dsimp only at h1 h2 h3
  refine ⟨fun j x e => ?_, fun j x y e e2 => ?_⟩
  · rw [po_get hs] at e
    split at e
    · exact h.one j x e
    · split at e
      · cases e; dsimp only; omega
      · exact h.one _ x e
  · rw [po_get hs] at e e2
    split at e
    · rename_i g
      by_cases g2 : j + 1 < i
      · rw [if_pos g2] at e2
        exact h.two j x y e e2
      · rw [if_neg g2, if_pos (by omega)] at e2
        cases e2
        have : p[j + 1]? = some (sa, na, pw) := by rw [show j + 1 = i by omega]; exact hi
        have t := h.two j x _ e this
        exact t
    · split at e
      · rename_i g
        cases e
        rw [if_neg (by omega), if_neg (by omega)] at e2
        have := h.two (i + 1) _ y hj (by rw [← g]; exact e2)
        dsimp only at this ⊢
        omega
      · rw [if_neg (by omega), if_neg (by omega)] at e2
        exact h.two (j + 1) x y e e2
theorem PO.repow {lim k pw : Nat} {p : Array (Nat × Nat × Nat)} (h : PO lim p) : PO lim (p.modify k fun (x : Nat × Nat × Nat) => (x.1, x.2.1, pw)) := by
  have key : ∀ (j : Nat) (y : Nat × Nat × Nat), (p.modify k fun (x : Nat × Nat × Nat) => (x.1, x.2.1, pw))[j]? = some y → ∃ x, p[j]? = some x ∧ y.1 = x.1 ∧ y.2.1 = x.2.1 := by
    intro j y e
    rw [Array.getElem?_modify] at e
    split at e
    · cases q : p[j]? with
      | none => rw [q] at e; cases e
      | some x => rw [q] at e; cases e; exact ⟨x, rfl, rfl, rfl⟩
    · exact ⟨y, e, rfl, rfl⟩
  refine ⟨fun j y e => ?_, fun j y z e e2 => ?_⟩
  · obtain ⟨x, ex, e1, e3⟩ := key j y e
    rw [e1, e3]; exact h.one j x ex
  · obtain ⟨x, ex, e1, e3⟩ := key j y e
    obtain ⟨x', ex', e1', _⟩ := key (j + 1) z e2
    rw [e1, e3, e1']; exact h.two j x x' ex ex'
end Mine
namespace Mine
open PySem PyProof.Rows
section
variable {prog : Program} {w : World} {A : Around} {E : Value → Shared → Prop} {s : Shared} {a₀ : Array Keyed}
theorem wb_perm {arr m : Array Keyed} {lo mid hi : Nat} (h1 : lo ≤ mid) (h2 : mid ≤ hi) (h3 : hi ≤ arr.size) (hm : RetOk (arr.extract lo mid) (arr.extract mid hi) m) :
    (m.toList.zipIdx.foldl (fun (a : Array Keyed) (x : Keyed × Nat) => a.setIfInBounds (lo + x.2) x.1) arr).Perm arr := by
  unfold RetOk at hm
  have e1 : (arr.extract lo mid).toList = (arr.toList.drop lo).take (mid - lo) := by simp
  have e2 : (arr.extract mid hi).toList = (arr.toList.drop mid).take (hi - mid) := by simp
  have e3 : (arr.extract lo mid).toList ++ (arr.extract mid hi).toList = (arr.toList.drop lo).take (hi - lo) := by
    rw [e1, e2, show hi - lo = (mid - lo) + (hi - mid) by omega, List.take_add, List.drop_drop, show lo + (mid - lo) = mid by omega]
  rw [e3] at hm
  have hl : m.toList.length = hi - lo := by rw [hm.length_eq]; simp; omega
  rw [Array.perm_iff_toList_perm, wb_list lo m.toList 0 arr (by omega), hl, show lo + 0 + (hi - lo) = hi by omega, Nat.add_zero]
  have e4 : arr.toList = arr.toList.take lo ++ ((arr.toList.drop lo).take (hi - lo) ++ arr.toList.drop hi) := by
    have e5 : arr.toList.drop hi = (arr.toList.drop lo).drop (hi - lo) := by rw [List.drop_drop, show lo + (hi - lo) = hi by omega]
    rw [e5, List.take_append_drop, List.take_append_drop]
  refine List.Perm.trans (List.Perm.append_left _ (List.Perm.append_right _ hm)) ?_
  rw [← e4]
theorem allK_extract {a : Array Keyed} (h : AllK a) (i j : Nat) : AllK (a.extract i j) := fun p hp => h p (by
  have e : (a.extract i j).toList = (a.toList.drop i).take (j - i) := by simp
  have hp' : p ∈ (a.extract i j).toList := Array.mem_toList_iff.mpr hp
  rw [e] at hp'
  have := List.mem_of_mem_drop (List.mem_of_mem_take hp')
  simpa using this)
theorem nb' {x y : Nat} (h : ¬(x == y) = true) : x ≠ y := nb h
theorem ma_le {sa na k n : Nat} (h : k ≤ na) (h2 : sa + na < n) : sa + k + (na - k) < n := by rw [Nat.add_assoc, Nat.add_sub_cancel' h]; exact h2
theorem wpS_mergeAtP {st : SortSt} {i lim : Nat} {Q : Bool → SortSt → Prop} (hS : SP a₀ st) (h0 : AllK a₀) (hp : PO lim (pendingOf st)) (hl : lim ≤ a₀.size) (hi : i + 1 < (pendingOf st).size)
    (h : ∀ st', SP a₀ st' → PO lim (pendingOf st') → Q true st') : wpS (model prog w) A E s (mergeAt' i) Q st := by
  unfold mergeAt'
  refine wpS_bind (wpS_get ?_)
  obtain ⟨⟨sa, na, pw⟩, e1⟩ : ∃ x, (pendingOf st)[i]? = some x := ⟨_, getElem?_pos _ _ (by omega)⟩
  obtain ⟨⟨sb, nb, q⟩, e2⟩ : ∃ x, (pendingOf st)[i + 1]? = some x := ⟨_, getElem?_pos _ _ (by omega)⟩
  have f1 := hp.one _ _ e1
  have f2 := hp.one _ _ e2
  have f3 := hp.two _ _ _ e1 e2
  dsimp only at f1 f2 f3
  have hsz := hS.size
  have hK := hS.keys h0
  show wpS _ _ _ _ (match ((pendingOf st)[i]?, (pendingOf st)[i + 1]?) with | (some (sa, na, power), some (sb, nb, snd)) => _ | x => _) Q st
  rw [e1, e2]
  refine wpS_bind (wpS_setP ?_)
  have hS1 : SP a₀ (SortSt.mk' (kindOf st) (arrOf st) (((pendingOf st).setIfInBounds i (sa, na + nb, pw)).eraseIdxIfInBounds (i + 1)) (gallopOf st) (failedOf st)) := ⟨hS.perm, hS.kind, hS.failed⟩
  have hp1 := hp.merge e1 e2
  have hA : sb + nb ≤ (arrOf st).size := Nat.le_trans f2.2 (hsz ▸ hl)
  have hB : sb < (arrOf st).size := Nat.lt_of_lt_of_le (Nat.lt_add_of_pos_right f2.1) hA
  refine wpS_bind (wpS_elemP hB fun p0 hp0 e0 => ?_)
  refine wpS_bind (wpS_gallopP hS1.kind (hK _ hp0) hK (Nat.le_trans f3 (Nat.le_of_lt hB)) f1.1 fun k hk => ?_)
  clear hp0 e0 p0
  refine wpS_ite (c := (na - k == 0) = true) (fun _ => wpS_pure (h _ hS1 hp1)) fun g1 => ?_
  have g1' : k < na := Nat.lt_of_sub_ne_zero (nb' g1)
  have hC : sa + k ≤ sb := Nat.le_trans (Nat.add_le_add_left (Nat.le_of_lt g1') sa) f3
  have hD : sa + k < sb := Nat.lt_of_lt_of_le (Nat.add_lt_add_left g1' sa) f3
  refine wpS_bind (wpS_elemP (Nat.lt_of_le_of_lt (Nat.sub_le _ _) (ma_le (Nat.le_of_lt g1') (Nat.lt_of_le_of_lt f3 hB))) fun p1 hp1' e0 => ?_)
  refine wpS_bind (wpS_gallopP hS1.kind (hK _ hp1') hK hA (Nat.sub_lt f2.1 Nat.one_pos) fun m hm => ?_)
  clear hp1' e0 p1
  refine wpS_ite (c := (m == 0) = true) (fun _ => wpS_pure (h _ hS1 hp1)) fun g2 => ?_
  have g2' : 1 ≤ m := Nat.pos_of_ne_zero (nb' g2)
  have hE : sb + m ≤ (arrOf st).size := Nat.le_trans (Nat.add_le_add_left hm sb) hA
  have back : ∀ r (st' : SortSt), Same (SortSt.mk' (kindOf st) (arrOf st) (((pendingOf st).setIfInBounds i (sa, na + nb, pw)).eraseIdxIfInBounds (i + 1)) (gallopOf st) (failedOf st)) st' →
      RetOk ((arrOf st).extract (sa + k) sb) ((arrOf st).extract sb (sb + m)) r → SP a₀ (setArr st' (r.toList.zipIdx.foldl (fun (a : Array Keyed) (x : Keyed × Nat) => a.setIfInBounds (sa + k + x.2) x.1) (arrOf st'))) ∧ PO lim (pendingOf st') := by
    intro r st' hs hr
    have ea : arrOf st' = arrOf st := hs.arr
    refine ⟨⟨?_, hs.kind.trans hS.kind, hs.failed.trans hS.failed⟩, ?_⟩
    · show (r.toList.zipIdx.foldl _ (arrOf st')).Perm a₀
      rw [ea]
      exact (wb_perm hC (Nat.le_add_right _ _) hE hr).trans hS.perm
    · rw [hs.pend]; exact hp1
  have kx := allK_extract hK (sa + k) sb
  have ky := allK_extract hK sb (sb + m)
  have x1 : 1 ≤ ((arrOf st).extract (sa + k) sb).size := by rw [Array.size_extract, Nat.min_eq_left (Nat.le_of_lt hB)]; exact Nat.sub_pos_of_lt hD
  have x2 : 1 ≤ ((arrOf st).extract sb (sb + m)).size := by rw [Array.size_extract, Nat.min_eq_left hE, Nat.add_sub_cancel_left]; exact g2'
  dsimp -zeta only
  extract_lets ex ey jp
  have H : ∀ r st', Same (SortSt.mk' (kindOf st) (arrOf st) (((pendingOf st).setIfInBounds i (sa, na + nb, pw)).eraseIdxIfInBounds (i + 1)) (gallopOf st) (failedOf st)) st' →
      RetOk ((arrOf st).extract (sa + k) sb) ((arrOf st).extract sb (sb + m)) r → wpS (model prog w) A E s (jp r) Q st' := by
    intro r st' hs hr
    obtain ⟨b1, b2⟩ := back r st' hs hr
    refine wpS_bind (wpS_modify (wpS_bind (wpS_get ?_)))
    have ef : failedOf st' = none := hs.failed.trans hS.failed
    refine wpS_pure ?_
    show Q (failedOf st').isNone _
    rw [ef]
    exact h _ b1 b2
  clear_value jp
  exact wpS_ite (fun _ => wpS_bind (wpS_mergeLoP hS1.kind kx ky x1 x2 fun r st' hs hr => H r st' hs hr)) (fun _ => wpS_bind (wpS_mergeHiP hS1.kind kx ky x1 x2 fun r st' hs hr => H r st' hs hr))
end
end Mine
namespace Mine
open PySem PyProof.Rows
section
variable {prog : Program} {w : World} {A : Around} {E : Value → Shared → Prop} {s : Shared} {a₀ : Array Keyed}
theorem ite_pred_le {c : Prop} [Decidable c] {i : Nat} : (if c then i - 1 else i) ≤ i := by split <;> omega
theorem wpS_sortRunsP {st : SortSt} {Q : Unit → SortSt → Prop} (h0 : AllK a₀) (hS : SP a₀ st) (hp : pendingOf st = #[])
    (h : ∀ st', SP a₀ st' → Q () st') : wpS (model prog w) A E s sortRuns' Q st := by
  unfold sortRuns'
  refine wpS_bind (wpS_get ?_)
  have hsa : (arrOf st).size = a₀.size := hS.size
  refine forR (fun _ y st' => SP a₀ st' ∧ y ≤ a₀.size ∧ PO y (pendingOf st')) (fun _ _ => False) (fun _ st' => SP a₀ st' ∧ PO a₀.size (pendingOf st')) ⟨hS, Nat.zero_le _, by rw [hp]; exact PO.nil⟩ (fun y st' z => ⟨z.1, z.2.2.mono z.2.1⟩) (fun _ _ _ z => z.elim) (fun y st1 hJ => ?_) (fun x lo st1 Q' _ d3 d4 _ _ hI => ?_)
  · refine forR (fun _ _ st' => SP a₀ st' ∧ PO a₀.size (pendingOf st')) (fun _ _ => False) (fun _ st' => SP a₀ st') hJ (fun _ _ z => z.1) (fun _ _ _ z => z.elim) (fun _ st2 z => wpS_pure (h _ z)) (fun x y st2 Q' _ d3 d4 _ _ hI => ?_)
    refine wpS_bind (wpS_get ?_)
    refine wpS_ite (c := (pendingOf st2).size ≤ 1) (fun _ => wpS_pure (d3 _ _ hI.1)) fun g => ?_
    refine wpS_bind (wpS_mergeAtP hI.1 h0 hI.2 (Nat.le_refl _) ?_ fun st3 s3 p3 => ?_)
    · exact Nat.lt_of_le_of_lt (Nat.add_le_add_right (ite_pred_le (i := (pendingOf st2).size - 2)) 1) (by omega)
    · exact wpS_ite (c := (!true) = true) (fun q => (nomatch q)) (fun _ => wpS_pure (d4 _ _ ⟨s3, p3⟩))
  · have hl := hI.2.1
    refine wpS_ite (c := lo ≥ (arrOf st).size) (fun _ => wpS_pure (d3 _ _ ⟨hI.1, hI.2.2.mono hl⟩)) fun g => ?_
    have hlt : lo < a₀.size := Nat.lt_of_not_ge (hsa ▸ g)
    have hsub : lo + ((arrOf st).size - lo) = a₀.size := by rw [hsa]; exact Nat.add_sub_cancel' hl
    refine wpS_bind (wpS_countRunP hI.1 h0 (Nat.le_of_eq hsub) (by show 1 ≤ (arrOf st).size - lo; rw [hsa]; exact Nat.sub_pos_of_lt hlt) fun n st2 s2 pe n1 n2 => ?_)
    have hp2 : PO lo (pendingOf st2) := by rw [pe]; exact hI.2.2
    have hn2 : lo + n ≤ a₀.size := hsub ▸ Nat.add_le_add_left n2 lo
    clear pe hI
    dsimp -zeta only
    extract_lets n3 jp f3 n4
    have H : ∀ u m st3, SP a₀ st3 → PO lo (pendingOf st3) → 1 ≤ m → lo + m ≤ a₀.size → wpS (model prog w) A E s (jp u m) Q' st3 := by
      clear s2 hp2 n1 n2 hn2
      intro u m st3 s3 hp3 m1 m2
      refine wpS_bind (wpS_get ?_)
      extract_lets lo2 jp2
      have H2 : ∀ u st4, SP a₀ st4 → PO lo (pendingOf st4) → wpS (model prog w) A E s (jp2 u) Q' st4 := by
        intro u st4 s4 hp4
        exact wpS_bind (wpS_modify (wpS_pure (d4 _ _ ⟨⟨s4.perm, s4.kind, s4.failed⟩, m2, hp4.push m1⟩)))
      clear_value jp2
      split
      · refine forR (fun _ _ st' => SP a₀ st' ∧ PO lo (pendingOf st')) (fun _ _ => False) (fun _ st' => SP a₀ st' ∧ PO lo (pendingOf st')) ⟨s3, hp3⟩ (fun _ _ z => z) (fun _ _ _ z => z.elim) (fun _ st5 z => wpS_bind (wpS_modify (H2 _ _ ⟨z.1.perm, z.1.kind, z.1.failed⟩ (PO.repow z.2)))) (fun y c st5 Q5 _ e3 e4 _ _ z => ?_)
        refine wpS_bind (wpS_get ?_)
        by_cases gs : (pendingOf st5).size > 1
        · obtain ⟨⟨u1, u2, u3⟩, eu⟩ : ∃ z, (pendingOf st5)[(pendingOf st5).size - 2]? = some z := ⟨_, getElem?_pos _ _ (by clear z; omega)⟩
          show wpS _ _ _ _ (match (if (pendingOf st5).size > 1 then (pendingOf st5)[(pendingOf st5).size - 2]? else none) with | some (fst, fst_1, older) => _ | x => _) _ _
          rw [if_pos gs, eu]
          refine wpS_ite (fun _ => wpS_pure (e3 _ _ z)) fun _ => ?_
          refine wpS_bind (wpS_mergeAtP z.1 h0 z.2 hl (by show (pendingOf st5).size - 2 + 1 < (pendingOf st5).size; clear z; omega) fun st6 s6 p6 => ?_)
          exact wpS_ite (c := (!true) = true) (fun q => (nomatch q)) (fun _ => wpS_pure (e4 _ _ ⟨s6, p6⟩))
        · show wpS _ _ _ _ (match (if (pendingOf st5).size > 1 then (pendingOf st5)[(pendingOf st5).size - 2]? else none) with | some (fst, fst_1, older) => _ | x => _) _ _
          rw [if_neg gs]
          exact wpS_pure (e3 _ _ z)
      · exact H2 _ _ s3 hp3
    clear_value jp
    refine wpS_ite (fun g2 => ?_) (fun _ => H _ _ _ s2 hp2 n1 hn2)
    refine wpS_bind (wpS_lift (wpAny_rule ⟨rfl, ?_⟩))
    have hN2 : lo + min ((arrOf st).size - lo) (minRun' (arrOf st).size (arrOf st).size 0) ≤ a₀.size := hsub ▸ Nat.add_le_add_left (Nat.min_le_left _ _) lo
    refine wpS_bind (wpS_binarySortP s2 h0 hN2 fun st4 s4 pe4 => ?_)
    exact wpS_ite (c := (!true) = true) (fun q => (nomatch q)) (fun _ => H _ _ _ s4 (pe4 ▸ hp2) (Nat.le_min.mpr ⟨by show 1 ≤ (arrOf st).size - lo; rw [hsa]; exact Nat.sub_pos_of_lt hlt, Nat.le_trans n1 (Nat.le_of_lt g2)⟩) hN2)
end
end Mine
namespace Mine
open PySem PyProof.Rows
theorem perm_out {vs : List Value} {ns : List Int} (hI : IntsAre vs ns) {xs : Array Keyed} (hp : xs.Perm (pairsOf vs)) : ∃ ns', IntsAre (xs.map (·.2)).toList ns' ∧ ns'.Perm ns := by
  have hl : xs.toList.Perm (vs.zip vs) := by rw [← pairsOf_toList]; exact Array.perm_iff_toList_perm.mp hp
  have h1 : ((xs.map (·.2)).toList).Perm vs := by
    rw [Array.toList_map]
    have := hl.map Prod.snd
    rwa [List.map_snd_zip (Nat.le_refl _)] at this
  have key : ∀ {us ws : List Value}, us.Perm ws → ∀ {ms : List Int}, IntsAre ws ms → ∃ ms', IntsAre us ms' ∧ ms'.Perm ms := by
    intro us ws p
    induction p with
    | nil => intro ms i; exact ⟨ms, i, List.Perm.refl _⟩
    | cons x _ ih =>
      intro ms i
      cases i with
      | cons n t i =>
        obtain ⟨ms', a, b⟩ := ih i
        exact ⟨n :: ms', .cons n t a, b.cons n⟩
    | swap x y l =>
      intro ms i
      cases i with
      | cons n t i =>
        cases i with
        | cons n' t' i => exact ⟨_, .cons n' t' (.cons n t i), List.Perm.swap _ _ _⟩
    | trans _ _ ih1 ih2 =>
      intro ms i
      obtain ⟨ms1, a1, b1⟩ := ih2 i
      obtain ⟨ms2, a2, b2⟩ := ih1 a1
      exact ⟨ms2, a2, b2.trans b1⟩
  exact key h1 hI
theorem allK_pairs {vs : List Value} {ns : List Int} (hI : IntsAre vs ns) : AllK (pairsOf vs) := fun p hp => hI.intKeys p (Array.mem_toList_iff.mpr hp)
section
variable {prog : Program} {w : World} {A : Around} {E : Value → Shared → Prop} {s : Shared}
theorem sort_treeP {a : Addr} {vs : List Value} {ns : List Int} {n : Nat} {P : Fin → Shared → Prop} (ho : s.heap.get? a = some (seqObj "list" vs.toArray n)) (hI : IntsAre vs ns) (hz : vs.length < 2 ^ 20)
    (h : ∀ (out : Array Value) (ns' : List Int), IntsAre out.toList ns' → ns'.Perm ns → P (.done (.ret .none)) { s with heap := sortedHeap s.heap a vs out }) :
    wpAny (model prog w) A (Builtin.«list.sort» ⟨[.ref a], []⟩) P E s := by
  have ha : a < s.heap.objs.size := Heap.lt_size ho
  have hsz : vs.toArray.size ≤ sizeLine := by rw [List.size_toArray, sizeLine_eq]; omega
  rw [list_sort_plain]
  refine wpAny_bind (listItems_at ho rfl (wpAny_bind (listUpdate_at ho rfl ?_ (hsz := hsz) (hsz2 := Nat.zero_le _))))
  obtain ⟨e1, ho1⟩ : ∃ e1, (s.heap.update a (Obj.mapSeq fun _ => #[])).get? a = some (seqObj "list" #[] e1) := ⟨_, get?_update_seq ho (fun _ => #[])⟩
  refine wpAny_bind (seqEpoch_at ho1 rfl (wpAny_bind (wpAny_newTuple (wpAny_bind (wpAny_newList (wpAny_holding ?_)) ) ?_)))
  · have ho6 : (((s.heap.update a (Obj.mapSeq fun _ => #[])).push (seqObj "tuple" vs.toArray 0)).push (seqObj "list" #[] 0)).get? a = some (seqObj "list" #[] e1) := by
      rw [Heap.get?_push_ne _ _ _ (by rw [size_push', Heap.size_update]; exact Nat.ne_of_lt (Nat.lt_succ_of_lt ha)), Heap.get?_push_ne _ _ _ (by rw [Heap.size_update]; exact Nat.ne_of_lt ha)]
      exact ho1
    show wpAny (model prog w) A _ P E { s with heap := ((s.heap.update a (Obj.mapSeq fun _ => #[])).push (seqObj "tuple" vs.toArray 0)).push (seqObj "list" #[] 0) }
    have out : ∀ st' : SortSt, (arrOf st').Perm (pairsOf vs) → ((arrOf st').map (·.2)).size ≤ sizeLine + 1 ∧ P (.done (.ret .none)) { s with heap := sortedHeap s.heap a vs ((arrOf st').map (·.2)) } := by
      intro st' hp
      obtain ⟨ns', a1, a2⟩ := perm_out hI hp
      refine ⟨?_, h _ ns' a1 a2⟩
      rw [Array.size_map, hp.size_eq, pairsOf_size]
      rw [List.size_toArray] at hsz
      omega
    by_cases h2 : vs.toArray.size < 2
    · rw [if_pos h2, if_pos h2]
      refine wpAny_bind (wpAny_pure ?_)
      dsimp only
      rw [StateT.run_pure]
      have o := out (SortSt.mk' general' (vs.toArray.zip vs.toArray) #[] 7 none) (Array.Perm.refl _)
      refine wpAny_bind (wpAny_pure (wpAny_bind (seqEpoch_at ho6 rfl (wpAny_bind (listUpdate_at ho6 rfl ?_ (hsz := Nat.zero_le _) (hsz2 := o.1))))))
      simp only [bne_self_eq_false, Bool.false_eq_true, if_false]
      exact wpAny_pure o.2
    · rw [if_neg h2, if_neg h2]
      have hk : keyKind' vs.toArray = pure oneType' := by
        match vs, hI, h2 with
        | [], _, h2 => simp at h2
        | [_], _, h2 => simp at h2
        | v₁ :: v₂ :: rest, hI, _ => exact keyKind_ints hI
      rw [hk]
      refine wpAny_bind (wpAny_pure ?_)
      refine wpAny_bind (wpAny_mono (wpS_sortRunsP (a₀ := pairsOf vs) (st := SortSt.mk' oneType' (vs.toArray.zip vs.toArray) #[] 7 none) (Q := fun _ st' => SP (pairsOf vs) st') (allK_pairs hI) ⟨Array.Perm.refl _, rfl, rfl⟩ rfl fun _ z => z) ?_ fun _ _ e => e)
      rintro ⟨⟨⟩, st'⟩ s' ⟨rfl, hS⟩
      have o := out st' hS.perm
      refine wpAny_bind (seqEpoch_at ho6 rfl (wpAny_bind (listUpdate_at ho6 rfl ?_ (hsz := Nat.zero_le _) (hsz2 := o.1))))
      dsimp only
      rw [hS.failed]
      simp only [bne_self_eq_false, Bool.false_eq_true, if_false]
      exact wpAny_pure o.2
  · rw [List.size_toArray] at hsz
    simpa using hsz
theorem sorted_P {h₀ : Heap} {L : Addr} {m : Str → Option Value} {news : List (Addr × Obj)} {l : Addr} {vs : List Value} {ns : List Int} {Q : Value → Shared → Prop}
    (F : Fr h₀ L s.heap m) (N : News h₀ L s.heap news) (hl : s.heap.IsList l vs.toArray) (hI : IntsAre vs ns) (hz : vs.length < 2 ^ 20)
    (h : ∀ (D : Addr) (h' : Heap) (vs' : List Value) (ns' : List Int) (e : Nat), Fr h₀ L h' m → News h₀ L h' ((D, PySem.W.listOf vs'.toArray e) :: news) → (∀ q ∈ news, q.1 < D) →
      IntsAre vs' ns' → ns'.Perm ns → Q (.ref D) { s with heap := h' }) :
    wpAny (model prog w) A (call (.builtin "sorted") [.ref l]) Q E s := by
  have hsz : vs.length ≤ sizeLine := by rw [sizeLine_eq]; omega
  refine Calls.call_function_entry kind_sorted plain_sorted entry_sorted (args_sorted1 _) ?_
  unfold Builtin.«sorted»
  refine wpAny_bind (m := checkCount "sorted" 1 1 _) (wpAny_pure (wpAny_bind (collect_list hl ?_ (hsz := hsz))))
  refine wpAny_bind (wpAny_newList ?_ (hsz := hsz))
  have e1 : ((s.heap.push (seqObj "list" #[] 0)).update s.heap.objs.size (Obj.mapSeq (· ++ vs.toArray))).objs.size = s.heap.objs.size + 1 := by
    rw [Heap.size_update, size_push']
  have hoL : (((s.heap.push (seqObj "list" #[] 0)).update s.heap.objs.size (Obj.mapSeq (· ++ vs.toArray))).push (seqObj "list" vs.toArray 0)).get? (s.heap.objs.size + 1) = some (seqObj "list" vs.toArray 0) := by
    rw [← e1]; exact Heap.get?_push_size _ rfl
  show wpAny _ _ _ _ _ { s with heap := ((s.heap.push (seqObj "list" #[] 0)).update s.heap.objs.size (Obj.mapSeq (· ++ vs.toArray))).push (seqObj "list" vs.toArray 0) }
  rw [e1]
  refine wpAny_bind (wpAny_holding (wpAny_call_entry slot_list_sort ⟨_, hoL, rfl⟩ entry_list_sort (sort_treeP hoL hI hz fun out ns' a1 a2 => ⟨_, rfl, ?_⟩) (args_list_sort _)))
  refine wpAny_pure ⟨_, rfl, ?_⟩
  obtain ⟨e, he⟩ := sortedAll_at s.heap vs out
  exact h _ _ out.toList ns' e (F.kept fun _ _ => sortedAll_old) (N.kept_cons F (fun _ _ => sortedAll_old) (Nat.le_succ _) he) (fun p hp => Nat.lt_succ_of_lt (Heap.lt_size (N p hp).1)) a1 a2
end
end Mine
namespace Mine
open PySem PyProof.Rows
theorem sorted_PN {prog : Program} {w : World} {A : Around} {E : Value → Shared → Prop} {s : Shared} {h₀ : Heap} {L : Addr} {m : Str → Option Value} {news : List (Addr × Obj)} {l : Addr} {vs : List Value} {ns : List Int} {Q : Value → Shared → Prop}
    (F : Fr h₀ L s.heap m) (N : News h₀ L s.heap news) (hl : s.heap.IsList l vs.toArray) (hI : IntsAre vs ns) (hz : ns.length < 2 ^ 20)
    (h : ∀ (D : Addr) (h' : Heap) (vs' : List Value) (ns' : List Int) (e : Nat), Fr h₀ L h' m → News h₀ L h' ((D, PySem.W.listOf vs'.toArray e) :: news) → (∀ q ∈ news, q.1 < D) →
      IntsAre vs' ns' → ns'.Perm ns → Q (.ref D) { s with heap := h' }) :
    wpAny (model prog w) A (call (.builtin "sorted") [.ref l]) Q E s := sorted_P F N hl hI (by rw [hI.length]; exact hz) h
end Mine
namespace Mine
open PySem PySem.W PySem.Spec PySem.Calls PyProof.Rows PyProof.Rows.LCg PyProof.Rows.LCt
set_option maxRecDepth 100000

section
variable {prog : Program} {w : World} {A : Around} {E : Value → Shared → Prop} {s : Shared} {h₀ : Heap} {L : Addr} {m : Str → Option Value} {env : Env} {news : List (Addr × Obj)} {Q : Value → Shared → Prop}
def TestEnd (h : Heap) (s₁ : Shared) (b ok : Bool) (s' : Shared) : Prop := ok = b ∧ ∃ h' tk, s' = { s₁ with heap := h', toks := tk } ∧ h.StaysIn h'
inductive FiltSrc (prog : Program) (w : World) (A : Around) (h₀ : Heap) (L : Addr) (m : Str → Option Value) (env : Env) (ct : PySem.Expr) (x : Str) (scope : Scope) (cl : List (Str × Addr)) (ns : List Int) (t : Int → Bool) (Q : Value → Shared → Prop) (xv : Value) (s₁ : Shared) : Prop
  | mk (ax : Addr) (its : Array Value) (news : List (Addr × Obj)) (e : xv = .ref ax) (hh : A.handled = none) (F : Fr h₀ L s₁.heap m) (N : News h₀ L s₁.heap news) (S : SrcAt h₀ ax its news) (hz : its.size ≤ sizeLine) (hi : IntsAre its.toList ns)
    (test : ∀ (n : Int) (tn : Tok) I oI C oC D ys m₂ h tk (E' : Value → Shared → Prop), n ∈ ns → NsObj oC m₂ → m₂ x = some (.int n tn) → Fr h₀ L h m → News h₀ L h ((I, oI) :: (C, oC) :: (D, lst ys) :: news) → Off3 I C D news → ((@Ne Nat I C) ∧ (@Ne Nat I D) ∧ (@Ne Nat C D)) →
      wpAny (model prog w) A (isTrue ct (compEnvC scope cl C env) (eval ct (compEnvC scope cl C env))) (TestEnd h s₁ (t n)) E' { s₁ with heap := h, toks := tk })
    (done : ∀ D h tk ys, Fr h₀ L h m → News h₀ L h ((D, lst ys) :: news) → Off1 D news → IntsAre ys (ns.filter t) → Q (.ref D) { s₁ with heap := h, toks := tk }) : FiltSrc prog w A h₀ L m env ct x scope cl ns t Q xv s₁
theorem FiltSrc.intro {ct : PySem.Expr} {x : Str} {scope : Scope} {cl : List (Str × Addr)} {ns : List Int} {t : Int → Bool} {ax : Addr} {its : Array Value} (hh : A.handled = none) (F : Fr h₀ L s.heap m) (N : News h₀ L s.heap news) (S : SrcAt h₀ ax its news) (hz : its.size ≤ sizeLine) (hi : IntsAre its.toList ns)
    (test : ∀ (n : Int) (tn : Tok) I oI C oC D ys m₂ h tk (E' : Value → Shared → Prop), n ∈ ns → NsObj oC m₂ → m₂ x = some (.int n tn) → Fr h₀ L h m → News h₀ L h ((I, oI) :: (C, oC) :: (D, lst ys) :: news) → Off3 I C D news → ((@Ne Nat I C) ∧ (@Ne Nat I D) ∧ (@Ne Nat C D)) →
      wpAny (model prog w) A (isTrue ct (compEnvC scope cl C env) (eval ct (compEnvC scope cl C env))) (TestEnd h s (t n)) E' { s with heap := h, toks := tk })
    (done : ∀ D h tk ys, Fr h₀ L h m → News h₀ L h ((D, lst ys) :: news) → Off1 D news → IntsAre ys (ns.filter t) → Q (.ref D) { s with heap := h, toks := tk }) :
    FiltSrc prog w A h₀ L m env ct x scope cl ns t Q (.ref ax) s := ⟨ax, its, news, rfl, hh, F, N, S, hz, hi, test, done⟩

theorem ints_at {vs : List Value} {ns : List Int} (i : IntsAre vs ns) {k : Nat} {v : Value} (h : vs[k]? = some v) : ∃ n t, ns[k]? = some n ∧ v = .int n t := by
  have hl := i.length
  have hk : k < vs.length := (List.getElem?_eq_some_iff.mp h).1
  obtain ⟨t, e⟩ := i.get k (ns[k]'(by omega)) (List.getElem?_eq_getElem _)
  rw [h] at e
  exact ⟨_, t, List.getElem?_eq_getElem _, Option.some.inj e⟩

theorem filt_rest {ct : PySem.Expr} {x : Str} {pe : Pos} {scope : Scope} {cl : List (Str × Addr)} {ns : List Int} {t : Int → Bool} {its : Array Value} {S : List (Addr × Obj) → Prop} {Fin : List Value → List (Addr × Obj) → Prop} (hkind : scope.kind = .function) (hx : scope.names.lookup x = some .local) (hd : (x == ("__debug__" : Str)) = false)
    (hi : IntsAre its.toList ns) (hS : S news)
    (test : ∀ (n : Int) (tn : Tok) I oI C oC D ys m₂ h tk (E' : Value → Shared → Prop), n ∈ ns → NsObj oC m₂ → m₂ x = some (.int n tn) → Fr h₀ L h m → News h₀ L h ((I, oI) :: (C, oC) :: (D, lst ys) :: news) → Off3 I C D news → ((@Ne Nat I C) ∧ (@Ne Nat I D) ∧ (@Ne Nat C D)) →
      wpAny (model prog w) A (isTrue ct (compEnvC scope cl C env) (eval ct (compEnvC scope cl C env))) (TestEnd h s (t n)) E' { s with heap := h, toks := tk })
    (fin : ∀ ys, IntsAre ys (ns.filter t) → Fin ys news) :
    ∀ k i ys, i + k = its.size → IntsAre ys ((ns.take i).filter t) → CompRestT prog w A h₀ L m env ct (.Name x pe) x scope cl s S (fun i v => its[i]? = some v) Fin k i ys news := by
  intro k
  induction k with
  | zero =>
    intro i ys e h
    refine CompRestT.zero (fin ys ?_)
    rw [List.take_of_length_le] at h
    · exact h
    · have := hi.length
      have : its.toList.length = its.size := Array.length_toList
      omega
  | succ k ih =>
    intro i ys e hys
    refine CompRestT.succ fun v I oI C oC D m₂ h tk E' hv hC hm F N off ne => ?_
    have hv' : its.toList[i]? = some v := by rw [Array.getElem?_toList]; exact hv
    obtain ⟨n, tn, hn, rfl⟩ := ints_at hi hv'
    refine wpAny_mono (test n tn I oI C oC D ys m₂ h tk E' (List.mem_of_getElem? hn) hC hm F N off ne) (fun ok s' h' => ?_) fun _ _ e => e
    obtain ⟨rfl, h', tk', rfl, st⟩ := h'
    have F' : Fr h₀ L h' m := F.keeps st
    have N' : News h₀ L h' ((I, oI) :: (C, oC) :: (D, lst ys) :: news) := fun p hp => ⟨st _ _ (N p hp).1, (N p hp).2⟩
    have hs : ns.take (i + 1) = ns.take i ++ [n] := by rw [List.take_add_one, hn]; rfl
    by_cases ht : t n = true
    · rw [if_pos ht]
      have hCo := (N' (C, oC) (List.mem_cons_of_mem _ List.mem_cons_self)).1
      refine wpAny_Name (wpAny_loadName_local (by simp [compEnvC, relabel, hkind]) (lookup_relabel_local hx) (hC.ns hCo) hm ?_) hd
      refine ⟨h', tk', news, rfl, F', N', off, hS, ih _ _ (by omega) ?_⟩
      rw [hs, List.filter_append, List.filter_cons, if_pos ht]
      exact ints_snoc hys
    · rw [if_neg ht]
      refine ⟨h', tk', news, rfl, F', N', off, hS, ih _ _ (by omega) ?_⟩
      rw [hs, List.filter_append, List.filter_cons, if_neg ht, List.filter_nil, List.append_nil]
      exact hys

theorem comp_filter {ct iter : PySem.Expr} {x : Str} {px pe : Pos} {scope : Scope} {cl : List (Str × Addr)} {pos : Pos} (ns : List Int) (t : Int → Bool) (F₀ : Fr h₀ L s.heap m)
    (hclos : closureFor scope env = pure cl) (hcell : ∀ y ∈ scope.names, y.2 ≠ .cell) (hkind : scope.kind = .function)
    (hnames : ∀ y ∈ scope.names, y.2 = .local → scope.names.lookup y.1 = some .local) (hx : scope.names.lookup x = some .local) (hd : (x == ("__debug__" : Str)) = false)
    (h : wpAny (model prog w) A (eval iter env) (FiltSrc prog w A h₀ L m env ct x scope cl ns t Q) E s)
    (hs : ∀ x, foldedSetIterable iter env x = pure x := by intro _; rfl) :
    wpAny (model prog w) A (eval (.ListComp (.Name x pe) [⟨.Name x px, iter, [ct], 0⟩] scope pos) env) Q E s := by
  refine ListComp_T F₀ hclos hcell hkind hnames hx (wpAny_mono h (fun xv s₁ h₁ => ?_) fun _ _ e => e) hs
  obtain ⟨ax, its, news, rfl, hh, F, N, S, hz, hi, test, done⟩ := h₁
  refine .inl ⟨ax, its, news, rfl, hh, F, N, S, hz, ?_⟩
  rintro _ ⟨g, rfl⟩
  refine filt_rest (s := { s₁ with heap := g }) hkind hx hd hi S test (fun ys hy => ?_) its.size 0 [] (by omega) (by simpa using IntsAre.nil)
  intro D h tk F' N' o
  exact done D h tk ys F' N' o hy
end
end Mine
namespace Mine
open PySem PySem.W PySem.Spec PySem.Calls PyProof.Rows PyProof.Rows.LCg PyProof.Rows.LCt
set_option maxRecDepth 100000
section
variable {prog : Program} {w : World} {A : Around} {E : Value → Shared → Prop} {s : Shared} {h₀ : Heap} {L : Addr} {m : Str → Option Value} {env : Env} {news : List (Addr × Obj)} {Q : Value → Shared → Prop}
def FiltAny (prog : Program) (w : World) (A : Around) (h₀ : Heap) (L : Addr) (m : Str → Option Value) (env : Env) (ct : PySem.Expr) (x : Str) (scope : Scope) (cl : List (Str × Addr)) (t : Int → Bool) (Q : Value → Shared → Prop) (xv : Value) (s₁ : Shared) : Prop :=
  ∃ ns, FiltSrc prog w A h₀ L m env ct x scope cl ns t Q xv s₁
theorem FiltAny.intro {ct : PySem.Expr} {x : Str} {scope : Scope} {cl : List (Str × Addr)} {ns : List Int} {t : Int → Bool} {ax : Addr} {its : Array Value} (hh : A.handled = none) (F : Fr h₀ L s.heap m) (N : News h₀ L s.heap news) (S : SrcAt h₀ ax its news) (hz : its.size ≤ sizeLine) (hi : IntsAre its.toList ns)
    (test : ∀ (n : Int) (tn : Tok) I oI C oC D ys m₂ h tk (E' : Value → Shared → Prop), n ∈ ns → NsObj oC m₂ → m₂ x = some (.int n tn) → Fr h₀ L h m → News h₀ L h ((I, oI) :: (C, oC) :: (D, lst ys) :: news) → Off3 I C D news → ((@Ne Nat I C) ∧ (@Ne Nat I D) ∧ (@Ne Nat C D)) →
      wpAny (model prog w) A (isTrue ct (compEnvC scope cl C env) (eval ct (compEnvC scope cl C env))) (TestEnd h s (t n)) E' { s with heap := h, toks := tk })
    (done : ∀ D h tk ys, Fr h₀ L h m → News h₀ L h ((D, lst ys) :: news) → Off1 D news → IntsAre ys (ns.filter t) → Q (.ref D) { s with heap := h, toks := tk }) :
    FiltAny prog w A h₀ L m env ct x scope cl t Q (.ref ax) s := ⟨ns, FiltSrc.intro hh F N S hz hi test done⟩
theorem comp_filterA {ct iter : PySem.Expr} {x : Str} {px pe : Pos} {scope : Scope} {cl : List (Str × Addr)} {pos : Pos} (t : Int → Bool) (F₀ : Fr h₀ L s.heap m)
    (hclos : closureFor scope env = pure cl) (hcell : ∀ y ∈ scope.names, y.2 ≠ .cell) (hkind : scope.kind = .function)
    (hnames : ∀ y ∈ scope.names, y.2 = .local → scope.names.lookup y.1 = some .local) (hx : scope.names.lookup x = some .local) (hd : (x == ("__debug__" : Str)) = false)
    (h : wpAny (model prog w) A (eval iter env) (FiltAny prog w A h₀ L m env ct x scope cl t Q) E s)
    (hs : ∀ x, foldedSetIterable iter env x = pure x := by intro _; rfl) :
    wpAny (model prog w) A (eval (.ListComp (.Name x pe) [⟨.Name x px, iter, [ct], 0⟩] scope pos) env) Q E s := by
  refine ListComp_T F₀ hclos hcell hkind hnames hx (wpAny_mono h (fun xv s₁ h₁ => ?_) fun _ _ e => e) hs
  obtain ⟨ns, ax, its, news, rfl, hh, F, N, S, hz, hi, test, done⟩ := h₁
  refine .inl ⟨ax, its, news, rfl, hh, F, N, S, hz, ?_⟩
  rintro _ ⟨g, rfl⟩
  refine filt_rest (s := { s₁ with heap := g }) hkind hx hd hi S test (fun ys hy => ?_) its.size 0 [] (by omega) (by simpa using IntsAre.nil)
  intro D h tk F' N' o
  exact done D h tk ys F' N' o hy
end
end Mine
namespace Mine
open PySem PySem.W PySem.Spec PySem.Calls PyProof.Rows PyProof.Rows.LCg
theorem srcNews {h₀ : Heap} {ax : Addr} {its : Array Value} {n : Nat} {news : List (Addr × Obj)} (hm : (ax, PySem.W.listOf its n) ∈ news) : SrcAt h₀ ax its news := .inr ⟨_, hm, rfl, n, rfl⟩
end Mine
namespace Mine
open PySem PySem.W PySem.Spec PySem.Calls PyProof.Rows
set_option maxRecDepth 100000
set_option maxHeartbeats 0
local macro_rules | `(tactic| walk_at "my_in") => `(tactic| ((case kA => exact rfl); (case kF => exact rfl); (case kK => first | assumption | exact rfl); (case k1 => k_asm); (case k2 => k_asm); (case k3 => k_asm); (case k5 => k_asm); (case k6 => k_is); (case k7 => k_is); (case k8 => ktr_room); (case k9 => exact BindsTo.of_eq rfl); (case c5 => decide); (case kB => exact locs rfl); (case c2 => exact rfl); (case c3 => exact rfl); (case c4 => exact rfl); (case kR => exact rfl); (case kM => (intro y; (repeat refine lk_cons' _ _ _ _ ?_); exact rfl))))
local macro_rules | `(tactic| walk_at "my_inC") => `(tactic| ((case kA => exact rfl); (case kF => exact rfl); (case kK => first | assumption | exact rfl); (case k1 => k_asm); (case k2 => k_asm); (case k3 => k_asm); (case k5 => k_asm); (case k6 => k_is); (case k7 => k_is); (case k8 => ktr_room); (case k9 => exact BindsTo.of_eq rfl); (case kB => exact rfl); (case kD => decide +kernel); (case c2 => exact rfl); (case c3 => exact rfl); (case c4 => exact rfl); (case kM => (intro L'; rfl)); (case kC => (intro L'; rfl))))
local macro_rules | `(tactic| kmk_nums) => `(tactic| first | ((with_reducible refine' kmk_all ?gi); (case gi => l_ints)) | ((with_reducible refine' kmk_upto ?gi ?gx); (case gi => l_ints); (case gx => first | with_reducible assumption | decide | omega)))
local macro_rules | `(tactic| walk_at "eval ListComp") => `(tactic| k_extra "comp")
local macro_rules | `(tactic| walk_at "call type:zip") => `(tactic| k_extra "zip")
local macro_rules | `(tactic| wrow_close) => `(tactic| k_extra "ends")
section
variable {w : World} {p : Program} {loose : List Str} {mean : ExcName → Option Value} {mg mb : Str → Option Value} {dp un : Nat} {gd : Option (List Code)} {cn : Str} {cs : Scope} {a : Addr} {ccd : Value} {cl : List (Str × Addr)} {outer : List Env} {A₀ : Around} {base h₀ : Heap} {L : Addr} {m : Str → Option Value} {s : Shared} {Q E : Value → Shared → Prop}

theorem has_spec {vx : Value} {b : Bool} {P : List Int} {q : Int} {tq : Tok}
    (C : Cx w p loose mean mg mb dp un cs outer A₀ base h₀ L m s 5)
    (hx : NumH s.heap vx (b, P)) (hPl : P.length < 2 ^ 13)
    (ret : RetB h₀ L m s Q (decide (q ∈ P) != b)) :
    wpAny (model PR w) (ktrTop dp un gd cn cs L a ccd cl outer) (call (.ref 256) [vx, .int q tq]) Q E s := by
  k_with_none
  obtain ⟨tx, lx, wx, rfl, itx, ilx, iix⟩ := hx.open
  dsimp only at itx iix
  obtain ⟨B, F, X, T, hk, hd, hu⟩ := C
  refine wpAny_call ?_
  refine' enterM [(Str.ofString "told", Value.ref tx), (Str.ofString "place", Value.int q tq)] [(Str.ofString "place", Value.int q tq), (Str.ofString "told", Value.ref tx)] (fun y => if y = Str.ofString "place" then some (Value.int q tq) else if y = Str.ofString "told" then some (Value.ref tx) else none) ?k1 ?k2 ?k3 ?k5 ?kA ?kF ?kK ?k6 ?k7 ?k8 ?k9 ?kB ?kR ?kM ?_ ?c2 ?c3 ?c4 ?c5
  walk_at "my_in"
  intro L' h' tk' FG' F' N' B' X' T'
  try dsimp only
  try k_fold
  refine let_A ?_
  intro ak
  k_with "execs cons" => ((with_reducible show wpAny _ _ _ _ _ (PySem.Shared.mk _ _ _ (HAdd.hAdd _ _) _)); refine repack s rfl ?_; intro tk9)
  k_with "ends" => exact retB ret (by assumption) (by assumption) any_mem
  k_steps

end
end Mine
namespace Mine
open PySem PySem.W PySem.Spec PySem.Calls PyProof.Rows
set_option maxRecDepth 100000
set_option maxHeartbeats 0
local macro_rules | `(tactic| walk_at "my_in") => `(tactic| ((case kA => exact rfl); (case kF => exact rfl); (case kK => first | assumption | exact rfl); (case k1 => k_asm); (case k2 => k_asm); (case k3 => k_asm); (case k5 => k_asm); (case k6 => k_is); (case k7 => k_is); (case k8 => ktr_room); (case k9 => exact BindsTo.of_eq rfl); (case c5 => decide); (case kB => exact locs rfl); (case c2 => exact rfl); (case c3 => exact rfl); (case c4 => exact rfl); (case kR => exact rfl); (case kM => (intro y; (repeat refine lk_cons' _ _ _ _ ?_); exact rfl))))
local macro_rules | `(tactic| walk_at "my_inC") => `(tactic| ((case kA => exact rfl); (case kF => exact rfl); (case kK => first | assumption | exact rfl); (case k1 => k_asm); (case k2 => k_asm); (case k3 => k_asm); (case k5 => k_asm); (case k6 => k_is); (case k7 => k_is); (case k8 => ktr_room); (case k9 => exact BindsTo.of_eq rfl); (case kB => exact rfl); (case kD => decide +kernel); (case c2 => exact rfl); (case c3 => exact rfl); (case c4 => exact rfl); (case kM => (intro L'; rfl)); (case kC => (intro L'; rfl))))
local macro_rules | `(tactic| kmk_nums) => `(tactic| first | ((with_reducible refine' kmk_all ?gi); (case gi => l_ints)) | ((with_reducible refine' kmk_upto ?gi ?gx); (case gi => l_ints); (case gx => first | with_reducible assumption | decide | omega)))
local macro_rules | `(tactic| walk_at "eval ListComp") => `(tactic| k_extra "comp")
local macro_rules | `(tactic| walk_at "call type:zip") => `(tactic| k_extra "zip")
local macro_rules | `(tactic| wrow_close) => `(tactic| k_extra "ends")
local macro_rules | `(tactic| walk_at "call ref") => `(tactic| k_extra "call")
local macro_rules | `(tactic| walk_at "compareOp NotEq ref ref") => `(tactic| k_extra "cmpne")
local macro_rules | `(tactic| walk_at "compareOp Eq ref ref") => `(tactic| k_extra "cmpeq")
local macro_rules | `(tactic| walk_at "call builtin:sorted") => `(tactic| k_extra "sorted")
local macro_rules | `(tactic| walk_at "binaryOp Add ref ref") => `(tactic| k_extra "cat")
local macro_rules | `(tactic| k_room) => `(tactic| ktr_room)
local macro_rules | `(tactic| walk_at "my_inJ") => `(tactic| ((case kA => exact rfl); (case kF => exact rfl); (case kK => first | assumption | exact rfl); (case k1 => k_asm); (case k2 => k_asm); (case k3 => k_asm); (case k4 => assumption); (case k5 => k_asm); (case k6 => k_is); (case k7 => k_is); (case k8 => ktr_room); (case k9 => exact BindsTo.of_eq rfl); (case kB => exact rfl); (case kD => decide +kernel); (case c2 => exact rfl); (case c3 => exact rfl); (case c4 => exact rfl); (case kM => (intro L'; rfl)); (case kC => (intro L'; rfl))))
local macro_rules | `(tactic| walk_at "FiltSrc") => `(tactic| k_extra "src")
local macro_rules | `(tactic| walk_at "FiltAny") => `(tactic| k_extra "srcA")
local macro_rules | `(tactic| walk_at "call type:list") => `(tactic| k_extra "listr")
local macro_rules | `(tactic| walk_at "subscriptTail") => `(tactic| k_extra "item")
section
variable {w : World} {p : Program} {loose : List Str} {mean : ExcName → Option Value} {mg mb0 : Str → Option Value} {dp un : Nat} {gd : Option (List Code)} {cn : Str} {cs : Scope} {a : Addr} {ccd : Value} {cl : List (Str × Addr)} {outer : List Env} {A₀ : Around} {base h₀ : Heap} {L : Addr} {m : Str → Option Value} {s : Shared} {Q E : Value → Shared → Prop}

theorem dues_spec {vt vmx vmt : Value} {b mb : Bool} {P mP : List Int} {f n : Nat} {c : Bool} {td tm : Addr} {tf tn : Tok} {ps : Array Value}
    (C : Cx w p loose mean mg mb0 dp un cs outer A₀ base h₀ L m s 16)
    (hN : News h₀ L s.heap [(265, tabObj ps)]) (hT : TabIs s.heap ps)
    (hd1 : IsTup s.heap td #[.int (f : Int) tf, .int (n : Int) tn, .ref tm]) (hd2 : IsTup s.heap tm #[vmx, vmt])
    (ht : NumH s.heap vt (b, P)) (hm : NumH s.heap vmt (mb, mP)) (hP1 : P.length < 2 ^ 13) (hP2 : mP.length < 2 ^ 13) (hn : n < 2 ^ 10) (hf : f < 3)
    (hc : (#[.bool true, .bool false, .bool (!(decide ((n : Int) ∈ P) != b))] : Array Value)[(f : Int).toNat]? = some (.bool c))
    (ret : ∀ ns' : List Int, ns'.Perm ((P.filter fun q => q != (n : Int)) ++ if (c != b) = true then [(n : Int)] else []) → RetJ h₀ L m s Q (b, ns')) :
    wpAny (model PR w) (ktrTop dp un gd cn cs L a ccd cl outer) (call (.ref 273) [.ref td, vt]) Q E s := by
  k_with_none
  have hp := (hN _ (.head _)).1
  obtain ⟨tx, lx, wx, rfl, itx, ilx, iix⟩ := ht.open
  obtain ⟨ty, ly, wy, rfl, ity, ily, iiy⟩ := hm.open
  dsimp only at itx iix ity iiy
  obtain ⟨B, F, X, T, hk, hd, hu⟩ := C
  refine wpAny_call ?_
  refine' enterJ [(Str.ofString "deed", Value.ref td), (Str.ofString "told", Value.ref tx)] (fun y => if y = Str.ofString "told" then some (Value.ref tx) else if y = Str.ofString "deed" then some (Value.ref td) else none) (fun _ => none) ?k1 ?k2 ?k3 ?k4 ?k5 ?kA ?kF ?kK ?k6 ?k7 ?k8 ?k9 ?kB ?kD ?kM ?kC ?_ ?c2 ?c3 ?c4
  walk_at "my_inJ"
  intro g L' h' tk' cells ST SB sz FG' F' N' Y' lt265 B' X' T'
  replace hT := hT.stay ST
  obtain ⟨o1, hE, d1⟩ := CellsAre.one Y'
  subst hE
  clear Y'
  replace lt265 := ltN lt265
  (try simp only [List.cons_append, List.nil_append] at N')
  have itd' := isTup_stay hp ST hd1
  have itm' := isTup_stay hp ST hd2
  have itx' := isTup_stay hp ST itx
  have ilx' := isList_stay hp ST ilx
  have ity' := isTup_stay hp ST ity
  have ily' := isList_stay hp ST ily
  have hx' := NumH.stay hp ST ht
  have hy' := NumH.stay hp ST hm
  have hz1 : wx.toArray.size ≤ sizeLine := by
    rw [List.size_toArray, iix.length, sizeLine_eq]; omega
  clear itx ilx ity ily ht hm hp hd1 hd2
  try dsimp only
  try k_fold
  refine let_A ?_
  intro ak
  k_with "execs cons" => ((with_reducible show wpAny _ _ _ _ _ (PySem.Shared.mk _ _ _ (HAdd.hAdd _ _) _)); refine repack s rfl ?_; intro tk9)
  k_with "call" => (
     (with_reducible show wpAny _ _ (call (Value.ref 256) _) _ _ _)
     k_here
     k_dflt (refine' has_spec (b := b) (P := P) ⟨?k1, ?k2, ?k3, ?k4, ?k5, ?k6, ?k7⟩ ?hx hP1 ?_)
     (case k1 => k_asm)
     (case k2 => k_asm)
     (case k3 => k_asm)
     (case k4 => k_asm)
     (case k5 => first | exact rfl | assumption)
     (case k6 => ktr_room)
     (case k7 => ktr_units)
     (case hx => exact NumH.keeps hx' (frStays (by assumption)))
     intro h9 tk9 F9 S91
     have N9 := newsK (by assumption) S91
     (try dsimp only)
     (try k_sweep)
     (try k_fold))
  k_with "item" => (
     (with_reducible show wpAny _ _ (subscriptTail _ _ (Value.ref _) (Value.int (f : Int) _)) _ _ _)
     k_here
     (rename News _ _ _ _ => N0)
     k_dflt (refine' list_itemK (x := .bool c) (items := #[.bool true, .bool false, .bool (!(decide ((n : Int) ∈ P) != b))]) N0 ?il ?i0 ?i1 hc ?_ ?i2)
     (case il => k_dflt k_mem)
     (case i0 => omega)
     (case i1 => omega)
     (case i2 => with_unfolding_all rfl)
     (try dsimp only)
     (try k_fold))
  k_with "cat" => (
     k_dflt (refine' kmk_add_ints ?zF ?zN ?za ?zb ?zi ?zj ?_ (due_len hP1))
     (case zF => k_asm)
     (case zN => k_asm)
     (case za => k_dflt kmk_list)
     (case zb => k_dflt kmk_list)
     (case zi => assumption)
     (case zj => assumption)
     intro D' ws' h' F' N' l1 hI'
     (try k_lt l1)
     (try k_sweep))
  k_with "sorted" => (
     k_dflt (refine' sorted_PN ?zF ?zN ?za ?zi (due_len' hP1) ?_)
     (case zF => k_asm)
     (case zN => k_asm)
     (case za => k_dflt kmk_list)
     (case zi => assumption)
     intro D' h' vs' ns' e' F' N' l1 i' p'
     (try k_lt l1)
     (try k_sweep))
  k_with "ends" => (
     refine' retJ2 (ret _ (due_perm (by assumption))) ?rF ?rS ?rG ?rN ?r1 hT ?r2
     (case rF => assumption)
     (case rS => assumption)
     (case rG => assumption)
     (case rN => assumption)
     (case r1 => k_dflt k_mem)
     (case r2 => (refine' numH_news ?na ?nb ?nc ?nd; (case na => assumption); (case nb => k_dflt k_mem); (case nc => k_dflt k_mem); (case nd => assumption))))
  k_steps
  all_goals first
    | exact Value.none
    | exact (0 : Nat)
    | exact Str.ofString ""

end
end Mine
namespace Mine
open PySem PySem.W PySem.Spec PySem.Calls PyProof.Rows
set_option maxRecDepth 100000
set_option maxHeartbeats 0
local macro_rules | `(tactic| walk_at "my_in") => `(tactic| ((case kA => exact rfl); (case kF => exact rfl); (case kK => first | assumption | exact rfl); (case k1 => k_asm); (case k2 => k_asm); (case k3 => k_asm); (case k5 => k_asm); (case k6 => k_is); (case k7 => k_is); (case k8 => ktr_room); (case k9 => exact BindsTo.of_eq rfl); (case c5 => decide); (case kB => exact locs rfl); (case c2 => exact rfl); (case c3 => exact rfl); (case c4 => exact rfl); (case kR => exact rfl); (case kM => (intro y; (repeat refine lk_cons' _ _ _ _ ?_); exact rfl))))
local macro_rules | `(tactic| walk_at "my_inC") => `(tactic| ((case kA => exact rfl); (case kF => exact rfl); (case kK => first | assumption | exact rfl); (case k1 => k_asm); (case k2 => k_asm); (case k3 => k_asm); (case k5 => k_asm); (case k6 => k_is); (case k7 => k_is); (case k8 => ktr_room); (case k9 => exact BindsTo.of_eq rfl); (case kB => exact rfl); (case kD => decide +kernel); (case c2 => exact rfl); (case c3 => exact rfl); (case c4 => exact rfl); (case kM => (intro L'; rfl)); (case kC => (intro L'; rfl))))
local macro_rules | `(tactic| kmk_nums) => `(tactic| first | ((with_reducible refine' kmk_all ?gi); (case gi => l_ints)) | ((with_reducible refine' kmk_upto ?gi ?gx); (case gi => l_ints); (case gx => first | with_reducible assumption | decide | omega)))
local macro_rules | `(tactic| walk_at "eval ListComp") => `(tactic| k_extra "comp")
local macro_rules | `(tactic| walk_at "call type:zip") => `(tactic| k_extra "zip")
local macro_rules | `(tactic| wrow_close) => `(tactic| k_extra "ends")
local macro_rules | `(tactic| walk_at "call ref") => `(tactic| k_extra "call")
local macro_rules | `(tactic| walk_at "compareOp NotEq ref ref") => `(tactic| k_extra "cmpne")
local macro_rules | `(tactic| walk_at "compareOp Eq ref ref") => `(tactic| k_extra "cmpeq")
local macro_rules | `(tactic| walk_at "call builtin:sorted") => `(tactic| k_extra "sorted")
local macro_rules | `(tactic| walk_at "binaryOp Add ref ref") => `(tactic| k_extra "cat")
local macro_rules | `(tactic| k_room) => `(tactic| ktr_room)
local macro_rules | `(tactic| walk_at "my_inJ") => `(tactic| ((case kA => exact rfl); (case kF => exact rfl); (case kK => first | assumption | exact rfl); (case k1 => k_asm); (case k2 => k_asm); (case k3 => k_asm); (case k4 => assumption); (case k5 => k_asm); (case k6 => k_is); (case k7 => k_is); (case k8 => ktr_room); (case k9 => exact BindsTo.of_eq rfl); (case kB => exact rfl); (case kD => decide +kernel); (case c2 => exact rfl); (case c3 => exact rfl); (case c4 => exact rfl); (case kM => (intro L'; rfl)); (case kC => (intro L'; rfl))))
local macro_rules | `(tactic| walk_at "FiltSrc") => `(tactic| k_extra "src")
local macro_rules | `(tactic| walk_at "FiltAny") => `(tactic| k_extra "srcA")
section
variable {w : World} {p : Program} {loose : List Str} {mean : ExcName → Option Value} {mg mb : Str → Option Value} {dp un : Nat} {gd : Option (List Code)} {cn : Str} {cs : Scope} {a : Addr} {ccd : Value} {cl : List (Str × Addr)} {outer : List Env} {A₀ : Around} {base h₀ : Heap} {L : Addr} {m : Str → Option Value} {s : Shared} {Q E : Value → Shared → Prop}

theorem joined_spec {vx vy : Value} {b1 b2 : Bool} {P1 P2 : List Int} {form : Int} {tf : Tok} {op : Bool → Bool → Bool} {ps : Array Value}
    (C : Cx w p loose mean mg mb dp un cs outer A₀ base h₀ L m s 12)
    (hf : (form = 0 ∧ op = fun x y => x && y) ∨ (form = 1 ∧ op = fun x y => x || y) ∨ (form = 2 ∧ op = fun x y => x != y))
    (hN : News h₀ L s.heap [(265, tabObj ps)]) (hT : TabIs s.heap ps)
    (hx : NumH s.heap vx (b1, P1)) (hy : NumH s.heap vy (b2, P2)) (hP1 : P1.length < 2 ^ 13) (hP2 : P2.length < 2 ^ 13)
    (ret : ∀ ns' : List Int, ns'.Perm (P1 ++ P2.filter fun n => !(P1.any fun x => x == n)) → RetJT h₀ L m s Q (op b1 b2, ns'.filter fun n => (op (decide (n ∈ P1) != b1) (decide (n ∈ P2) != b2)) != op b1 b2)) :
    wpAny (model PR w) (ktrTop dp un gd cn cs L a ccd cl outer) (call (.ref 268) [.int form tf, vx, vy]) Q E s := by
  k_with_none
  have hp := (hN _ (.head _)).1
  obtain ⟨tx, lx, wx, rfl, itx, ilx, iix⟩ := hx.open
  obtain ⟨ty, ly, wy, rfl, ity, ily, iiy⟩ := hy.open
  dsimp only at itx iix ity iiy
  obtain ⟨B, F, X, T, hk, hd, hu⟩ := C
  refine wpAny_call ?_
  refine' enterJ [(Str.ofString "form", Value.int form tf), (Str.ofString "one", Value.ref tx), (Str.ofString "other", Value.ref ty)] (fun y => if y = Str.ofString "form" then some (Value.int form tf) else none) (fun y => if y = Str.ofString "other" then some (Value.ref ty) else if y = Str.ofString "one" then some (Value.ref tx) else none) ?k1 ?k2 ?k3 ?k4 ?k5 ?kA ?kF ?kK ?k6 ?k7 ?k8 ?k9 ?kB ?kD ?kM ?kC ?_ ?c2 ?c3 ?c4
  walk_at "my_inJ"
  intro g L' h' tk' cells ST SB sz FG' F' N' Y' lt265 B' X' T'
  replace hT := hT.stay ST
  obtain ⟨o1, o2, o3, o4, hE, d1, d2, d3, d4⟩ := CellsAre.four Y'
  subst hE
  clear Y'
  replace lt265 := ltN lt265
  simp (decide := true) only [if_true, if_false] at d1 d2 d3 d4
  (try simp only [List.cons_append, List.nil_append] at N')
  have itx' := isTup_stay hp ST itx
  have ilx' := isList_stay hp ST ilx
  have ity' := isTup_stay hp ST ity
  have ily' := isList_stay hp ST ily
  have hx' := NumH.stay hp ST hx
  have hy' := NumH.stay hp ST hy
  clear itx ilx ity ily hx hy hp
  have CH : CodeHd g 267 265 := codeHd_of_K X' (by k_dflt rfl)
  try dsimp only
  try k_fold
  refine let_A ?_
  intro ak
  k_with "execs cons" => ((with_reducible show wpAny _ _ _ _ _ (PySem.Shared.mk _ _ _ (HAdd.hAdd _ _) _)); refine repack s rfl ?_; intro tk9)
  refine wpAny_execs_cons (wpAny_mono (Q := JMid w g L' (fun y => if y = Str.ofString "form" then some (Value.int form tf) else none) s o1 o3 o4 op) ?first ?rest fun _ _ e => e)
  case first =>
    clear hN ST SB sz FG' B F X T
    k_with "ends" => first
      | (refine' JMid.hit ?zF ?zN ?z1 ?z2 ?zd ?z3 ?z4 ?zf ?zt ?za ?zl ?zm
         (case zF => assumption)
         (case zN => assumption)
         (case z1 => k_dflt k_mem)
         (case z2 => k_dflt k_mem)
         (case zd => assumption)
         (case z3 => k_dflt k_mem)
         (case z4 => k_dflt k_mem)
         (case zf => k_dflt k_mem)
         (case zt => k_dflt k_mem)
         (case za => assumption)
         (case zl => omega)
         (case zm => k_dflt (first | exact fun x y C ho hF ret => lam_call _ C ho hF.r0 rfl rfl rfl rfl rfl rfl (by decide) (fun A' L' s' Q' E' hn h => lam_and rfl rfl rfl hn h) ret | exact fun x y C ho hF ret => lam_call _ C ho hF.r1 rfl rfl rfl rfl rfl rfl (by decide) (fun A' L' s' Q' E' hn h => lam_or rfl rfl rfl hn h) ret | exact fun x y C ho hF ret => lam_call _ C ho hF.r2 rfl rfl rfl rfl rfl rfl (by decide) (fun A' L' s' Q' E' hn h => lam_ne rfl rfl rfl hn h) ret)))
      | (refine' JMid.nest ?zF ?zN ?z1 ?z2 ?zd ?z3 ?z4 ?zf ?zt ?ze ?zg ?zh ?zi ?zj ?zk ?zo ?zp ?zq ?zl ?zm
         (case zF => assumption)
         (case zN => assumption)
         (case z1 => k_dflt k_mem)
         (case z2 => k_dflt k_mem)
         (case zd => assumption)
         (case z3 => k_dflt k_mem)
         (case z4 => k_dflt k_mem)
         (case zf => k_dflt k_mem)
         (case zt => k_dflt k_mem)
         (case ze => k_dflt k_mem)
         (case zg => k_dflt k_mem)
         (case zh => k_dflt k_mem)
         (case zi => assumption)
         (case zj => assumption)
         (case zk => assumption)
         (case zo => k_dflt assumption)
         (case zp => k_dflt assumption)
         (case zq => k_dflt assumption)
         (case zl => refine ⟨?_, ?_, ?_, ?_, ?_⟩ <;> omega)
         (case zm => k_dflt (first | exact fun x y C ho hF ret => lam_call _ C ho hF.r0 rfl rfl rfl rfl rfl rfl (by decide) (fun A' L' s' Q' E' hn h => lam_and rfl rfl rfl hn h) ret | exact fun x y C ho hF ret => lam_call _ C ho hF.r1 rfl rfl rfl rfl rfl rfl (by decide) (fun A' L' s' Q' E' hn h => lam_or rfl rfl rfl hn h) ret | exact fun x y C ho hF ret => lam_call _ C ho hF.r2 rfl rfl rfl rfl rfl rfl (by decide) (fun A' L' s' Q' E' hn h => lam_ne rfl rfl rfl hn h) ret)))
    rcases hf with ⟨rfl, rfl⟩ | ⟨rfl, rfl⟩ | ⟨rfl, rfl⟩
    all_goals (cases hT)
    k_steps
  case rest =>
    clear N' F' hT d2
    intro fl s' hJ
    obtain ⟨rfl, h', tk', fL, oc, od, fd, sl, o2, e0, e1, e2, x0, x1, x2, c0, c1, c2, rfl, F', N', d2, lt9, hFull, hLam⟩ := hJ
    have hz1 : wx.toArray.size ≤ sizeLine := by
      rw [List.size_toArray, iix.length, sizeLine_eq]; omega
    have hz2 : wy.toArray.size ≤ sizeLine := by
      rw [List.size_toArray, iiy.length, sizeLine_eq]; omega
    have hz3 : P1.length + (P2.filter fun n => !(P1.any fun x => x == n)).length ≤ sizeLine := by
      have := List.length_filter_le (fun n => !(P1.any fun x => x == n)) P2
      rw [sizeLine_eq]; omega
    have hz4 : (P1 ++ P2.filter fun n => !(P1.any fun x => x == n)).length < 2 ^ 20 := by
      have := List.length_filter_le (fun n => !(P1.any fun x => x == n)) P2
      rw [List.length_append]; omega
    dsimp only
    k_with "call" => (
     (with_reducible show wpAny _ _ (call (Value.ref 256) _) _ _ _)
     k_here
     k_dflt (refine' has_spec (b := b1) (P := P1) ⟨?k1, ?k2, ?k3, ?k4, ?k5, ?k6, ?k7⟩ ?hx hP1 ?_)
     (case k1 => k_asm)
     (case k2 => k_asm)
     (case k3 => k_asm)
     (case k4 => k_asm)
     (case k5 => first | exact rfl | assumption)
     (case k6 => ktr_room)
     (case k7 => ktr_units)
     (case hx => exact NumH.keeps hx' (frStays (by assumption)))
     intro h9 tk9 F9 S91
     have N9 := newsK (by assumption) S91
     (try dsimp only)
     (try k_sweep)
     (try k_fold))
    k_with "call" => (
     (with_reducible show wpAny _ _ (call (Value.ref 256) _) _ _ _)
     k_here
     k_dflt (refine' has_spec (b := b2) (P := P2) ⟨?k1, ?k2, ?k3, ?k4, ?k5, ?k6, ?k7⟩ ?hx hP2 ?_)
     (case k1 => k_asm)
     (case k2 => k_asm)
     (case k3 => k_asm)
     (case k4 => k_asm)
     (case k5 => first | exact rfl | assumption)
     (case k6 => ktr_room)
     (case k7 => ktr_units)
     (case hx => exact NumH.keeps hy' (frStays (by assumption)))
     intro h9 tk9 F9 S92
     have N9 := newsK (by assumption) S92
     (try dsimp only)
     (try k_sweep)
     (try k_fold))
    k_with "call" => (
     (with_reducible show wpAny _ _ (call (Value.ref fL) _) _ _ _)
     k_here
     k_dflt (refine' hLam _ _ ⟨?k1, ?k2, ?k3, ?k4, ?k5, ?k6, ?k7⟩ ?hf ?hF ?_)
     (case k1 => k_asm)
     (case k2 => k_asm)
     (case k3 => k_asm)
     (case k4 => k_asm)
     (case k5 => first | exact rfl | assumption)
     (case k6 => ktr_room)
     (case k7 => ktr_units)
     (case hf => (refine' newsGet ?z1 ?z2; (case z1 => assumption); (case z2 => k_dflt k_mem)))
     (case hF => (refine' hFull _ (frStays (by assumption)) ?y1 ?y2 ?y3; (case y1 => (refine' newsGet ?za ?zb; (case za => assumption); (case zb => k_dflt k_mem))); (case y2 => (refine' newsGet ?zc ?zd; (case zc => assumption); (case zd => k_dflt k_mem))); (case y3 => (refine' newsGet ?ze ?zf; (case ze => assumption); (case zf => k_dflt k_mem)))))
     intro h9 tk9 F9 S93
     have N9 := newsK (by assumption) S93
     (try dsimp only)
     (try k_sweep)
     (try k_fold))
    k_with "comp" => (
     (with_reducible show wpAny _ _ (eval (PySem.Expr.ListComp _ [⟨_, PySem.Expr.Subscript _ _ _, _, _⟩] _ _) _) _ _ _)
     k_here
     k_dflt (refine' comp_filter P2 (fun n => !(P1.any fun x => x == n)) ?zF ?z1 ?z2 ?z3 ?z4 ?z5 ?z6 ?_)
     (case zF => k_asm)
     (case z1 => with_unfolding_all rfl)
     (case z2 => decide)
     (case z3 => k_dflt rfl)
     (case z4 => decide)
     (case z5 => k_dflt rfl)
     (case z6 => decide))
    k_with "ends" => first
      | exact ⟨rfl, _, _, rfl, fun _ _ e => e⟩
      | exact ⟨rfl, _, _, rfl, fun b o e => S93 b o (S92 b o (S91 b o e))⟩
      | (refine' retJT (ret _ (by assumption)) ?rF ?rS ?rG ?rN ?r1 ?r2 ?r3 ?r4 ?r5 ?r6
         (case rF => assumption)
         (case rS => assumption)
         (case rG => assumption)
         (case rN => assumption)
         (case r1 => k_dflt k_mem)
         (case r2 => k_dflt k_mem)
         (case r3 => k_dflt k_mem)
         (case r4 => assumption)
         (case r5 => (refine' hFull _ (frStays (by assumption)) ?y1 ?y2 ?y3; (case y1 => (refine' newsGet ?za ?zb; (case za => assumption); (case zb => k_dflt k_mem))); (case y2 => (refine' newsGet ?zc ?zd; (case zc => assumption); (case zd => k_dflt k_mem))); (case y3 => (refine' newsGet ?ze ?zf; (case ze => assumption); (case zf => k_dflt k_mem)))))
         (case r6 => rfl))
    k_with "cat" => (
     k_dflt (refine' kmk_add_ints ?zF ?zN ?za ?zb ?zi ?zj ?_ hz3)
     (case zF => k_asm)
     (case zN => k_asm)
     (case za => k_dflt kmk_list)
     (case zb => k_dflt kmk_list)
     (case zi => assumption)
     (case zj => assumption)
     intro D' ws' h' F' N' l1 hI'
     (try k_lt l1)
     (try k_sweep))
    k_with "sorted" => (
     k_dflt (refine' sorted_PN ?zF ?zN ?za ?zi hz4 ?_)
     (case zF => k_asm)
     (case zN => k_asm)
     (case za => k_dflt kmk_list)
     (case zi => assumption)
     intro D' h' vs' ns' e' F' N' l1 i' p'
     have hz5 : vs'.toArray.size ≤ sizeLine := by
       rw [List.size_toArray, i'.length, p'.length_eq, List.length_append]; exact hz3
     (try k_lt l1)
     (try k_sweep))
    k_with "comp" => (
     (with_reducible show wpAny _ _ (eval (PySem.Expr.ListComp _ [⟨_, PySem.Expr.Call _ _ _ _, _, _⟩] _ _) _) _ _ _)
     k_here
     k_dflt (refine' comp_filterA (fun n => (op (decide (n ∈ P1) != b1) (decide (n ∈ P2) != b2)) != op b1 b2) ?zF ?z1 ?z2 ?z3 ?z4 ?z5 ?z6 ?_)
     (case zF => k_asm)
     (case z1 => with_unfolding_all rfl)
     (case z2 => decide)
     (case z3 => k_dflt rfl)
     (case z4 => decide)
     (case z5 => k_dflt rfl)
     (case z6 => decide))
    k_with "src" => (
     k_dflt (refine' FiltSrc.intro ?hh ?zF ?zN ?zS ?zz ?zi ?_ ?_)
     (case hh => k_dflt rfl)
     (case zF => k_asm)
     (case zN => k_asm)
     (case zS => first | exact Or.inl (by assumption) | exact srcNews (by k_dflt k_mem))
     (case zz => assumption)
     (case zi => assumption)
     ((intro n5 t5 I5 oI5 C5 oC5 D5 ys5 m5 h5 tk5 E5 hm5 hC5 hx5 F5 N5 off5 ne5; (try simp only [LCg.Off3, and_true] at off5)))
     rotate_left
     ((intro D5 h5 tk5 ys5 F5 N5 o5 hi5; (try simp only [LCg.Off1, and_true] at o5)))
     rotate_right
     all_goals (try dsimp only)
     all_goals (try k_fold))
    k_with "srcA" => (
     k_dflt (refine' FiltAny.intro ?yh ?yF ?yN ?yS ?yz ?yi ?_ ?_)
     (case yh => k_dflt rfl)
     (case yF => k_asm)
     (case yN => k_asm)
     (case yS => first | exact Or.inl (by assumption) | exact srcNews (by k_dflt k_mem))
     (case yz => assumption)
     (case yi => assumption)
     ((intro n5 t5 I5 oI5 C5 oC5 D5 ys5 m5 h5 tk5 E5 hm5 hC5 hx5 F5 N5 off5 ne5; (try simp only [LCg.Off3, and_true] at off5)))
     rotate_left
     ((intro D5 h5 tk5 ys5 F5 N5 o5 hi5; (try simp only [LCg.Off1, and_true] at o5)))
     rotate_right
     all_goals (try dsimp only)
     all_goals (try k_fold))
    k_steps

end
end Mine
namespace Mine
open PySem PySem.W PySem.Spec PySem.Calls PyProof.Rows
set_option maxRecDepth 100000
set_option maxHeartbeats 0
local macro_rules | `(tactic| walk_at "my_in") => `(tactic| ((case kA => exact rfl); (case kF => exact rfl); (case kK => first | assumption | exact rfl); (case k1 => k_asm); (case k2 => k_asm); (case k3 => k_asm); (case k5 => k_asm); (case k6 => k_is); (case k7 => k_is); (case k8 => ktr_room); (case k9 => exact BindsTo.of_eq rfl); (case c5 => decide); (case kB => exact locs rfl); (case c2 => exact rfl); (case c3 => exact rfl); (case c4 => exact rfl); (case kR => exact rfl); (case kM => (intro y; (repeat refine lk_cons' _ _ _ _ ?_); exact rfl))))
local macro_rules | `(tactic| walk_at "my_inC") => `(tactic| ((case kA => exact rfl); (case kF => exact rfl); (case kK => first | assumption | exact rfl); (case k1 => k_asm); (case k2 => k_asm); (case k3 => k_asm); (case k5 => k_asm); (case k6 => k_is); (case k7 => k_is); (case k8 => ktr_room); (case k9 => exact BindsTo.of_eq rfl); (case kB => exact rfl); (case kD => decide +kernel); (case c2 => exact rfl); (case c3 => exact rfl); (case c4 => exact rfl); (case kM => (intro L'; rfl)); (case kC => (intro L'; rfl))))
local macro_rules | `(tactic| kmk_nums) => `(tactic| first | ((with_reducible refine' kmk_all ?gi); (case gi => l_ints)) | ((with_reducible refine' kmk_upto ?gi ?gx); (case gi => l_ints); (case gx => first | with_reducible assumption | decide | omega)))
local macro_rules | `(tactic| walk_at "eval ListComp") => `(tactic| k_extra "comp")
local macro_rules | `(tactic| walk_at "call type:zip") => `(tactic| k_extra "zip")
local macro_rules | `(tactic| wrow_close) => `(tactic| k_extra "ends")
local macro_rules | `(tactic| walk_at "call ref") => `(tactic| k_extra "call")
local macro_rules | `(tactic| walk_at "compareOp NotEq ref ref") => `(tactic| k_extra "cmpne")
local macro_rules | `(tactic| walk_at "compareOp Eq ref ref") => `(tactic| k_extra "cmpeq")
local macro_rules | `(tactic| walk_at "call builtin:sorted") => `(tactic| k_extra "sorted")
local macro_rules | `(tactic| walk_at "binaryOp Add ref ref") => `(tactic| k_extra "cat")
local macro_rules | `(tactic| k_room) => `(tactic| ktr_room)
local macro_rules | `(tactic| walk_at "my_inJ") => `(tactic| ((case kA => exact rfl); (case kF => exact rfl); (case kK => first | assumption | exact rfl); (case k1 => k_asm); (case k2 => k_asm); (case k3 => k_asm); (case k4 => assumption); (case k5 => k_asm); (case k6 => k_is); (case k7 => k_is); (case k8 => ktr_room); (case k9 => exact BindsTo.of_eq rfl); (case kB => exact rfl); (case kD => decide +kernel); (case c2 => exact rfl); (case c3 => exact rfl); (case c4 => exact rfl); (case kM => (intro L'; rfl)); (case kC => (intro L'; rfl))))
local macro_rules | `(tactic| walk_at "FiltSrc") => `(tactic| k_extra "src")
local macro_rules | `(tactic| walk_at "FiltAny") => `(tactic| k_extra "srcA")
local macro_rules | `(tactic| walk_at "call type:list") => `(tactic| k_extra "listr")
section
variable {w : World} {p : Program} {loose : List Str} {mean : ExcName → Option Value} {mg mb0 : Str → Option Value} {dp un : Nat} {gd : Option (List Code)} {cn : Str} {cs : Scope} {a : Addr} {ccd : Value} {cl : List (Str × Addr)} {outer : List Env} {A₀ : Around} {base h₀ : Heap} {L : Addr} {m : Str → Option Value} {s : Shared} {Q E : Value → Shared → Prop}

theorem duej_spec {vt vmx vmt : Value} {b mb : Bool} {P mP : List Int} {f n : Nat} {op : Bool → Bool → Bool} {td tm : Addr} {tf tn : Tok} {ps : Array Value}
    (C : Cx w p loose mean mg mb0 dp un cs outer A₀ base h₀ L m s 16)
    (hN : News h₀ L s.heap [(265, tabObj ps)]) (hT : TabIs s.heap ps)
    (hd1 : IsTup s.heap td #[.int (f : Int) tf, .int (n : Int) tn, .ref tm]) (hd2 : IsTup s.heap tm #[vmx, vmt])
    (ht : NumH s.heap vt (b, P)) (hm : NumH s.heap vmt (mb, mP)) (hP1 : P.length < 2 ^ 13) (hP2 : mP.length < 2 ^ 13) (hn : n < 2 ^ 10) (hf3 : 3 ≤ f) (hf6 : f < 6)
    (hop : ((f : Int) - 3 = 0 ∧ op = fun x y => x && y) ∨ ((f : Int) - 3 = 1 ∧ op = fun x y => x || y) ∨ ((f : Int) - 3 = 2 ∧ op = fun x y => x != y))
    (ret : ∀ ns' : List Int, ns'.Perm (P ++ mP.filter fun n => !(P.any fun x => x == n)) → RetJ h₀ L m s Q (op b mb, ns'.filter fun n => (op (decide (n ∈ P) != b) (decide (n ∈ mP) != mb)) != op b mb)) :
    wpAny (model PR w) (ktrTop dp un gd cn cs L a ccd cl outer) (call (.ref 273) [.ref td, vt]) Q E s := by
  k_with_none
  have hp := (hN _ (.head _)).1
  obtain ⟨tx, lx, wx, rfl, itx, ilx, iix⟩ := ht.open
  obtain ⟨ty, ly, wy, rfl, ity, ily, iiy⟩ := hm.open
  dsimp only at itx iix ity iiy
  obtain ⟨B, F, X, T, hk, hd, hu⟩ := C
  refine wpAny_call ?_
  refine' enterJ [(Str.ofString "deed", Value.ref td), (Str.ofString "told", Value.ref tx)] (fun y => if y = Str.ofString "told" then some (Value.ref tx) else if y = Str.ofString "deed" then some (Value.ref td) else none) (fun _ => none) ?k1 ?k2 ?k3 ?k4 ?k5 ?kA ?kF ?kK ?k6 ?k7 ?k8 ?k9 ?kB ?kD ?kM ?kC ?_ ?c2 ?c3 ?c4
  walk_at "my_inJ"
  intro g L' h' tk' cells ST SB sz FG' F' N' Y' lt265 B' X' T'
  replace hT := hT.stay ST
  obtain ⟨o1, hE, d1⟩ := CellsAre.one Y'
  subst hE
  clear Y'
  replace lt265 := ltN lt265
  (try simp only [List.cons_append, List.nil_append] at N')
  have itd' := isTup_stay hp ST hd1
  have itm' := isTup_stay hp ST hd2
  have itx' := isTup_stay hp ST itx
  have ilx' := isList_stay hp ST ilx
  have ity' := isTup_stay hp ST ity
  have ily' := isList_stay hp ST ily
  have hx' := NumH.stay hp ST ht
  have hy' := NumH.stay hp ST hm
  have hz1 : wx.toArray.size ≤ sizeLine := by
    rw [List.size_toArray, iix.length, sizeLine_eq]; omega
  clear itx ilx ity ily ht hm hp hd1 hd2
  try dsimp only
  try k_fold
  refine let_A ?_
  intro ak
  k_with "execs cons" => ((with_reducible show wpAny _ _ _ _ _ (PySem.Shared.mk _ _ _ (HAdd.hAdd _ _) _)); refine repack s rfl ?_; intro tk9)
  have hT9 := fun h (k : g.StaysIn h) => hT.stay (Stay1.of k)
  k_with "call" => (
     (with_reducible show wpAny _ _ (call (Value.ref 268) _) _ _ _)
     k_here
     k_dflt (refine' joined_spec (b1 := b) (b2 := mb) (P1 := P) (P2 := mP) (op := op) ⟨?k1, ?k2, ?k3, ?k4, ?k5, ?k6, ?k7⟩ ?hf ?hN (hT9 _ (frStays (by assumption))) ?hx ?hy hP1 hP2 (fun ns9 p9 => RetJ.toT ?_))
     (case k1 => k_asm)
     (case k2 => k_asm)
     (case k3 => k_asm)
     (case k4 => k_asm)
     (case k5 => first | exact rfl | assumption)
     (case k6 => ktr_room)
     (case k7 => ktr_units)
     (case hf => exact hop)
     (case hN => (refine' news_pick ?za ?zb News.nil; (case za => assumption); (case zb => k_dflt k_mem)))
     (case hx => exact NumH.keeps hx' (frStays (by assumption)))
     (case hy => exact NumH.keeps hy' (frStays (by assumption)))
     intro v9 ps9 h9 tk9 F9 S9 N9 T9 D9
     (try dsimp only at S9)
     (try dsimp only)
     (try k_fold))
  k_with "ends" => exact ret _ p9 v9 ps9 h9 _ (by assumption) (ST.trans (Stay1.trans (Stay1.of (frStays (by assumption))) S9)) (by assumption) T9 D9
  k_steps

end
end Mine
namespace Mine
open PySem PySem.W PySem.Spec PySem.Calls PyProof.Rows
set_option maxRecDepth 100000
set_option maxHeartbeats 0
local macro_rules | `(tactic| walk_at "my_in") => `(tactic| ((case kA => exact rfl); (case kF => exact rfl); (case kK => first | assumption | exact rfl); (case k1 => k_asm); (case k2 => k_asm); (case k3 => k_asm); (case k5 => k_asm); (case k6 => k_is); (case k7 => k_is); (case k8 => ktr_room); (case k9 => exact BindsTo.of_eq rfl); (case c5 => decide); (case kB => exact locs rfl); (case c2 => exact rfl); (case c3 => exact rfl); (case c4 => exact rfl); (case kR => exact rfl); (case kM => (intro y; (repeat refine lk_cons' _ _ _ _ ?_); exact rfl))))
local macro_rules | `(tactic| walk_at "my_inC") => `(tactic| ((case kA => exact rfl); (case kF => exact rfl); (case kK => first | assumption | exact rfl); (case k1 => k_asm); (case k2 => k_asm); (case k3 => k_asm); (case k5 => k_asm); (case k6 => k_is); (case k7 => k_is); (case k8 => ktr_room); (case k9 => exact BindsTo.of_eq rfl); (case kB => exact rfl); (case kD => decide +kernel); (case c2 => exact rfl); (case c3 => exact rfl); (case c4 => exact rfl); (case kM => (intro L'; rfl)); (case kC => (intro L'; rfl))))
local macro_rules | `(tactic| kmk_nums) => `(tactic| first | ((with_reducible refine' kmk_all ?gi); (case gi => l_ints)) | ((with_reducible refine' kmk_upto ?gi ?gx); (case gi => l_ints); (case gx => first | with_reducible assumption | decide | omega)))
local macro_rules | `(tactic| walk_at "eval ListComp") => `(tactic| k_extra "comp")
local macro_rules | `(tactic| walk_at "call type:zip") => `(tactic| k_extra "zip")
local macro_rules | `(tactic| wrow_close) => `(tactic| k_extra "ends")
local macro_rules | `(tactic| walk_at "call ref") => `(tactic| k_extra "call")
local macro_rules | `(tactic| walk_at "compareOp NotEq ref ref") => `(tactic| k_extra "cmpne")
local macro_rules | `(tactic| walk_at "compareOp Eq ref ref") => `(tactic| k_extra "cmpeq")
local macro_rules | `(tactic| walk_at "call builtin:sorted") => `(tactic| k_extra "sorted")
local macro_rules | `(tactic| walk_at "binaryOp Add ref ref") => `(tactic| k_extra "cat")
local macro_rules | `(tactic| k_room) => `(tactic| ktr_room)
local macro_rules | `(tactic| walk_at "my_inJ") => `(tactic| ((case kA => exact rfl); (case kF => exact rfl); (case kK => first | assumption | exact rfl); (case k1 => k_asm); (case k2 => k_asm); (case k3 => k_asm); (case k4 => assumption); (case k5 => k_asm); (case k6 => k_is); (case k7 => k_is); (case k8 => ktr_room); (case k9 => exact BindsTo.of_eq rfl); (case kB => exact rfl); (case kD => decide +kernel); (case c2 => exact rfl); (case c3 => exact rfl); (case c4 => exact rfl); (case kM => (intro L'; rfl)); (case kC => (intro L'; rfl))))
local macro_rules | `(tactic| walk_at "FiltSrc") => `(tactic| k_extra "src")
local macro_rules | `(tactic| walk_at "FiltAny") => `(tactic| k_extra "srcA")
local macro_rules | `(tactic| walk_at "call type:list") => `(tactic| k_extra "listr")
section
variable {w : World} {p : Program} {loose : List Str} {mean : ExcName → Option Value} {mg mb0 : Str → Option Value} {dp un : Nat} {gd : Option (List Code)} {cn : Str} {cs : Scope} {a : Addr} {ccd : Value} {cl : List (Str × Addr)} {outer : List Env} {A₀ : Around} {base h₀ : Heap} {L : Addr} {m : Str → Option Value} {s : Shared} {Q E : Value → Shared → Prop}

theorem due6_spec {vt vmx vmt : Value} {b mb : Bool} {P mP : List Int} {n : Nat} {td tm : Addr} {tf tn : Tok} {ps : Array Value}
    (C : Cx w p loose mean mg mb0 dp un cs outer A₀ base h₀ L m s 16)
    (hN : News h₀ L s.heap [(265, tabObj ps)]) (hT : TabIs s.heap ps)
    (hd1 : IsTup s.heap td #[.int 6 tf, .int (n : Int) tn, .ref tm]) (hd2 : IsTup s.heap tm #[vmx, vmt])
    (ht : NumH s.heap vt (b, P)) (hm : NumH s.heap vmt (mb, mP)) (hP1 : P.length < 2 ^ 13) (hP2 : mP.length < 2 ^ 13) (hn : n < 2 ^ 10)
    (ret : RetJ h₀ L m s Q (!b, P)) :
    wpAny (model PR w) (ktrTop dp un gd cn cs L a ccd cl outer) (call (.ref 273) [.ref td, vt]) Q E s := by
  k_with_none
  have hp := (hN _ (.head _)).1
  obtain ⟨tx, lx, wx, rfl, itx, ilx, iix⟩ := ht.open
  obtain ⟨ty, ly, wy, rfl, ity, ily, iiy⟩ := hm.open
  dsimp only at itx iix ity iiy
  obtain ⟨B, F, X, T, hk, hd, hu⟩ := C
  refine wpAny_call ?_
  refine' enterJ [(Str.ofString "deed", Value.ref td), (Str.ofString "told", Value.ref tx)] (fun y => if y = Str.ofString "told" then some (Value.ref tx) else if y = Str.ofString "deed" then some (Value.ref td) else none) (fun _ => none) ?k1 ?k2 ?k3 ?k4 ?k5 ?kA ?kF ?kK ?k6 ?k7 ?k8 ?k9 ?kB ?kD ?kM ?kC ?_ ?c2 ?c3 ?c4
  walk_at "my_inJ"
  intro g L' h' tk' cells ST SB sz FG' F' N' Y' lt265 B' X' T'
  replace hT := hT.stay ST
  obtain ⟨o1, hE, d1⟩ := CellsAre.one Y'
  subst hE
  clear Y'
  replace lt265 := ltN lt265
  (try simp only [List.cons_append, List.nil_append] at N')
  have itd' := isTup_stay hp ST hd1
  have itm' := isTup_stay hp ST hd2
  have itx' := isTup_stay hp ST itx
  have ilx' := isList_stay hp ST ilx
  have ity' := isTup_stay hp ST ity
  have ily' := isList_stay hp ST ily
  have hx' := NumH.stay hp ST ht
  have hy' := NumH.stay hp ST hm
  have hz1 : wx.toArray.size ≤ sizeLine := by
    rw [List.size_toArray, iix.length, sizeLine_eq]; omega
  clear itx ilx ity ily ht hm hp hd1 hd2
  try dsimp only
  try k_fold
  refine let_A ?_
  intro ak
  k_with "execs cons" => ((with_reducible show wpAny _ _ _ _ _ (PySem.Shared.mk _ _ _ (HAdd.hAdd _ _) _)); refine repack s rfl ?_; intro tk9)
  k_with "ends" => (
     (rename News _ _ _ _ => kN6)
     refine' retJ2 ret ?rF ?rS ?rG ?rN ?r1 hT ?r2
     (case rF => assumption)
     (case rS => assumption)
     (case rG => assumption)
     (case rN => assumption)
     (case r1 => k_dflt k_mem)
     (case r2 => (refine' numH_half ?na kN6 ?nc ?nd ?ne; (case nc => k_dflt k_mem); (case nd => assumption); (case na => assumption); (case ne => assumption))))
  k_steps

end
end Mine
namespace Mine
open PySem PySem.W PySem.Spec PySem.Calls PyProof.Rows
set_option maxRecDepth 100000
set_option maxHeartbeats 0
local macro_rules | `(tactic| walk_at "my_in") => `(tactic| ((case kA => exact rfl); (case kF => exact rfl); (case kK => first | assumption | exact rfl); (case k1 => k_asm); (case k2 => k_asm); (case k3 => k_asm); (case k5 => k_asm); (case k6 => k_is); (case k7 => k_is); (case k8 => ktr_room); (case k9 => exact BindsTo.of_eq rfl); (case c5 => decide); (case kB => exact locs rfl); (case c2 => exact rfl); (case c3 => exact rfl); (case c4 => exact rfl); (case kR => exact rfl); (case kM => (intro y; (repeat refine lk_cons' _ _ _ _ ?_); exact rfl))))
local macro_rules | `(tactic| walk_at "my_inC") => `(tactic| ((case kA => exact rfl); (case kF => exact rfl); (case kK => first | assumption | exact rfl); (case k1 => k_asm); (case k2 => k_asm); (case k3 => k_asm); (case k5 => k_asm); (case k6 => k_is); (case k7 => k_is); (case k8 => ktr_room); (case k9 => exact BindsTo.of_eq rfl); (case kB => exact rfl); (case kD => decide +kernel); (case c2 => exact rfl); (case c3 => exact rfl); (case c4 => exact rfl); (case kM => (intro L'; rfl)); (case kC => (intro L'; rfl))))
local macro_rules | `(tactic| kmk_nums) => `(tactic| first | ((with_reducible refine' kmk_all ?gi); (case gi => l_ints)) | ((with_reducible refine' kmk_upto ?gi ?gx); (case gi => l_ints); (case gx => first | with_reducible assumption | decide | omega)))
local macro_rules | `(tactic| walk_at "eval ListComp") => `(tactic| k_extra "comp")
local macro_rules | `(tactic| walk_at "call type:zip") => `(tactic| k_extra "zip")
local macro_rules | `(tactic| wrow_close) => `(tactic| k_extra "ends")
local macro_rules | `(tactic| walk_at "call ref") => `(tactic| k_extra "call")
local macro_rules | `(tactic| walk_at "compareOp NotEq ref ref") => `(tactic| k_extra "cmpne")
local macro_rules | `(tactic| walk_at "compareOp Eq ref ref") => `(tactic| k_extra "cmpeq")
local macro_rules | `(tactic| walk_at "call builtin:sorted") => `(tactic| k_extra "sorted")
local macro_rules | `(tactic| walk_at "binaryOp Add ref ref") => `(tactic| k_extra "cat")
local macro_rules | `(tactic| k_room) => `(tactic| ktr_room)
local macro_rules | `(tactic| walk_at "my_inJ") => `(tactic| ((case kA => exact rfl); (case kF => exact rfl); (case kK => first | assumption | exact rfl); (case k1 => k_asm); (case k2 => k_asm); (case k3 => k_asm); (case k4 => assumption); (case k5 => k_asm); (case k6 => k_is); (case k7 => k_is); (case k8 => ktr_room); (case k9 => exact BindsTo.of_eq rfl); (case kB => exact rfl); (case kD => decide +kernel); (case c2 => exact rfl); (case c3 => exact rfl); (case c4 => exact rfl); (case kM => (intro L'; rfl)); (case kC => (intro L'; rfl))))
local macro_rules | `(tactic| walk_at "FiltSrc") => `(tactic| k_extra "src")
local macro_rules | `(tactic| walk_at "FiltAny") => `(tactic| k_extra "srcA")
local macro_rules | `(tactic| walk_at "call type:list") => `(tactic| k_extra "listr")
section
variable {w : World} {p : Program} {loose : List Str} {mean : ExcName → Option Value} {mg mb0 : Str → Option Value} {dp un : Nat} {gd : Option (List Code)} {cn : Str} {cs : Scope} {a : Addr} {ccd : Value} {cl : List (Str × Addr)} {outer : List Env} {A₀ : Around} {base h₀ : Heap} {L : Addr} {m : Str → Option Value} {s : Shared} {Q E : Value → Shared → Prop}

theorem due7_spec {vt vmx vmt : Value} {b mb : Bool} {P mP : List Int} {n : Nat} {td tm : Addr} {tf tn : Tok} {ps : Array Value}
    (C : Cx w p loose mean mg mb0 dp un cs outer A₀ base h₀ L m s 16)
    (hN : News h₀ L s.heap [(265, tabObj ps)]) (hT : TabIs s.heap ps)
    (hd1 : IsTup s.heap td #[.int 7 tf, .int (n : Int) tn, .ref tm]) (hd2 : IsTup s.heap tm #[vmx, vmt])
    (ht : NumH s.heap vt (b, P)) (hm : NumH s.heap vmt (mb, mP)) (hP1 : P.length < 2 ^ 13) (hP2 : mP.length < 2 ^ 13) (hn : n < 2 ^ 10)
    (ret : RetJ h₀ L m s Q (b, rangeKs 0 (if b = true then n else 0) ++ P.map fun q => q + (n : Int))) :
    wpAny (model PR w) (ktrTop dp un gd cn cs L a ccd cl outer) (call (.ref 273) [.ref td, vt]) Q E s := by
  k_with_none
  have hp := (hN _ (.head _)).1
  obtain ⟨tx, lx, wx, rfl, itx, ilx, iix⟩ := ht.open
  obtain ⟨ty, ly, wy, rfl, ity, ily, iiy⟩ := hm.open
  dsimp only at itx iix ity iiy
  obtain ⟨B, F, X, T, hk, hd, hu⟩ := C
  refine wpAny_call ?_
  refine' enterJ [(Str.ofString "deed", Value.ref td), (Str.ofString "told", Value.ref tx)] (fun y => if y = Str.ofString "told" then some (Value.ref tx) else if y = Str.ofString "deed" then some (Value.ref td) else none) (fun _ => none) ?k1 ?k2 ?k3 ?k4 ?k5 ?kA ?kF ?kK ?k6 ?k7 ?k8 ?k9 ?kB ?kD ?kM ?kC ?_ ?c2 ?c3 ?c4
  walk_at "my_inJ"
  intro g L' h' tk' cells ST SB sz FG' F' N' Y' lt265 B' X' T'
  replace hT := hT.stay ST
  obtain ⟨o1, hE, d1⟩ := CellsAre.one Y'
  subst hE
  clear Y'
  replace lt265 := ltN lt265
  (try simp only [List.cons_append, List.nil_append] at N')
  have itd' := isTup_stay hp ST hd1
  have itm' := isTup_stay hp ST hd2
  have itx' := isTup_stay hp ST itx
  have ilx' := isList_stay hp ST ilx
  have ity' := isTup_stay hp ST ity
  have ily' := isList_stay hp ST ily
  have hx' := NumH.stay hp ST ht
  have hy' := NumH.stay hp ST hm
  have hz1 : wx.toArray.size ≤ sizeLine := by
    rw [List.size_toArray, iix.length, sizeLine_eq]; omega
  clear itx ilx ity ily ht hm hp hd1 hd2
  try dsimp only
  try k_fold
  refine let_A ?_
  intro ak
  k_with "execs cons" => ((with_reducible show wpAny _ _ _ _ _ (PySem.Shared.mk _ _ _ (HAdd.hAdd _ _) _)); refine repack s rfl ?_; intro tk9)
  k_with "cat" => (
     have i9 := CarriedAll.intsOf (by assumption)
     rw [filter_all] at i9
     k_dflt (refine' kmk_add_ints ?zF ?zN ?za ?zb ?zi ?zj ?_ (due_len7 hn hP1))
     (case zF => k_asm)
     (case zN => k_asm)
     (case za => k_dflt kmk_list)
     (case zb => k_dflt kmk_list)
     (case zi => assumption)
     (case zj => exact i9)
     intro D' ws' h' F' N' l1 hI'
     (try k_lt l1)
     (try k_sweep))
  k_with "listr" => (
     k_dflt (refine' kll_range (n := if b = true then n else 0) ?hh ?zF ?zN ?hr (due_small hn) due_size (due_z hn) ?_)
     (case hh => k_dflt rfl)
     (case zF => k_asm)
     (case zN => k_asm)
     (case hr => assumption)
     intro D' us' c' h' tk' F' N' l1 i'
     (try k_lt l1)
     (try k_sweep))
  k_with "ends" => (
     refine' retJ2 ret ?rF ?rS ?rG ?rN ?r1 hT ?r2
     (case rF => assumption)
     (case rS => assumption)
     (case rG => assumption)
     (case rN => assumption)
     (case r1 => k_dflt k_mem)
     (case r2 => (refine' numH_news ?na ?nb ?nc ?nd; (case na => assumption); (case nb => k_dflt k_mem); (case nc => k_dflt k_mem); (case nd => assumption))))
  k_steps
  all_goals first
    | exact Value.none
    | exact (0 : Nat)
    | exact Str.ofString ""

end
end Mine
namespace Mine
open PySem PySem.W PySem.Spec PySem.Calls PyProof.Rows
set_option maxRecDepth 100000
set_option maxHeartbeats 0
local macro_rules | `(tactic| walk_at "my_in") => `(tactic| ((case kA => exact rfl); (case kF => exact rfl); (case kK => first | assumption | exact rfl); (case k1 => k_asm); (case k2 => k_asm); (case k3 => k_asm); (case k5 => k_asm); (case k6 => k_is); (case k7 => k_is); (case k8 => ktr_room); (case k9 => exact BindsTo.of_eq rfl); (case c5 => decide); (case kB => exact locs rfl); (case c2 => exact rfl); (case c3 => exact rfl); (case c4 => exact rfl); (case kR => exact rfl); (case kM => (intro y; (repeat refine lk_cons' _ _ _ _ ?_); exact rfl))))
local macro_rules | `(tactic| walk_at "my_inC") => `(tactic| ((case kA => exact rfl); (case kF => exact rfl); (case kK => first | assumption | exact rfl); (case k1 => k_asm); (case k2 => k_asm); (case k3 => k_asm); (case k5 => k_asm); (case k6 => k_is); (case k7 => k_is); (case k8 => ktr_room); (case k9 => exact BindsTo.of_eq rfl); (case kB => exact rfl); (case kD => decide +kernel); (case c2 => exact rfl); (case c3 => exact rfl); (case c4 => exact rfl); (case kM => (intro L'; rfl)); (case kC => (intro L'; rfl))))
local macro_rules | `(tactic| kmk_nums) => `(tactic| first | ((with_reducible refine' kmk_all ?gi); (case gi => l_ints)) | ((with_reducible refine' kmk_upto ?gi ?gx); (case gi => l_ints); (case gx => first | with_reducible assumption | decide | omega)))
local macro_rules | `(tactic| walk_at "eval ListComp") => `(tactic| k_extra "comp")
local macro_rules | `(tactic| walk_at "call type:zip") => `(tactic| k_extra "zip")
local macro_rules | `(tactic| wrow_close) => `(tactic| k_extra "ends")
local macro_rules | `(tactic| walk_at "call ref") => `(tactic| k_extra "call")
local macro_rules | `(tactic| walk_at "compareOp NotEq ref ref") => `(tactic| k_extra "cmpne")
local macro_rules | `(tactic| walk_at "compareOp Eq ref ref") => `(tactic| k_extra "cmpeq")
local macro_rules | `(tactic| walk_at "call builtin:sorted") => `(tactic| k_extra "sorted")
local macro_rules | `(tactic| walk_at "binaryOp Add ref ref") => `(tactic| k_extra "cat")
local macro_rules | `(tactic| k_room) => `(tactic| ktr_room)
local macro_rules | `(tactic| walk_at "my_inJ") => `(tactic| ((case kA => exact rfl); (case kF => exact rfl); (case kK => first | assumption | exact rfl); (case k1 => k_asm); (case k2 => k_asm); (case k3 => k_asm); (case k4 => assumption); (case k5 => k_asm); (case k6 => k_is); (case k7 => k_is); (case k8 => ktr_room); (case k9 => exact BindsTo.of_eq rfl); (case kB => exact rfl); (case kD => decide +kernel); (case c2 => exact rfl); (case c3 => exact rfl); (case c4 => exact rfl); (case kM => (intro L'; rfl)); (case kC => (intro L'; rfl))))
local macro_rules | `(tactic| walk_at "FiltSrc") => `(tactic| k_extra "src")
local macro_rules | `(tactic| walk_at "FiltAny") => `(tactic| k_extra "srcA")
local macro_rules | `(tactic| walk_at "call type:list") => `(tactic| k_extra "listr")
section
variable {w : World} {p : Program} {loose : List Str} {mean : ExcName → Option Value} {mg mb0 : Str → Option Value} {dp un : Nat} {gd : Option (List Code)} {cn : Str} {cs : Scope} {a : Addr} {ccd : Value} {cl : List (Str × Addr)} {outer : List Env} {A₀ : Around} {base h₀ : Heap} {L : Addr} {m : Str → Option Value} {s : Shared} {Q E : Value → Shared → Prop}

theorem due8_spec {vt vmx vmt : Value} {b mb : Bool} {P mP : List Int} {n : Nat} {td tm : Addr} {tf tn : Tok} {ps : Array Value}
    (C : Cx w p loose mean mg mb0 dp un cs outer A₀ base h₀ L m s 16)
    (hN : News h₀ L s.heap [(265, tabObj ps)]) (hT : TabIs s.heap ps)
    (hd1 : IsTup s.heap td #[.int 8 tf, .int (n : Int) tn, .ref tm]) (hd2 : IsTup s.heap tm #[vmx, vmt])
    (ht : NumH s.heap vt (b, P)) (hm : NumH s.heap vmt (mb, mP)) (hP1 : P.length < 2 ^ 13) (hP2 : mP.length < 2 ^ 13) (hn : n < 2 ^ 10)
    (ret : RetJ h₀ L m s Q (b, (P.filter fun q => decide ((n : Int) ≤ q)).map fun q => q - (n : Int))) :
    wpAny (model PR w) (ktrTop dp un gd cn cs L a ccd cl outer) (call (.ref 273) [.ref td, vt]) Q E s := by
  k_with_none
  have hp := (hN _ (.head _)).1
  obtain ⟨tx, lx, wx, rfl, itx, ilx, iix⟩ := ht.open
  obtain ⟨ty, ly, wy, rfl, ity, ily, iiy⟩ := hm.open
  dsimp only at itx iix ity iiy
  obtain ⟨B, F, X, T, hk, hd, hu⟩ := C
  refine wpAny_call ?_
  refine' enterJ [(Str.ofString "deed", Value.ref td), (Str.ofString "told", Value.ref tx)] (fun y => if y = Str.ofString "told" then some (Value.ref tx) else if y = Str.ofString "deed" then some (Value.ref td) else none) (fun _ => none) ?k1 ?k2 ?k3 ?k4 ?k5 ?kA ?kF ?kK ?k6 ?k7 ?k8 ?k9 ?kB ?kD ?kM ?kC ?_ ?c2 ?c3 ?c4
  walk_at "my_inJ"
  intro g L' h' tk' cells ST SB sz FG' F' N' Y' lt265 B' X' T'
  replace hT := hT.stay ST
  obtain ⟨o1, hE, d1⟩ := CellsAre.one Y'
  subst hE
  clear Y'
  replace lt265 := ltN lt265
  (try simp only [List.cons_append, List.nil_append] at N')
  have itd' := isTup_stay hp ST hd1
  have itm' := isTup_stay hp ST hd2
  have itx' := isTup_stay hp ST itx
  have ilx' := isList_stay hp ST ilx
  have ity' := isTup_stay hp ST ity
  have ily' := isList_stay hp ST ily
  have hx' := NumH.stay hp ST ht
  have hy' := NumH.stay hp ST hm
  have hz1 : wx.toArray.size ≤ sizeLine := by
    rw [List.size_toArray, iix.length, sizeLine_eq]; omega
  clear itx ilx ity ily ht hm hp hd1 hd2
  try dsimp only
  try k_fold
  refine let_A ?_
  intro ak
  k_with "execs cons" => ((with_reducible show wpAny _ _ _ _ _ (PySem.Shared.mk _ _ _ (HAdd.hAdd _ _) _)); refine repack s rfl ?_; intro tk9)
  k_with "ends" => (
     refine' retJ2 ret ?rF ?rS ?rG ?rN ?r1 hT ?r2
     (case rF => assumption)
     (case rS => assumption)
     (case rG => assumption)
     (case rN => assumption)
     (case r1 => k_dflt k_mem)
     (case r2 => (refine' numH_news ?na ?nb ?nc ?nd; (case na => assumption); (case nb => k_dflt k_mem); (case nc => k_dflt k_mem); (case nd => assumption))))
  k_steps
  all_goals first
    | exact Value.none
    | exact (0 : Nat)
    | exact Str.ofString ""

end
end Mine
namespace Mine
open PySem PySem.W PySem.Spec PySem.Calls PyProof.Rows
set_option maxRecDepth 100000
section
variable {w : World} {p : Program} {loose : List Str} {mean : ExcName → Option Value} {mg mb0 : Str → Option Value} {dp un : Nat} {gd : Option (List Code)} {cn : Str} {cs : Scope} {a : Addr} {ccd : Value} {cl : List (Str × Addr)} {outer : List Env} {A₀ : Around} {base h₀ : Heap} {L : Addr} {m : Str → Option Value} {s : Shared} {Q E : Value → Shared → Prop}
theorem done_spec {vx vmx vmt : Value} {z y0 : Int} {f k n : Nat} {td tm : Addr} {tf tn tw : Tok} (hf : f < 9)
    (C : Cx w p loose mean mg mb0 dp un cs outer A₀ base h₀ L m s 25)
    (hx : NumH s.heap vx (num (2 ^ k) z)) (hd1 : IsTup s.heap td #[.int (f : Int) tf, .int (n : Int) tn, .ref tm]) (hd2 : IsTup s.heap tm #[vmx, vmt]) (hy : NumH s.heap vmx (num (2 ^ k) y0)) (hk2 : 2 ≤ k) (hk9 : k ≤ 9) (bx' : (limbs (2 ^ k) z.natAbs).length < 2 ^ 14) (by' : (limbs (2 ^ k) y0.natAbs).length < 2 ^ 14) (hn : n < 2 ^ 13) (b2 : (limbs (2 ^ k) ((z.natAbs : Int) * 2 ^ n)).length < 2 ^ 14)
    (ret : RetN h₀ L m s Q (num (2 ^ k) (doneZ f n z y0))) :
    wpAny (model PR w) (ktrTop dp un gd cn cs L a ccd cl outer) (call (.ref 280) [.ref td, vx, .int (k : Int) tw]) Q E s := by
  obtain rfl | rfl | rfl | rfl | rfl | rfl | rfl | rfl | rfl : f = 0 ∨ f = 1 ∨ f = 2 ∨ f = 3 ∨ f = 4 ∨ f = 5 ∨ f = 6 ∨ f = 7 ∨ f = 8 := by omega
  · rw [show ((0 : Nat) : Int) = 0 from rfl] at hd1
    rw [show doneZ 0 n z y0 = setB z n from rfl] at ret
    exact done0_spec C hx hd1 hd2 hy hk2 hk9 bx' hn ret
  · rw [show ((1 : Nat) : Int) = 1 from rfl] at hd1
    rw [show doneZ 1 n z y0 = clearB z n from rfl] at ret
    exact done1_spec C hx hd1 hd2 hy hk2 hk9 bx' hn ret
  · rw [show ((2 : Nat) : Int) = 2 from rfl] at hd1
    rw [show doneZ 2 n z y0 = flipB z n from rfl] at ret
    exact done2_spec C hx hd1 hd2 hy hk2 hk9 bx' hn ret
  · rw [show ((3 : Nat) : Int) = 3 from rfl] at hd1
    rw [show doneZ 3 n z y0 = Builtin.bitAnd z y0 from rfl] at ret
    exact done3_spec C hx hd1 hd2 hy hk2 hk9 bx' by' ret
  · rw [show ((4 : Nat) : Int) = 4 from rfl] at hd1
    rw [show doneZ 4 n z y0 = Builtin.bitOr z y0 from rfl] at ret
    exact done4_spec C hx hd1 hd2 hy hk2 hk9 bx' by' ret
  · rw [show ((5 : Nat) : Int) = 5 from rfl] at hd1
    rw [show doneZ 5 n z y0 = Builtin.bitXor z y0 from rfl] at ret
    exact done5_spec C hx hd1 hd2 hy hk2 hk9 bx' by' ret
  · rw [show ((6 : Nat) : Int) = 6 from rfl] at hd1
    rw [show doneZ 6 n z y0 = -z - 1 from rfl] at ret
    exact done6_spec C hx hd1 hd2 hy hk2 hk9 bx' ret
  · rw [show ((7 : Nat) : Int) = 7 from rfl] at hd1
    rw [show doneZ 7 n z y0 = z * 2 ^ n from rfl] at ret
    exact done7_spec C hx hd1 hd2 hy hk2 hk9 bx' hn b2 ret
  · rw [show ((8 : Nat) : Int) = 8 from rfl] at hd1
    rw [show doneZ 8 n z y0 = z / 2 ^ n from rfl] at ret
    by_cases h0 : n = 0
    · subst h0
      rw [show ((0 : Nat) : Int) = 0 from rfl] at hd1
      rw [Int.pow_zero, Int.ediv_one] at ret
      exact done9_spec (n := 0) C hx hd1 hd2 hy hk2 hk9 bx' ret
    · exact done8_spec C hx hd1 hd2 hy hk2 hk9 bx' hn (Nat.pos_of_ne_zero h0) ret
theorem due_spec {vt vmx vmt : Value} {b mb : Bool} {P mP : List Int} {f n M : Nat} {td tm : Addr} {tf tn : Tok} {ps : Array Value} (hf : f < 9)
    (C : Cx w p loose mean mg mb0 dp un cs outer A₀ base h₀ L m s 16)
    (hN : News h₀ L s.heap [(265, tabObj ps)]) (hT : TabIs s.heap ps)
    (hd1 : IsTup s.heap td #[.int (f : Int) tf, .int (n : Int) tn, .ref tm]) (hd2 : IsTup s.heap tm #[vmx, vmt])
    (ht : NumH s.heap vt (b, P)) (hm : NumH s.heap vmt (mb, mP)) (tb : TB P M) (tbm : TB mP M) (hM : M ≤ 300) (hn : n < 2 ^ 10)
    (ret : ∀ b' P', zt b' P' = doneZ f n (zt b P) (zt mb mP) → TB P' (M + n + 1) → RetJ h₀ L m s Q (b', P')) :
    wpAny (model PR w) (ktrTop dp un gd cn cs L a ccd cl outer) (call (.ref 273) [.ref td, vt]) Q E s := by
  have hP1 := tb.pl hM
  have hP2 := tbm.pl hM
  obtain rfl | rfl | rfl | rfl | rfl | rfl | rfl | rfl | rfl : f = 0 ∨ f = 1 ∨ f = 2 ∨ f = 3 ∨ f = 4 ∨ f = 5 ∨ f = 6 ∨ f = 7 ∨ f = 8 := by omega
  · have e : doneZ 0 n (zt b P) (zt mb mP) = setB (zt b P) n := rfl
    rw [e] at ret
    exact dues_spec (f := 0) (c := true) C hN hT hd1 hd2 ht hm hP1 hP2 hn (by decide) rfl (fun ns h => ret _ _ (zt_set tb h) (tb_one tb h))
  · have e : doneZ 1 n (zt b P) (zt mb mP) = clearB (zt b P) n := rfl
    rw [e] at ret
    exact dues_spec (f := 1) (c := false) C hN hT hd1 hd2 ht hm hP1 hP2 hn (by decide) rfl (fun ns h => ret _ _ (zt_clear tb h) (tb_one tb h))
  · have e : doneZ 2 n (zt b P) (zt mb mP) = flipB (zt b P) n := rfl
    rw [e] at ret
    exact dues_spec (f := 2) (c := !(decide ((n : Int) ∈ P) != b)) C hN hT hd1 hd2 ht hm hP1 hP2 hn (by decide) rfl (fun ns h => ret _ _ (zt_flip tb h) (tb_one tb h))
  · have e : doneZ 3 n (zt b P) (zt mb mP) = Builtin.bitAnd (zt b P) (zt mb mP) := rfl
    rw [e] at ret
    exact duej_spec (f := 3) (op := fun x y => x && y) C hN hT hd1 hd2 ht hm hP1 hP2 hn (by decide) (by decide) (.inl ⟨by decide, rfl⟩) (fun ns h => ret _ _ (zt_and tb tbm h) ((tb_jt tb tbm h).mono (by omega)))
  · have e : doneZ 4 n (zt b P) (zt mb mP) = Builtin.bitOr (zt b P) (zt mb mP) := rfl
    rw [e] at ret
    exact duej_spec (f := 4) (op := fun x y => x || y) C hN hT hd1 hd2 ht hm hP1 hP2 hn (by decide) (by decide) (.inr (.inl ⟨by decide, rfl⟩)) (fun ns h => ret _ _ (zt_or tb tbm h) ((tb_jt tb tbm h).mono (by omega)))
  · have e : doneZ 5 n (zt b P) (zt mb mP) = Builtin.bitXor (zt b P) (zt mb mP) := rfl
    rw [e] at ret
    exact duej_spec (f := 5) (op := fun x y => x != y) C hN hT hd1 hd2 ht hm hP1 hP2 hn (by decide) (by decide) (.inr (.inr ⟨by decide, rfl⟩)) (fun ns h => ret _ _ (zt_xor tb tbm h) ((tb_jt tb tbm h).mono (by omega)))
  · rw [show ((6 : Nat) : Int) = 6 from rfl] at hd1
    have e : doneZ 6 n (zt b P) (zt mb mP) = -(zt b P) - 1 := rfl
    rw [e] at ret
    exact due6_spec C hN hT hd1 hd2 ht hm hP1 hP2 hn (ret _ _ (zt_not b P) (tb.mono (by omega)))
  · rw [show ((7 : Nat) : Int) = 7 from rfl] at hd1
    have e : doneZ 7 n (zt b P) (zt mb mP) = zt b P * 2 ^ n := rfl
    rw [e] at ret
    exact due7_spec C hN hT hd1 hd2 ht hm hP1 hP2 hn (ret _ _ (zt_up tb) ((tb_up tb).mono (by omega)))
  · rw [show ((8 : Nat) : Int) = 8 from rfl] at hd1
    have e : doneZ 8 n (zt b P) (zt mb mP) = zt b P / 2 ^ n := rfl
    rw [e] at ret
    exact due8_spec C hN hT hd1 hd2 ht hm hP1 hP2 hn (ret _ _ (zt_down tb) ((tb_down tb).mono (by omega)))
end
end Mine
namespace Mine
open PySem PySem.W PySem.Spec PySem.Calls PyProof.Rows
set_option maxRecDepth 100000
section
variable {prog : Program} {w : World} {A₀ A : Around} {s : Shared} {base h₀ : Heap} {outer : List Env} {L : Addr} {m : Str → Option Value} {env : Env} {K : Frag}
  {p : Program} {loose : List Str} {mean : ExcName → Option Value} {mg mb : Str → Option Value}
  {R : Result → Shared → Prop} {name qual : Str} {params : Arguments} {body : List Stmt} {scope : Scope} {dV kV doc pm cdv ct oc : Value} {an od : Option Addr} {osl : Array (Option Value)} {f : Addr} {args : Args} {hs : List (Addr × Obj)}
theorem enterH (binds rs : List (Str × Value)) (mm : Str → Option Value)
    (B : Below A₀ base outer h₀) (F : Fr h₀ L s.heap m) (X₀ : K.In h₀) (N : News h₀ L s.heap hs) (T : Top p loose mean mg mb h₀) (hA : A.frames = some (env :: outer)) (hf : env.frame = some L) (hke : env.scope.kind = .function)
    (ho : K.lookup f = some ⟨oc, od, .func (fnOf name qual params body scope dV kV doc pm an cdv ct), osl⟩) (hcd : codeIn K cdv qual = true) (hroom : A.depth < recursionLimit)
    (hbind : BindsTo s (fnOf name qual params body scope dV kV doc pm an cdv ct) args binds) (hloc : ∀ y ∈ binds, scope.names.lookup y.1 = some .local)
    (hrs : binds.reverse = rs) (hmm : ∀ y, rs.lookup y = mm y)
    (h : ∀ g L' h₁ tk, (∀ b o, b ∉ hs.map (·.1) → s.heap.get? b = some o → g.get? b = some o) → (∀ b o, g.get? b = some o → s.heap.get? b = some o) → (∀ q ∈ hs, q.1 < L') → Fr h₀ L g m → Fr g L' h₁ mm → News g L' h₁ hs → Below A base (env :: outer) g → K.In g → Top p loose mean mg mb g →
      wpAny (model prog w) (A.deeper (envOf qual scope L' f cdv)) (execs body (envOf qual scope L' f cdv))
        (fun fl s' => LeaveK h₀ L m g R (match fl with | .ret v => v | _ => .none) s')
        (fun e s' => wpAny (model prog w) (A.deeper (envOf qual scope L' f cdv)) (leaving (envOf qual scope L' f cdv) e) (fun _ s'' => R (.error e) s'') (fun e' s'' => R (.error e') s'') s')
        { s with heap := h₁, toks := tk })
    (hco : scope.isCoroutine = false) (hgen : scope.isGenerator = false) (hk : scope.kind = .function)
    (hcell : ∀ x ∈ scope.names, x.2 ≠ .cell) : codeAny (model prog w) A (.call (.ref f) args) R s := by
  obtain ⟨FG, BG, st, lv⟩ := groundX (R := R) B F N hA hf hke
  refine codeAny_call_def (fd := fnOf name qual params body scope dV kV doc pm an cdv ct) (body := body) (binds := binds) hroom ((X₀.keeps F.keep) _ _ ho) rfl (T.nolimit.keeps F.keep) (codeRec_of (X₀.keeps F.keep) hcd) rfl hbind hcell hloc (fun h₁ hns hk₁ => ?_) hco hgen hk
  have em : (fun y => binds.reverse.lookup y) = mm := funext fun y => by rw [hrs]; exact hmm y
  have hns' : h₁.Ns s.heap.objs.size mm := by rw [← em]; exact hns
  have NN : News (hideAll s.heap (hs.map (·.1))) s.heap.objs.size h₁ hs := fun q hq =>
    ⟨hk₁ _ _ (N q hq).1, Nat.ne_of_lt (Heap.lt_size (N q hq).1), hideAll_none _ (List.mem_map.mpr ⟨q, hq, rfl⟩)⟩
  exact wpAny_mono (h _ s.heap.objs.size h₁ _ (fun b o n e => hideAll_get _ e n) (fun b o e => of_hideAll _ e) (fun q hq => Heap.lt_size (N q hq).1) FG ⟨hns', fun b o e => hk₁ b o (of_hideAll _ e), Nat.le_of_eq (hideAll_size _ _)⟩ NN BG (X₀.keeps st) (T.keeps st)) (fun fl s' hl => lv _ _ hl) fun _ _ y => y
end
abbrev cordObj (c : Int) (t : Tok) (bl : Addr) (n : Nat) : Obj := listOf #[.int c t, .ref bl] n
def StayB (cord : Addr) (h h' : Heap) : Prop := ∀ b o, b ≠ cord → h.get? b = some o → h'.get? b = some o
theorem beads_off {h : Heap} {cord bl : Addr} {c : Int} {t : Tok} {n : Nat} {vs : List Value} {ns : List Int} (h1 : h.get? cord = some (cordObj c t bl n)) (h2 : h.IsList bl vs.toArray) (h3 : IntsAre vs ns) : bl ≠ cord := by
  rintro rfl
  obtain ⟨o, e, _, k, d⟩ := h2
  rw [h1] at e
  cases e
  injection d with d1 d2
  have : vs = [.int c t, .ref bl] := by
    have := congrArg Array.toList d1
    simpa using this.symm
  subst this
  cases h3 with
  | cons _ _ h => cases h
end Mine
namespace Mine
open PySem PySem.W PySem.Spec PySem.Calls PyProof.Rows
theorem stayList {s g : Heap} {bl cord : Addr} {o : Obj} {vs : List Value} (h : s.IsList bl vs.toArray) (st : ∀ b o', b ∉ [(cord, o)].map (fun p => p.1) → s.get? b = some o' → g.get? b = some o') (n : bl ≠ cord) : g.IsList bl vs.toArray := by
  obtain ⟨x, e, r⟩ := h
  exact ⟨x, st _ _ (by simpa using n) e, r⟩
end Mine
namespace Mine
open PySem PySem.W PySem.Spec PySem.Calls PyProof.Rows
set_option maxRecDepth 100000
set_option maxHeartbeats 0
local macro_rules | `(tactic| walk_at "my_in") => `(tactic| ((case kA => exact rfl); (case kF => exact rfl); (case kK => first | assumption | exact rfl); (case k1 => k_asm); (case k2 => k_asm); (case k3 => k_asm); (case k5 => k_asm); (case k6 => k_is); (case k7 => k_is); (case k8 => ktr_room); (case k9 => exact BindsTo.of_eq rfl); (case c5 => decide); (case kB => exact locs rfl); (case c2 => exact rfl); (case c3 => exact rfl); (case c4 => exact rfl); (case kR => exact rfl); (case kM => (intro y; (repeat refine lk_cons' _ _ _ _ ?_); exact rfl))))
local macro_rules | `(tactic| walk_at "my_inC") => `(tactic| ((case kA => exact rfl); (case kF => exact rfl); (case kK => first | assumption | exact rfl); (case k1 => k_asm); (case k2 => k_asm); (case k3 => k_asm); (case k5 => k_asm); (case k6 => k_is); (case k7 => k_is); (case k8 => ktr_room); (case k9 => exact BindsTo.of_eq rfl); (case kB => exact rfl); (case kD => decide +kernel); (case c2 => exact rfl); (case c3 => exact rfl); (case c4 => exact rfl); (case kM => (intro L'; rfl)); (case kC => (intro L'; rfl))))
local macro_rules | `(tactic| kmk_nums) => `(tactic| first | ((with_reducible refine' kmk_all ?gi); (case gi => l_ints)) | ((with_reducible refine' kmk_upto ?gi ?gx); (case gi => l_ints); (case gx => first | with_reducible assumption | decide | omega)))
local macro_rules | `(tactic| walk_at "eval ListComp") => `(tactic| k_extra "comp")
local macro_rules | `(tactic| walk_at "call type:zip") => `(tactic| k_extra "zip")
local macro_rules | `(tactic| wrow_close) => `(tactic| k_extra "ends")
local macro_rules | `(tactic| walk_at "call ref") => `(tactic| k_extra "call")
local macro_rules | `(tactic| walk_at "compareOp NotEq ref ref") => `(tactic| k_extra "cmpne")
local macro_rules | `(tactic| walk_at "compareOp Eq ref ref") => `(tactic| k_extra "cmpeq")
local macro_rules | `(tactic| walk_at "call builtin:sorted") => `(tactic| k_extra "sorted")
local macro_rules | `(tactic| walk_at "binaryOp Add ref ref") => `(tactic| k_extra "cat")
local macro_rules | `(tactic| k_room) => `(tactic| ktr_room)
local macro_rules | `(tactic| walk_at "my_inJ") => `(tactic| ((case kA => exact rfl); (case kF => exact rfl); (case kK => first | assumption | exact rfl); (case k1 => k_asm); (case k2 => k_asm); (case k3 => k_asm); (case k4 => assumption); (case k5 => k_asm); (case k6 => k_is); (case k7 => k_is); (case k8 => ktr_room); (case k9 => exact BindsTo.of_eq rfl); (case kB => exact rfl); (case kD => decide +kernel); (case c2 => exact rfl); (case c3 => exact rfl); (case c4 => exact rfl); (case kM => (intro L'; rfl)); (case kC => (intro L'; rfl))))
local macro_rules | `(tactic| walk_at "FiltSrc") => `(tactic| k_extra "src")
local macro_rules | `(tactic| walk_at "FiltAny") => `(tactic| k_extra "srcA")
local macro_rules | `(tactic| walk_at "my_inH") => `(tactic| ((case kA => exact rfl); (case kF => exact rfl); (case kK => first | assumption | exact rfl); (case k1 => k_asm); (case k2 => k_asm); (case k3 => k_asm); (case k4 => assumption); (case k5 => k_asm); (case k6 => k_is); (case k7 => k_is); (case k8 => ktr_room); (case k9 => exact BindsTo.of_eq rfl); (case c5 => decide); (case kB => exact locs rfl); (case c2 => exact rfl); (case c3 => exact rfl); (case c4 => exact rfl); (case kR => exact rfl); (case kM => (intro y; (repeat refine lk_cons' _ _ _ _ ?_); exact rfl))))
section
variable {w : World} {p : Program} {loose : List Str} {mean : ExcName → Option Value} {mg mb : Str → Option Value} {dp un : Nat} {gd : Option (List Code)} {cn : Str} {cs : Scope} {a : Addr} {ccd : Value} {cl : List (Str × Addr)} {outer : List Env} {A₀ : Around} {base h₀ : Heap} {L : Addr} {m : Str → Option Value} {s : Shared} {Q E : Value → Shared → Prop}

theorem beaded_spec {cord bl : Addr} {c many : Int} {tc tm : Tok} {nn : Nat} {vs : List Value} {beads : List Int}
    (C : Cx w p loose mean mg mb dp un cs outer A₀ base h₀ L m s 5)
    (hN : News h₀ L s.heap [(cord, cordObj c tc bl nn)]) (hbl : s.heap.IsList bl vs.toArray) (ib : IntsAre vs beads) (hc0 : 0 ≤ c) (hc1 : c < 2 ^ 40) (hbn : beads.length ≤ 32) (hm : 0 < many)
    (ret : ∀ r t tc' nn' h' tk', 0 ≤ r → r < many → Fr h₀ L h' m → StayB cord s.heap h' → News h₀ L h' [(cord, cordObj (c + 1) tc' bl nn')] → Q (.int r t) { s with heap := h', toks := tk' }) :
    wpAny (model PR w) (ktrTop dp un gd cn cs L a ccd cl outer) (call (.ref 244) [.ref cord, .int many tm]) Q E s := by
  k_with_none
  have hof := beads_off (newsGet hN (.head _)) hbl ib
  have hvl : vs.length = beads.length := ib.length
  obtain ⟨B, F, X, T, hk, hd, hu⟩ := C
  refine wpAny_call ?_
  refine' enterH [(Str.ofString "cord", Value.ref cord), (Str.ofString "many", Value.int many tm)] [(Str.ofString "many", Value.int many tm), (Str.ofString "cord", Value.ref cord)] (fun y => if y = Str.ofString "many" then some (Value.int many tm) else if y = Str.ofString "cord" then some (Value.ref cord) else none) ?k1 ?k2 ?k3 ?k4 ?k5 ?kA ?kF ?kK ?k6 ?k7 ?k8 ?k9 ?kB ?kR ?kM ?_ ?c2 ?c3 ?c4 ?c5
  walk_at "my_inH"
  intro g L' h' tk' ST SB lt9 FG' F' N' B' X' T'
  have hbl' := stayList hbl ST hof
  try dsimp only
  try k_fold
  refine let_A ?_
  intro ak
  k_with "execs cons" => ((with_reducible show wpAny _ _ _ _ _ (PySem.Shared.mk _ _ _ (HAdd.hAdd _ _) _)); refine repack s rfl ?_; intro tk9)
  have hst : ∀ h, g.StaysIn h → StayB cord s.heap h := fun h k b o n e => k b o (ST b o (by simpa using n) e)
  k_with "ends" => (
     refine' ret _ _ _ _ _ _ (Int.fmod_nonneg_of_pos _ hm) (Int.fmod_lt_of_pos _ hm) ?rF (hst _ (frStays (by assumption))) ?rN
     (case rF => assumption)
     (case rN => assumption))
  k_steps

theorem beaded_nat {cord bl : Addr} {c many : Int} {tc tm : Tok} {nn : Nat} {vs : List Value} {beads : List Int}
    (C : Cx w p loose mean mg mb dp un cs outer A₀ base h₀ L m s 5)
    (hN : News h₀ L s.heap [(cord, cordObj c tc bl nn)]) (hbl : s.heap.IsList bl vs.toArray) (ib : IntsAre vs beads) (hc0 : 0 ≤ c) (hc1 : c < 2 ^ 40) (hbn : beads.length ≤ 32) (hm : 0 < many)
    (ret : ∀ (r : Nat) t tc' nn' h' tk', (r : Int) < many → Fr h₀ L h' m → StayB cord s.heap h' → News h₀ L h' [(cord, cordObj (c + 1) tc' bl nn')] → Q (.int (r : Int) t) { s with heap := h', toks := tk' }) :
    wpAny (model PR w) (ktrTop dp un gd cn cs L a ccd cl outer) (call (.ref 244) [.ref cord, .int many tm]) Q E s := by
  refine beaded_spec C hN hbl ib hc0 hc1 hbn hm fun r t tc' nn' h' tk' r0 => ?_
  obtain ⟨n, rfl⟩ := Int.eq_ofNat_of_zero_le r0
  exact ret n t tc' nn' h' tk'

end
end Mine
namespace Mine
open PySem PySem.W PySem.Spec PySem.Calls PyProof.Rows
set_option maxRecDepth 100000
structure Odd (a : Addr) (o : Obj) : Prop where
  tup : ∀ b l n, o.data ≠ .seq #[.bool b, .ref l] n
  lst : ∀ (vs : Array Value) n ns, o.data = .seq vs n → ¬ IntsAre vs.toList ns
  fld : a ≠ 265 → ∀ (vs : Array Value) (q : Str) (t : Tok), o.data = .fields vs → vs[1]? = some (.str q t) → False
theorem Odd.cord {cord bl : Addr} {c : Int} {t : Tok} {n : Nat} : Odd cord (cordObj c t bl n) := by
  refine ⟨fun b l n h => ?_, fun vs n ns h i => ?_, fun _ vs q t h _ => ?_⟩
  · injection h with h1; injection h1 with h1; injection h1 with h1; cases h1
  · injection h with h1
    subst h1
    cases i with
    | cons _ _ i => cases i
  · cases h
theorem Odd.refs {a r : Addr} {vs : List Value} {n : Nat} : Odd a (listOf (List.toArray (.ref r :: vs)) n) := by
  refine ⟨fun b l n h => ?_, fun vs n ns h i => ?_, fun _ vs q t h _ => ?_⟩
  · injection h with h1; injection h1 with h1; injection h1 with h1; cases h1
  · injection h with h1
    subst h1
    cases i
  · cases h
theorem Odd.tab {ps : Array Value} : Odd 265 (tabObj ps) := by
  refine ⟨fun b l n h => ?_, fun vs n ns h i => ?_, fun h => absurd rfl h⟩
  · cases h
  · cases h
theorem Odd.cell {a : Addr} {o : Obj} {v : Option Value} (e : o.data = .cell v) : Odd a o := by
  refine ⟨fun b l n h => ?_, fun vs n ns h i => ?_, fun _ vs q t h _ => ?_⟩ <;> (rw [e] at h; cases h)
theorem Odd.ns {h : Heap} {L : Addr} {m : Str → Option Value} (k : h.Ns L m) : ∃ o, h.get? L = some o ∧ Odd L o := by
  obtain ⟨o, es, ep, e, d, _⟩ := k
  refine ⟨o, e, ⟨fun b l n h => ?_, fun vs n ns h i => ?_, fun _ vs q t h _ => ?_⟩⟩ <;> (rw [d] at h; cases h)
structure Rb (h₀ : Heap) (as : List Addr) (h g : Heap) (rest : List (Addr × Obj)) : Prop where
  off : ∀ q ∈ rest, q.1 ∉ as
  src : ∀ b o, g.get? b = some o → h₀.get? b = some o ∨ (b, o) ∈ rest
  sub : g.StaysIn h
  num : ∀ v x, NumH h v x → NumH g v x
  tab : ∀ ps, TabIs h ps → TabIs g ps
  all : ∀ b o, b ∉ as → h.get? b = some o → g.get? b = some o
  out : ∀ b o, g.get? b = some o → b ∉ as
theorem Rb.stay {h₀ h g g0 : Heap} {as : List Addr} {rest : List (Addr × Obj)} (r : Rb h₀ as h g rest) (k : g0.StaysIn h) (o : ∀ b o, g0.get? b = some o → b ∉ as) : g0.StaysIn g := fun b x e => r.all b x (o b x e) (k b x e)
theorem hideAll_iff {h : Heap} {as : List Addr} {b : Addr} {o : Obj} (e : (hideAll h as).get? b = some o) : b ∉ as := fun m => by
  rw [hideAll_none _ m] at e; cases e
theorem num_hide {h : Heap} {as : List Addr} (hodd : ∀ a ∈ as, ∀ o, h.get? a = some o → Odd a o) {v : Value} {x : Bool × List Int} (k : NumH h v x) : NumH (hideAll h as) v x := by
  obtain ⟨t, l, vs, rfl, e1, e2, e3⟩ := k.open
  obtain ⟨o, a1, a2, n, a3⟩ := e1
  obtain ⟨o', b1, b2, n', b3⟩ := e2
  have nt : t ∉ as := fun m => (hodd t m o a1).tup _ _ _ a3
  have nl : l ∉ as := fun m => (hodd l m o' b1).lst _ _ _ b3 e3
  exact NumH.mk ⟨o, hideAll_get _ a1 nt, a2, n, a3⟩ ⟨o', hideAll_get _ b1 nl, b2, n', b3⟩ e3
theorem code_hide {h : Heap} {as : List Addr} (hodd : ∀ a ∈ as, ∀ o, h.get? a = some o → Odd a o) {c : Addr} {q : Str} (n : c ≠ 265) (k : h.CodeRec (.ref c) q) : (hideAll h as).CodeRec (.ref c) q := by
  obtain ⟨c₂, oc, vs, t, e2, hoc, hd, hv⟩ := k
  cases e2
  exact ⟨c, oc, vs, t, rfl, hideAll_get _ hoc fun m => (hodd c m oc hoc).fld n _ _ _ hd hv, hd, hv⟩
theorem tab_hide {h : Heap} {as : List Addr} (hodd : ∀ a ∈ as, ∀ o, h.get? a = some o → Odd a o) {ps : Array Value} (k : TabIs h ps) : TabIs (hideAll h as) ps := by
  cases k with
  | nil => exact .nil
  | full a => exact .full ⟨code_hide hodd a.n0 a.r0, a.n0, code_hide hodd a.n1 a.r1, a.n1, code_hide hodd a.n2 a.r2, a.n2⟩
theorem rebase {h₀ h : Heap} {L : Addr} {m : Str → Option Value} (F : Fr h₀ L h m) (as : List Addr) (hL : L ∈ as) (hodd : ∀ a ∈ as, ∀ o, h.get? a = some o → Odd a o) :
    ∃ g rest, News h₀ L h rest ∧ Rb h₀ as h g rest := by
  refine ⟨hideAll h as, ownOf h₀ ((List.range h.objs.size).filter fun b => !(as.contains b)) h, news_ownOf ?_, ⟨?_, ?_, fun b o e => of_hideAll _ e, fun v x => num_hide hodd, fun ps => tab_hide hodd, fun b o n e => hideAll_get _ e n, fun b o e => hideAll_iff e⟩⟩
  · intro hm
    have := (List.mem_filter.mp hm).2
    simp [hL] at this
  · intro q hq
    obtain ⟨b, hb, e⟩ := List.mem_filterMap.mp hq
    have h2 := (List.mem_filter.mp hb).2
    cases hn : h₀.get? b with
    | some x => simp [hn] at e
    | none =>
      cases ho : h.get? b with
      | none => simp [hn, ho] at e
      | some o =>
        have : q = (b, o) := by simpa [hn, ho] using e.symm
        subst this
        simpa using h2
  · intro b o e
    have e1 : h.get? b = some o := of_hideAll _ e
    cases hn : h₀.get? b with
    | some x =>
      have h3 := F.keep b x hn
      rw [e1] at h3
      cases h3
      exact .inl rfl
    | none =>
      refine .inr (mem_ownOf (List.mem_filter.mpr ⟨List.mem_range.mpr (Heap.lt_size e1), ?_⟩) hn e1)
      have := hideAll_iff e
      simpa using this
theorem srcStays {h₀ g h' : Heap} {rest : List (Addr × Obj)} (src : ∀ b o, g.get? b = some o → h₀.get? b = some o ∨ (b, o) ∈ rest) (st : h₀.StaysIn h') (kr : ∀ p ∈ rest, h'.get? p.1 = some p.2) : g.StaysIn h' := fun b o e =>
  (src b o e).elim (fun x => st b o x) fun x => kr _ x
end Mine
namespace Mine
open PySem PySem.W PySem.Spec PySem.Calls PyProof.Rows
set_option maxRecDepth 100000
def TEnd (h₀ : Heap) (L I : Addr) (oI : Obj) (Jn : (Str → Option Value) → List (Addr × Obj) → Prop) (s₁ : Shared) (Q : Flow → Shared → Prop) (fl : Flow) (s' : Shared) : Prop :=
  match fl with
  | .ret v => Q (.ret v) s'
  | .brk => Q .next s'
  | _ => ∃ h' tk m' news', s' = { s₁ with heap := h', toks := tk } ∧ Fr h₀ L h' m' ∧ News h₀ L h' ((I, oI) :: news') ∧ (∀ p ∈ news', p.1 ≠ I) ∧ Jn m' news'
theorem TEnd.next {h₀ h' : Heap} {L I : Addr} {oI : Obj} {Jn : (Str → Option Value) → List (Addr × Obj) → Prop} {s₁ : Shared} {Q : Flow → Shared → Prop} {m' : Str → Option Value} {news' : List (Addr × Obj)} {tk : Nat}
    (F : Fr h₀ L h' m') (N : News h₀ L h' ((I, oI) :: news')) (o : ∀ p ∈ news', p.1 ≠ I) (j : Jn m' news') : TEnd h₀ L I oI Jn s₁ Q .next { s₁ with heap := h', toks := tk } := ⟨h', tk, m', news', rfl, F, N, o, j⟩
theorem Odd.iter {h : Heap} {I : Addr} {x l c : Int} {o : Obj} (k : IsRangeIter h I x l c) (e : h.get? I = some o) : Odd I o := by
  have : o = { cls := .type "range_iterator", dict := none, data := .fields #[rawInt x, rawInt l, rawInt c], slots := #[] } := by
    have := k.symm.trans e
    exact (Option.some.inj this).symm
  subst this
  refine ⟨fun b l n h => ?_, fun vs n ns h i => ?_, fun _ vs q t h e => ?_⟩
  · cases h
  · cases h
  · injection h with h
    subst h
    simp only [List.getElem?_toArray] at e
    cases e
section
variable {prog : Program} {w : World} {A : Around} {E : Value → Shared → Prop} {s : Shared} {env : Env} {h₀ : Heap} {x : Str} {body : List Stmt} {Q : Flow → Shared → Prop}
theorem range_loop {r : Addr} {a₀ b₀ : Int} {t₀ u₀ v₀ : Tok} {n : Nat} {m₀ : Str → Option Value} {news : List (Addr × Obj)} (J : Nat → (Str → Option Value) → List (Addr × Obj) → Prop)
    (hh : A.handled = none) (hr : IsRange s.heap r a₀ b₀ 1 t₀ u₀ v₀) (hsmall : Builtin.Range.small a₀ b₀ 1 = true) (hn : Builtin.Range.rangeSize a₀ b₀ 1 = (n : Int)) (F : Fr h₀ env.locals s.heap m₀) (N : News h₀ env.locals s.heap news) (h0 : J 0 m₀ news)
    (turn : ∀ i t m₁ news₁ h tk I oI, i < n → J i m₁ news₁ → (∀ p ∈ news₁, p.1 ≠ I) → Odd I oI → oI.cls = .type "range_iterator" → Fr h₀ env.locals h (fun y => if y = x then some (.int (a₀ + (i : Int)) t) else m₁ y) → News h₀ env.locals h ((I, oI) :: news₁) →
      wpAny (model prog w) A (execs body env) (TEnd h₀ env.locals I oI (J (i + 1)) { s with heap := h, toks := tk } Q) E { s with heap := h, toks := tk })
    (done : ∀ m₁ news₁ h tk, J n m₁ news₁ → Fr h₀ env.locals h m₁ → News h₀ env.locals h news₁ → Q .next { s with heap := h, toks := tk }) :
    wpAny (model prog w) A (pyIter (.ref r)) (fun it s₂ => LoopAtV prog w A h₀ env x body Q E it s₂) E s := by
  refine wpAny_pyIter_range hr hsmall ?_
  have W : Walks prog w A s.heap.objs.size [s.heap.objs.size] [s.heap.objs.size] n (fun i v => i < n ∧ ∃ t, v = .int (a₀ + i * 1) t)
      (fun i h => IsRangeIter h s.heap.objs.size (a₀ + (i : Nat) * 1) ((n : Int) - (i : Nat)) 1) := (Walks.range hh _ a₀ 1 n).bound
  refine ⟨s.heap.objs.size, [s.heap.objs.size], [s.heap.objs.size], n, _, _, m₀, news, J, rfl, W, ?_, ?_, ?_, (by show IsRangeIter _ _ _ _ _; rw [hn]; simpa using Heap.get?_push_size _ rfl), F.push _, fun p hp => ⟨Heap.get?_push_of_some _ (N p hp).1, (N p hp).2⟩, h0, ?_, ?_⟩
  · intro hm
    exact absurd F.ns.lt ((List.mem_singleton.mp hm) ▸ Nat.lt_irrefl _)
  · intro b hb
    rw [List.mem_singleton.mp hb]
    exact next_is_new F
  · intro p hp hI
    exact absurd (Heap.lt_size (N p hp).1) ((List.mem_singleton.mp hI) ▸ Nat.lt_irrefl _)
  · rintro i v m₁ news₁ s₁ own ⟨hh', tk', rfl⟩ hi ⟨_, t, rfl⟩ hJ hoff hown hget hin hst F₁ N₁
    have e1 : a₀ + (i : Int) * 1 = a₀ + (i : Int) := by omega
    rw [e1] at F₁
    obtain ⟨oI, hget0, hodd, hcls⟩ : ∃ oI, hh'.get? s.heap.objs.size = some oI ∧ Odd s.heap.objs.size oI ∧ oI.cls = .type "range_iterator" := ⟨_, hst, Odd.iter hst hst, rfl⟩
    have hI : (s.heap.objs.size, oI) ∈ own := hin _ (List.mem_singleton.mpr rfl) (next_is_new F) _ hget0
    refine wpAny_mono (turn i t m₁ news₁ hh' tk' s.heap.objs.size oI hi hJ (fun p hp e => hoff p hp (List.mem_singleton.mpr e)) hodd hcls F₁ fun p hp => ?_) (fun f s₂ p => ?_) fun _ _ e => e
    · rcases List.mem_cons.mp hp with rfl | hp
      · exact N₁ _ (List.mem_append.mpr (.inl hI))
      · exact N₁ _ (List.mem_append.mpr (.inr hp))
    · have fin : (∃ h' tk m' news', s₂ = { { s with heap := hh', toks := tk' } with heap := h', toks := tk } ∧ Fr h₀ env.locals h' m' ∧ News h₀ env.locals h' ((s.heap.objs.size, oI) :: news') ∧ (∀ p ∈ news', p.1 ≠ s.heap.objs.size) ∧ J (i + 1) m' news') →
          LoopStepU h₀ env.locals [s.heap.objs.size] own (J (i + 1)) { s with heap := hh', toks := tk' } .next s₂ := by
        rintro ⟨h', tk, m', news', e, F', N', ho, hJ'⟩
        refine ⟨rfl, h', tk, m', news', e, F', fun p hp => ?_, fun p hp hq => ho p hp (List.mem_singleton.mp hq), hJ'⟩
        rcases List.mem_append.mp hp with hp | hp
        · have e1 : p.1 = s.heap.objs.size := List.mem_singleton.mp (hown p hp)
          have e2 := hget p hp
          rw [e1] at e2
          have e4 := hget0.symm.trans e2
          have e3 : p = (s.heap.objs.size, oI) := Prod.ext e1 (Option.some.inj e4).symm
          rw [e3]
          exact N' _ (.head _)
        · exact N' _ (.tail _ hp)
      cases f with
      | ret v => exact .ret p
      | brk => exact .brk p
      | next => exact .next (fin p)
      | cont => exact .cont (fin p)
  · rintro h' tk m' news' F' N' _ hJ
    exact done m' news' h' tk hJ F' N'
end
end Mine
namespace Mine
open PySem PySem.W PySem.Spec PySem.Calls PyProof.Rows
theorem newsUpd {h₀ h h' : Heap} {L a : Addr} {o o' : Obj} {old new : List (Addr × Obj)} (U : Upd a o o' old new) (N : News h₀ L h old) (S : StayB a h h') (e : h'.get? a = some o') : News h₀ L h' new := by
  induction U with
  | head hr =>
    intro p hp
    rcases List.mem_cons.mp hp with rfl | hp
    · exact ⟨e, (N _ (.head _)).2⟩
    · exact ⟨S _ _ (hr p hp) (N p (.tail _ hp)).1, (N p (.tail _ hp)).2⟩
  | tail hp hr ih =>
    intro p hp'
    rcases List.mem_cons.mp hp' with rfl | hp'
    · exact ⟨S _ _ hp (N _ (.head _)).1, (N _ (.head _)).2⟩
    · exact ih (fun q hq => N q (.tail _ hq)) p hp'
end Mine
namespace Mine
theorem TB.nil : TB [] 0 := ⟨⟨fun p hp => (nomatch hp), List.nodup_nil⟩, fun p hp => (nomatch hp)⟩
end Mine
namespace Mine
open PySem PySem.W PySem.Spec PySem.Calls PyProof.Rows
def AllNe (d : Nat) : List (Addr × Obj) → Prop
  | [] => True
  | p :: r => @Ne Nat p.1 d ∧ AllNe d r
theorem allNe_of {d : Addr} : ∀ {l : List (Addr × Obj)}, (∀ p ∈ l, p.1 ≠ d) → AllNe d l
  | [], _ => trivial
  | p :: _, h => ⟨h p (.head _), allNe_of fun q hq => h q (.tail _ hq)⟩
theorem newNe {h₀ h : Heap} {L t : Addr} {news : List (Addr × Obj)} (N : News h₀ L h news) (e : h.get? t = none) : AllNe t news := allNe_of fun p hp q => by
  have := (N p hp).1
  rw [q, e] at this; cases this
end Mine
namespace Mine
open PySem PySem.W PySem.Spec PySem.Calls PyProof.Rows
set_option maxRecDepth 100000
abbrev tup2 (x y : Value) (n : Nat) : Obj := { cls := .type "tuple", data := .seq #[x, y] n }
inductive MomAt (g : Heap) (k M : Nat) (v : Value) : Prop
  | mk (t : Addr) (vx vt : Value) (b : Bool) (P : List Int) (e : v = .ref t) (it : IsTup g t #[vx, vt]) (nx : NumH g vx (num (2 ^ k) (zt b P))) (nt : NumH g vt (b, P)) (tb : TB P M) : MomAt g k M v
structure TF (g : Heap) (k M : Nat) (bl : Addr) (bvs us : List Value) (tl : Addr) (vx vt : Value) (b : Bool) (P : List Int) : Prop where
  bl : g.IsList bl bvs.toArray
  moms : ∀ v ∈ us ++ [Value.ref tl], MomAt g k M v
  nx : NumH g vx (num (2 ^ k) (zt b P))
  nt : NumH g vt (b, P)
  tb : TB P M
theorem tup_keeps {g g' : Heap} {t : Addr} {xs : Array Value} (k : g.StaysIn g') (a : IsTup g t xs) : IsTup g' t xs := by
  obtain ⟨o, e, r⟩ := a
  exact ⟨o, k _ _ e, r⟩
theorem list_keeps {g g' : Heap} {t : Addr} {xs : Array Value} (k : g.StaysIn g') (a : g.IsList t xs) : g'.IsList t xs := by
  obtain ⟨o, e, r⟩ := a
  exact ⟨o, k _ _ e, r⟩
theorem MomAt.keeps {g g' : Heap} {k M M' : Nat} {v : Value} (s : g.StaysIn g') (l : M ≤ M') (a : MomAt g k M v) : MomAt g' k M' v := by
  obtain ⟨t, vx, vt, b, P, e, a1, a2, a3, a4⟩ := a
  exact ⟨t, vx, vt, b, P, e, tup_keeps s a1, a2.keeps s, a3.keeps s, a4.mono l⟩
theorem TF.keeps {g g' : Heap} {k M : Nat} {bl : Addr} {bvs us : List Value} {tl : Addr} {vx vt : Value} {b : Bool} {P : List Int} (s : g.StaysIn g') (t : TF g k M bl bvs us tl vx vt b P) : TF g' k M bl bvs us tl vx vt b P :=
  ⟨list_keeps s t.bl, fun v hv => (t.moms v hv).keeps s (Nat.le_refl _), t.nx.keeps s, t.nt.keeps s, t.tb⟩
structure TS (h₀ : Heap) (as : List Addr) (k M : Nat) (bl : Addr) (bvs : List Value) (ps : Array Value) (us : List Value) (tl : Addr) (vx vt : Value) (b : Bool) (P : List Int) (g : Heap) (rest : List (Addr × Obj)) : Prop where
  src : ∀ b o, g.get? b = some o → h₀.get? b = some o ∨ (b, o) ∈ rest
  out : ∀ b o, g.get? b = some o → b ∉ as
  off : ∀ q ∈ rest, q.1 ∉ as
  tab : TabIs g ps
  tf : TF g k M bl bvs us tl vx vt b P
theorem Odd.refs' {a r : Addr} {us : List Value} {n : Nat} (h : ∀ v ∈ us, ∃ a, v = .ref a) : Odd a (listOf (us ++ [Value.ref r]).toArray n) := by
  cases us with
  | nil => exact Odd.refs
  | cons v us =>
    obtain ⟨q, rfl⟩ := h v (.head _)
    exact Odd.refs
theorem moms_refs {g : Heap} {k M : Nat} {us : List Value} (h : ∀ v ∈ us, MomAt g k M v) : ∀ v ∈ us, ∃ a, v = .ref a := fun v hv => by
  obtain ⟨t, _, _, _, _, e, _⟩ := h v hv
  exact ⟨t, e⟩
theorem odd6 {h₀ h : Heap} {L I cw cord mm tl bl : Addr} {m : Str → Option Value} {oI wo : Obj} {v : Option Value} {c : Int} {tc : Tok} {n1 n2 : Nat} {ps : Array Value} {us : List Value} {r : List (Addr × Obj)}
    (F : Fr h₀ L h m) (N : News h₀ L h ((I, oI) :: (cw, wo) :: (cord, cordObj c tc bl n1) :: (265, tabObj ps) :: (mm, listOf (us ++ [Value.ref tl]).toArray n2) :: r)) (hI : Odd I oI) (hw : wo.data = .cell v) (hu : ∀ v ∈ us, ∃ a, v = .ref a) :
    ∀ a ∈ [I, L, cw, cord, 265, mm], ∀ o, h.get? a = some o → Odd a o := by
  intro a ha o e
  have key : ∀ p : Addr × Obj, p ∈ ((I, oI) :: (cw, wo) :: (cord, cordObj c tc bl n1) :: (265, tabObj ps) :: (mm, listOf (us ++ [Value.ref tl]).toArray n2) :: r) → p.1 = a → Odd a p.2 → Odd a o := by
    intro p hp e1 e2
    have := (N p hp).1
    rw [e1, e] at this
    cases this
    exact e2
  simp only [List.mem_cons, List.not_mem_nil, or_false] at ha
  rcases ha with rfl | rfl | rfl | rfl | rfl | rfl
  · exact key (a, oI) (.head _) rfl hI
  · obtain ⟨o', e', q⟩ := Odd.ns F.ns
    rw [e] at e'; cases e'; exact q
  · exact key (a, wo) (.tail _ (.head _)) rfl (Odd.cell hw)
  · exact key _ (.tail _ (.tail _ (.head _))) rfl Odd.cord
  · exact key _ (.tail _ (.tail _ (.tail _ (.head _)))) rfl Odd.tab
  · exact key _ (.tail _ (.tail _ (.tail _ (.tail _ (.head _))))) rfl (Odd.refs' hu)
inductive TSre (h₀ : Heap) (L : Addr) (h g : Heap) (as : List Addr) (k M : Nat) (bl : Addr) (bvs : List Value) (ps : Array Value) (us : List Value) (tl : Addr) (vx vt : Value) (b : Bool) (P : List Int) : Prop
  | mk (g' : Heap) (rest' : List (Addr × Obj)) (N : News h₀ L h rest') (T : TS h₀ as k M bl bvs ps us tl vx vt b P g' rest') (s : g.StaysIn g') (n : ∀ v x, NumH h v x → NumH g' v x) (a : ∀ b o, b ∉ as → h.get? b = some o → g'.get? b = some o) : TSre h₀ L h g as k M bl bvs ps us tl vx vt b P
section
variable {h₀ h g : Heap} {L I cw cord mm tl bl : Addr} {m : Str → Option Value} {oI wo : Obj} {v : Option Value} {c : Int} {tc : Tok} {k M n1 n2 : Nat} {ps ps' : Array Value} {us bvs : List Value} {r rest : List (Addr × Obj)} {vx vt : Value} {b : Bool} {P : List Int}
theorem TS.gk (T : TS h₀ [I, L, cw, cord, 265, mm] k M bl bvs ps us tl vx vt b P g rest) (st : h₀.StaysIn h) (kr : ∀ p ∈ rest, h.get? p.1 = some p.2) : g.StaysIn h := srcStays T.src st kr
theorem TS.gkT {h' : Heap} (T : TS h₀ [I, L, cw, cord, 265, mm] k M bl bvs ps us tl vx vt b P g rest) (G : g.StaysIn h) (s : Stay1 h h') : g.StaysIn h' := fun b o e => s b o (fun q => T.out b o e (by subst q; simp)) (G b o e)
theorem TS.gkB {h' : Heap} (T : TS h₀ [I, L, cw, cord, 265, mm] k M bl bvs ps us tl vx vt b P g rest) (G : g.StaysIn h) (s : StayB cord h h') : g.StaysIn h' := fun b o e => s b o (fun q => T.out b o e (by subst q; simp)) (G b o e)
theorem TS.offT (T : TS h₀ [I, L, cw, cord, 265, mm] k M bl bvs ps us tl vx vt b P g rest) : ∀ q ∈ rest, q.1 ≠ 265 := fun q hq e => T.off q hq (by rw [e]; simp)
theorem TS.offC (T : TS h₀ [I, L, cw, cord, 265, mm] k M bl bvs ps us tl vx vt b P g rest) : ∀ q ∈ rest, q.1 ≠ cord := fun q hq e => T.off q hq (by rw [e]; simp)
theorem TS.offM (T : TS h₀ [I, L, cw, cord, 265, mm] k M bl bvs ps us tl vx vt b P g rest) : ∀ q ∈ rest, q.1 ≠ mm := fun q hq e => T.off q hq (by rw [e]; simp)
theorem TS.offI (T : TS h₀ [I, L, cw, cord, 265, mm] k M bl bvs ps us tl vx vt b P g rest) : ∀ q ∈ rest, q.1 ≠ I := fun q hq e => T.off q hq (by rw [e]; simp)
theorem TS.re (T : TS h₀ [I, L, cw, cord, 265, mm] k M bl bvs ps us tl vx vt b P g rest) (F : Fr h₀ L h m) (N : News h₀ L h ((I, oI) :: (cw, wo) :: (cord, cordObj c tc bl n1) :: (265, tabObj ps') :: (mm, listOf (us ++ [Value.ref tl]).toArray n2) :: r)) (hI : Odd I oI) (hw : wo.data = .cell v)
    (G : g.StaysIn h) (tab : TabIs h ps') : TSre h₀ L h g [I, L, cw, cord, 265, mm] k M bl bvs ps' us tl vx vt b P := by
  obtain ⟨g', rest', NR, R⟩ := rebase F [I, L, cw, cord, 265, mm] (by simp) (odd6 F N hI hw (moms_refs fun v hv => T.tf.moms v (List.mem_append.mpr (.inl hv))))
  have s := R.stay G T.out
  exact ⟨g', rest', NR, ⟨R.src, R.out, R.off, R.tab _ tab, T.tf.keeps s⟩, s, R.num, R.all⟩
end
inductive LawJ (k : Nat) (h₀ : Heap) (L cw cord mm bl : Addr) (wo : Obj) (bvs : List Value) (i : Nat) (m : Str → Option Value) (news : List (Addr × Obj)) : Prop
  | mk (g : Heap) (rest : List (Addr × Obj)) (c : Int) (tc : Tok) (n1 : Nat) (ps : Array Value) (us : List Value) (tl : Addr) (vx vt : Value) (n2 n3 : Nat) (b : Bool) (P : List Int)
    (e : news = (cw, wo) :: (cord, cordObj c tc bl n1) :: (265, tabObj ps) :: (mm, listOf (us ++ [Value.ref tl]).toArray n2) :: (tl, tup2 vx vt n3) :: rest)
    (m1 : m (Str.ofString "told") = some vt) (m2 : m (Str.ofString "moments") = some (.ref mm)) (m3 : m (Str.ofString "cord") = some (.ref cord))
    (c0 : 0 ≤ c) (c1 : c ≤ 3 + 2 * (i : Int)) (ul : us.length = i) (ts : TS h₀ [L, cw, cord, 265, mm] k (27 * i) bl bvs ps us tl vx vt b P g rest) : LawJ k h₀ L cw cord mm bl wo bvs i m news
theorem frForm {h₀ h : Heap} {L : Addr} {m : Str → Option Value} {v vt vm vc : Value} (F : Fr h₀ L h (fun y => if y = Str.ofString "turn" then some v else m y)) (h1 : m (Str.ofString "told") = some vt) (h2 : m (Str.ofString "moments") = some vm) (h3 : m (Str.ofString "cord") = some vc) :
    Fr h₀ L h (fun y => if y = Str.ofString "turn" then some v else if y = Str.ofString "told" then some vt else if y = Str.ofString "moments" then some vm else if y = Str.ofString "cord" then some vc else m y) := by
  have e : (fun y => if y = Str.ofString "turn" then some v else m y) = (fun y => if y = Str.ofString "turn" then some v else if y = Str.ofString "told" then some vt else if y = Str.ofString "moments" then some vm else if y = Str.ofString "cord" then some vc else m y) := by
    funext y
    by_cases e1 : y = Str.ofString "turn"
    · rw [if_pos e1, if_pos e1]
    · rw [if_neg e1, if_neg e1]
      by_cases e2 : y = Str.ofString "told"
      · rw [if_pos e2, e2, h1]
      · rw [if_neg e2]
        by_cases e3 : y = Str.ofString "moments"
        · rw [if_pos e3, e3, h2]
        · rw [if_neg e3]
          by_cases e4 : y = Str.ofString "cord"
          · rw [if_pos e4, e4, h3]
          · rw [if_neg e4]
  rw [e] at F
  exact F
theorem lawJ_start {h₀ h : Heap} {L cw cord mm tl bl : Addr} {m : Str → Option Value} {wo : Obj} {v : Option Value} {c : Int} {tc : Tok} {k n1 n2 n3 : Nat} {ps : Array Value} {bvs : List Value} {vx vt : Value} {b : Bool}
    (F : Fr h₀ L h m) (N : News h₀ L h [(cw, wo), (cord, cordObj c tc bl n1), (265, tabObj ps), (mm, listOf [Value.ref tl].toArray n2), (tl, tup2 vx vt n3)]) (hw : wo.data = .cell v) (hx : NumH h vx (num (2 ^ k) (zt b []))) (ht : NumH h vt (b, [])) (hb : h.IsList bl bvs.toArray) (hT : TabIs h ps) (hc : 0 ≤ c) (hc' : c ≤ 3)
    (ho : bl ∉ [L, cw, cord, 265, mm]) (htl : tl ∉ [L, cw, cord, 265, mm])
    (h1 : m (Str.ofString "told") = some vt) (h2 : m (Str.ofString "moments") = some (.ref mm)) (h3 : m (Str.ofString "cord") = some (.ref cord)) : ∃ news, News h₀ L h news ∧ LawJ k h₀ L cw cord mm bl wo bvs 0 m news := by
  have hodd : ∀ a ∈ [L, cw, cord, 265, mm], ∀ o, h.get? a = some o → Odd a o := by
    intro a ha o e
    have key : ∀ p : Addr × Obj, p ∈ [(cw, wo), (cord, cordObj c tc bl n1), (265, tabObj ps), (mm, listOf [Value.ref tl].toArray n2), (tl, tup2 vx vt n3)] → p.1 = a → Odd a p.2 → Odd a o := by
      intro p hp e1 e2
      have := (N p hp).1
      rw [e1, e] at this
      cases this
      exact e2
    simp only [List.mem_cons, List.not_mem_nil, or_false] at ha
    rcases ha with rfl | rfl | rfl | rfl | rfl
    · obtain ⟨o', e', q⟩ := Odd.ns F.ns
      rw [e] at e'; cases e'; exact q
    · exact key (a, wo) (.head _) rfl (Odd.cell hw)
    · exact key _ (.tail _ (.head _)) rfl Odd.cord
    · exact key _ (.tail _ (.tail _ (.head _))) rfl Odd.tab
    · exact key _ (.tail _ (.tail _ (.tail _ (.head _)))) rfl Odd.refs
  obtain ⟨g, rest, NR, R⟩ := rebase F [L, cw, cord, 265, mm] (by simp) hodd
  have htup : IsTup g tl #[vx, vt] := ⟨_, R.all _ _ htl (N (tl, tup2 vx vt n3) (.tail _ (.tail _ (.tail _ (.tail _ (.head _)))))).1, rfl, n3, rfl⟩
  have hbg : g.IsList bl bvs.toArray := by
    obtain ⟨o, e, r⟩ := hb
    exact ⟨o, R.all _ _ ho e, r⟩
  refine ⟨_, News.append N NR, g, rest, c, tc, n1, ps, [], tl, vx, vt, n2, n3, b, [], rfl, h1, h2, h3, hc, by omega, rfl, ⟨R.src, R.out, R.off, R.tab _ hT, ⟨hbg, ?_, R.num _ _ hx, R.num _ _ ht, TB.nil⟩⟩⟩
  intro v hv
  rw [List.nil_append, List.mem_singleton] at hv
  exact ⟨tl, vx, vt, b, [], hv, htup, R.num _ _ hx, R.num _ _ ht, TB.nil⟩
theorem TS.intoI {h₀ h g : Heap} {L I : Addr} {as : List Addr} {oI : Obj} {k M : Nat} {bl : Addr} {bvs : List Value} {ps : Array Value} {us : List Value} {tl : Addr} {vx vt : Value} {b : Bool} {P : List Int} {rest news : List (Addr × Obj)}
    (T : TS h₀ as k M bl bvs ps us tl vx vt b P g rest) (N : News h₀ L h ((I, oI) :: news)) (ho : ∀ p ∈ rest, p.1 ≠ I) : TS h₀ (I :: as) k M bl bvs ps us tl vx vt b P g rest := by
  refine ⟨T.src, fun a o e hm => ?_, fun q hq hm => ?_, T.tab, T.tf⟩
  · rcases List.mem_cons.mp hm with rfl | hm
    · rcases T.src _ _ e with h1 | h1
      · rw [(N _ (.head _)).2.2] at h1; cases h1
      · exact ho _ h1 rfl
    · exact T.out _ _ e hm
  · rcases List.mem_cons.mp hm with h | hm
    · exact ho q hq h
    · exact T.off q hq hm
theorem turnEnd {h₀ h' g : Heap} {L I cw cord mm tl bl tn : Addr} {m' : Str → Option Value} {oI wo : Obj} {w0 : Option Value} {c : Int} {tc : Tok} {k i n1 n2 n3 tk : Nat} {ps : Array Value} {us bvs : List Value} {rest r : List (Addr × Obj)} {vx vt xv tv : Value} {b b' : Bool} {P P' : List Int} {s₁ : Shared} {Q : Flow → Shared → Prop}
    (T : TS h₀ [I, L, cw, cord, 265, mm] k (27 * i) bl bvs ps us tl vx vt b P g rest) (F : Fr h₀ L h' m') (N : News h₀ L h' ((I, oI) :: (cw, wo) :: (cord, cordObj c tc bl n1) :: (265, tabObj ps) :: (mm, listOf ((us ++ [Value.ref tl]) ++ [Value.ref tn]).toArray n2) :: (tn, tup2 xv tv n3) :: r))
    (hI : Odd I oI) (hw : wo.data = .cell w0) (G : g.StaysIn h') (hx : NumH h' xv (num (2 ^ k) (zt b' P'))) (ht : NumH h' tv (b', P')) (tb : TB P' (27 * (i + 1))) (hn : tn ∉ [I, L, cw, cord, 265, mm]) (hIo : I ∉ [cw, cord, 265, mm])
    (hc : 0 ≤ c) (hc' : c ≤ 3 + 2 * ((i + 1 : Nat) : Int)) (hl : us.length = i)
    (h1 : m' (Str.ofString "told") = some tv) (h2 : m' (Str.ofString "moments") = some (.ref mm)) (h3 : m' (Str.ofString "cord") = some (.ref cord)) :
    TEnd h₀ L I oI (LawJ k h₀ L cw cord mm bl wo bvs (i + 1)) s₁ Q .next { s₁ with heap := h', toks := tk } := by
  have hu : ∀ v ∈ us ++ [Value.ref tl], ∃ a, v = .ref a := moms_refs T.tf.moms
  obtain ⟨g', rest', NR, R⟩ := rebase F [I, L, cw, cord, 265, mm] (by simp) (odd6 F N hI hw hu)
  have s := R.stay G T.out
  have htup : IsTup g' tn #[xv, tv] := ⟨_, R.all _ _ hn (N (tn, tup2 xv tv n3) (.tail _ (.tail _ (.tail _ (.tail _ (.tail _ (.head _))))))).1, rfl, n3, rfl⟩
  have N2 : News h₀ L h' ((I, oI) :: (cw, wo) :: (cord, cordObj c tc bl n1) :: (265, tabObj ps) :: (mm, listOf ((us ++ [Value.ref tl]) ++ [Value.ref tn]).toArray n2) :: (tn, tup2 xv tv n3) :: rest') := by
    intro p hp
    simp only [List.mem_cons] at hp
    rcases hp with rfl | rfl | rfl | rfl | rfl | rfl | hp
    · exact N _ (.head _)
    · exact N _ (.tail _ (.head _))
    · exact N _ (.tail _ (.tail _ (.head _)))
    · exact N _ (.tail _ (.tail _ (.tail _ (.head _))))
    · exact N _ (.tail _ (.tail _ (.tail _ (.tail _ (.head _)))))
    · exact N _ (.tail _ (.tail _ (.tail _ (.tail _ (.tail _ (.head _))))))
    · exact NR p hp
  have hle : 27 * i ≤ 27 * (i + 1) := by omega
  refine TEnd.next F N2 ?_ ⟨g', rest', c, tc, n1, ps, us ++ [Value.ref tl], tn, xv, tv, n2, n3, b', P', rfl, h1, h2, h3, hc, hc', by simp [hl], ⟨R.src, fun a o e hm => R.out a o e (.tail _ hm), fun q hq hm => R.off q hq (.tail _ hm), T.tab.stay (Stay1.of s), ⟨list_keeps s T.tf.bl, ?_, R.num _ _ hx, R.num _ _ ht, tb⟩⟩⟩
  · intro p hp e
    simp only [List.mem_cons] at hp
    simp only [List.mem_cons, List.not_mem_nil, or_false, not_or] at hIo hn
    rcases hp with rfl | rfl | rfl | rfl | rfl | hp
    · exact hIo.1 e.symm
    · exact hIo.2.1 e.symm
    · exact hIo.2.2.1 e.symm
    · exact hIo.2.2.2 e.symm
    · exact hn.1 e
    · exact R.off p hp (by rw [e]; simp)
  · intro v hv
    rcases List.mem_append.mp hv with hv | hv
    · exact (T.tf.moms v hv).keeps s hle
    · rw [List.mem_singleton] at hv
      exact ⟨tn, xv, tv, b', P', hv, htup, R.num _ _ hx, R.num _ _ ht, tb⟩
section
variable {prog : Program} {w : World} {A : Around} {E : Value → Shared → Prop} {s : Shared} {h₀ : Heap} {L l : Addr} {news : List (Addr × Obj)} {Q : Value → Shared → Prop}
theorem mom_item {value slice : PySem.Expr} {vs : List Value} {n : Nat} {k : Int} {u : Tok} (N : News h₀ L s.heap news) (hm : (l, listOf vs.toArray n) ∈ news) (h0 : 0 ≤ k) (h1 : k < (vs.length : Int)) (hfit : k < 2 ^ 63) (h : ∀ v, v ∈ vs → Q v s)
    (hs : subscripted slice false (.ref l) (.int k u) = operate [.ref l, .int k u] (getItem (.ref l) (.int k u)) := by with_unfolding_all rfl) : wpAny (model prog w) A (subscriptTail value slice (.ref l) (.int k u)) Q E s := by
  have hl : s.heap.IsList l vs.toArray := ⟨_, (N _ hm).1, rfl, n, rfl⟩
  have hk : k.toNat < vs.length := by omega
  refine tail_any hl.typeIs slot_list_getitem.lookup (wpAny_getItem_list hl h0 hfit (x := vs[k.toNat]) ?_ (h _ (List.getElem_mem hk))) hs
  simp [hk]
theorem mom_last {value slice : PySem.Expr} {us : List Value} {x : Value} {n : Nat} {u : Tok} (N : News h₀ L s.heap news) (hm : (l, listOf (us ++ [x]).toArray n) ∈ news) (h : Q x s)
    (hs : subscripted slice false (.ref l) (.int (-1) u) = operate [.ref l, .int (-1) u] (getItem (.ref l) (.int (-1) u)) := by with_unfolding_all rfl) : wpAny (model prog w) A (subscriptTail value slice (.ref l) (.int (-1) u)) Q E s := by
  have hl : s.heap.IsList l (us ++ [x]).toArray := ⟨_, (N _ hm).1, rfl, n, rfl⟩
  have hz : ((us ++ [x]).toArray.size : Int) = (us.length : Int) + 1 := by simp
  refine tail_any hl.typeIs slot_list_getitem.lookup (wpAny_getItem_list_neg hl (by decide) (by rw [hz]; omega) (by decide) (x := x) ?_ h) hs
  rw [hz, show (-1 + ((us.length : Int) + 1)).toNat = us.length by omega]
  simp
theorem mom_len {vs : List Value} {n i : Nat} (N : News h₀ L s.heap news) (hm : (l, listOf vs.toArray n) ∈ news) (hl : vs.length = i) (hi : i < 2 ^ 20) (h : Q (.int (i : Int) (s.toks + 1)) { s with toks := s.toks + 1 + 1 }) : wpAny (model prog w) A (call (.builtin "len") [.ref l]) Q E s := by
  have hlist : s.heap.IsList l vs.toArray := ⟨_, (N _ hm).1, rfl, n, rfl⟩
  have e : vs.toArray.size = i := by rw [List.size_toArray, hl]
  exact len_list hlist (by rw [e]; omega) (by rw [e]; exact h)
end
end Mine
namespace Mine
open PySem PySem.W PySem.Spec PySem.Calls PyProof.Rows
set_option maxRecDepth 100000
theorem frForm2 {h₀ h : Heap} {L : Addr} {m : Str → Option Value} {vm : Value} (F : Fr h₀ L h m) (h2 : m (Str.ofString "moments") = some vm) : Fr h₀ L h (fun y => if y = Str.ofString "moments" then some vm else m y) := by
  have e : m = (fun y => if y = Str.ofString "moments" then some vm else m y) := by
    funext y
    by_cases e : y = Str.ofString "moments"
    · rw [if_pos e, e, h2]
    · rw [if_neg e]
  rw [← e]
  exact F
theorem newsNe {h₀ h : Heap} {L a a' : Addr} {o o' : Obj} {news : List (Addr × Obj)} (N : News h₀ L h news) (h1 : (a, o) ∈ news) (h2 : (a', o') ∈ news) (n : o ≠ o') : @Ne Nat a a' := by
  intro e
  have e : a = a' := e
  subst e
  have a1 := (N _ h1).1
  have a2 := (N _ h2).1
  rw [a1] at a2
  exact n (Option.some.inj a2)
section
variable {prog : Program} {w : World} {A : Around} {E : Value → Shared → Prop} {s : Shared} {env : Env} {h₀ : Heap} {x : Str} {body : List Stmt} {Q : Flow → Shared → Prop}
theorem law_loop {L r cw cord mm tl0 bl : Addr} {m : Str → Option Value} {wo : Obj} {v0 : Option Value} {c0 : Int} {tc0 t₀ u₀ v₀ : Tok} {k rt n10 n20 n30 : Nat} {bvs : List Value} {vx0 vt0 : Value} {b0 : Bool} (hL : env.locals = L)
    (hh : A.handled = none) (hr : IsRange s.heap r 0 (1 + (rt : Int)) 1 t₀ u₀ v₀) (hrt : rt < 9)
    (F : Fr h₀ L s.heap m) (N : News h₀ L s.heap [(cw, wo), (cord, cordObj c0 tc0 bl n10), (265, tabObj #[]), (mm, listOf [Value.ref tl0].toArray n20), (tl0, tup2 vx0 vt0 n30)]) (hw : wo.data = .cell v0) (hx : NumH s.heap vx0 (num (2 ^ k) (zt b0 []))) (ht : NumH s.heap vt0 (b0, [])) (hb : s.heap.IsList bl bvs.toArray) (hc : 0 ≤ c0) (hc' : c0 ≤ 3)
    (ho : bl ∉ [L, cw, cord, 265, mm]) (htl : tl0 ∉ [L, cw, cord, 265, mm])
    (h1 : m (Str.ofString "told") = some vt0) (h2 : m (Str.ofString "moments") = some (.ref mm)) (h3 : m (Str.ofString "cord") = some (.ref cord))
    (turn : ∀ (i : Nat) (t : Tok) (u : Str → Option Value) (h : Heap) (tk : Nat) (I : Addr) (oI : Obj) (g : Heap) (rest : List (Addr × Obj)) (c : Int) (tc : Tok) (n1 : Nat) (ps : Array Value) (us : List Value) (tl : Addr) (vx vt : Value) (n2 n3 : Nat) (b : Bool) (P : List Int),
      i < 9 → Odd I oI → oI.cls = .type "range_iterator" → I ∉ [cw, cord, 265, mm] →
      Fr h₀ L h (fun y => if y = Str.ofString "turn" then some (.int (0 + (i : Int)) t) else if y = Str.ofString "told" then some vt else if y = Str.ofString "moments" then some (.ref mm) else if y = Str.ofString "cord" then some (.ref cord) else u y) →
      News h₀ L h ((I, oI) :: (cw, wo) :: (cord, cordObj c tc bl n1) :: (265, tabObj ps) :: (mm, listOf (us ++ [Value.ref tl]).toArray n2) :: (tl, tup2 vx vt n3) :: rest) →
      0 ≤ c → c ≤ 3 + 2 * (i : Int) → us.length = i → TS h₀ [I, L, cw, cord, 265, mm] k (27 * i) bl bvs ps us tl vx vt b P g rest →
      ((@Ne Nat I cw) ∧ (@Ne Nat I cord) ∧ (@Ne Nat I 265) ∧ (@Ne Nat I mm) ∧ (@Ne Nat I tl) ∧ (@Ne Nat tl cw) ∧ (@Ne Nat tl cord) ∧ (@Ne Nat tl 265) ∧ (@Ne Nat tl mm)) → ((@Ne Nat cw cord) ∧ (@Ne Nat cw 265) ∧ (@Ne Nat cw mm) ∧ (@Ne Nat cord 265) ∧ (@Ne Nat cord mm) ∧ (@Ne Nat mm 265)) →
      wpAny (model prog w) A (execs body env) (TEnd h₀ L I oI (LawJ k h₀ L cw cord mm bl wo bvs (i + 1)) { s with heap := h, toks := tk } Q) E { s with heap := h, toks := tk })
    (done : ∀ (u : Str → Option Value) (h : Heap) (tk : Nat) (g : Heap) (rest : List (Addr × Obj)) (c : Int) (tc : Tok) (n1 : Nat) (ps : Array Value) (us : List Value) (tl : Addr) (vx vt : Value) (n2 n3 : Nat) (b : Bool) (P : List Int),
      Fr h₀ L h (fun y => if y = Str.ofString "moments" then some (.ref mm) else u y) →
      News h₀ L h ((cw, wo) :: (cord, cordObj c tc bl n1) :: (265, tabObj ps) :: (mm, listOf (us ++ [Value.ref tl]).toArray n2) :: (tl, tup2 vx vt n3) :: rest) →
      us.length = 1 + rt → TS h₀ [L, cw, cord, 265, mm] k (27 * (1 + rt)) bl bvs ps us tl vx vt b P g rest → Q .next { s with heap := h, toks := tk }) :
    wpAny (model prog w) A (pyIter (.ref r)) (fun it s₂ => LoopAtV prog w A h₀ env (Str.ofString "turn") body Q E it s₂) E s := by
  subst hL
  obtain ⟨news, NJ, J0⟩ := lawJ_start F N hw hx ht hb TabIs.nil hc hc' ho htl h1 h2 h3
  have hn : Builtin.Range.rangeSize 0 (1 + (rt : Int)) 1 = ((1 + rt : Nat) : Int) := by
    rw [rangeSize_nat]; omega
  have hst : ((@Ne Nat cw cord) ∧ (@Ne Nat cw 265) ∧ (@Ne Nat cw mm) ∧ (@Ne Nat cord 265) ∧ (@Ne Nat cord mm) ∧ (@Ne Nat mm 265)) := by
    have dl : ∀ {c : Int} {t : Tok} {bl : Addr} {n n' : Nat} {r : Addr}, cordObj c t bl n ≠ listOf [Value.ref r].toArray n' := by
      intro c t bl n n' r e
      have h9 := congrArg Obj.data e
      injection h9 with h9
      injection h9 with h9
      injection h9 with h9
      cases h9
    refine ⟨newsNe N (.head _) (.tail _ (.head _)) ?_, newsNe N (.head _) (.tail _ (.tail _ (.head _))) ?_, newsNe N (.head _) (.tail _ (.tail _ (.tail _ (.head _)))) ?_, newsNe N (.tail _ (.head _)) (.tail _ (.tail _ (.head _))) ?_, newsNe N (.tail _ (.head _)) (.tail _ (.tail _ (.tail _ (.head _)))) dl, newsNe N (.tail _ (.tail _ (.tail _ (.head _)))) (.tail _ (.tail _ (.head _))) ?_⟩
    · intro e
      rw [e] at hw
      cases hw
    · intro e
      rw [e] at hw
      cases hw
    · intro e
      rw [e] at hw
      cases hw
    · intro e
      have := congrArg Obj.cls e
      cases this
    · intro e
      have := congrArg Obj.cls e
      cases this
  refine range_loop (n := 1 + rt) (LawJ k h₀ env.locals cw cord mm bl wo bvs) hh hr (small_one (by omega) (by omega) (by omega) (by omega)) hn F NJ J0 ?_ ?_
  · rintro i t m₁ news₁ h tk I oI hi ⟨g, rest, c, tc, n1, ps, us, tl, vx, vt, n2, n3, b, P, rfl, e1, e2, e3, hc1, hc2, hl, T⟩ hoff hodd hcls F₁ N₁
    have q1 : ∀ p : Addr × Obj, p ∈ ((cw, wo) :: (cord, cordObj c tc bl n1) :: (265, tabObj ps) :: (mm, listOf (us ++ [Value.ref tl]).toArray n2) :: (tl, tup2 vx vt n3) :: rest) → @Ne Nat I p.1 := fun p hp e => hoff p hp e.symm
    have mtl : (tl, tup2 vx vt n3) ∈ ((I, oI) :: (cw, wo) :: (cord, cordObj c tc bl n1) :: (265, tabObj ps) :: (mm, listOf (us ++ [Value.ref tl]).toArray n2) :: (tl, tup2 vx vt n3) :: rest) := .tail _ (.tail _ (.tail _ (.tail _ (.tail _ (.head _)))))
    refine turn i t m₁ h tk I oI g rest c tc n1 ps us tl vx vt n2 n3 b P (by omega) hodd hcls (by simp only [List.mem_cons, List.not_mem_nil, or_false, not_or]; exact ⟨q1 (cw, wo) (.head _), q1 (cord, cordObj c tc bl n1) (.tail _ (.head _)), q1 (265, tabObj ps) (.tail _ (.tail _ (.head _))), q1 (mm, listOf (us ++ [Value.ref tl]).toArray n2) (.tail _ (.tail _ (.tail _ (.head _))))⟩) (frForm F₁ e1 e2 e3) N₁ hc1 hc2 hl (T.intoI N₁ fun p hp => hoff p (.tail _ (.tail _ (.tail _ (.tail _ (.tail _ hp)))))) ⟨q1 (cw, wo) (.head _), q1 (cord, cordObj c tc bl n1) (.tail _ (.head _)), q1 (265, tabObj ps) (.tail _ (.tail _ (.head _))), q1 (mm, listOf (us ++ [Value.ref tl]).toArray n2) (.tail _ (.tail _ (.tail _ (.head _)))), q1 (tl, tup2 vx vt n3) (.tail _ (.tail _ (.tail _ (.tail _ (.head _))))), newsNe N₁ mtl (.tail _ (.head _)) ?_, newsNe N₁ mtl (.tail _ (.tail _ (.head _))) ?_, newsNe N₁ mtl (.tail _ (.tail _ (.tail _ (.head _)))) ?_, newsNe N₁ mtl (.tail _ (.tail _ (.tail _ (.tail _ (.head _))))) ?_⟩ hst
    · intro e
      rw [← e] at hw
      cases hw
    · intro e
      have h9 : (Value.type "tuple") = Value.type "list" := congrArg Obj.cls e
      injection h9 with h9
      exact absurd h9 (by decide)
    · intro e
      have := congrArg Obj.cls e
      cases this
    · intro e
      have h9 : (Value.type "tuple") = Value.type "list" := congrArg Obj.cls e
      injection h9 with h9
      exact absurd h9 (by decide)
  · rintro m₁ news₁ h tk ⟨g, rest, c, tc, n1, ps, us, tl, vx, vt, n2, n3, b, P, rfl, e1, e2, e3, hc1, hc2, hl, T⟩ F₁ N₁
    exact done m₁ h tk g rest c tc n1 ps us tl vx vt n2 n3 b P (frForm2 F₁ e2) N₁ hl T
end
end Mine
namespace Mine
open PySem PySem.W PySem.Spec PySem.Calls PyProof.Rows
theorem allNeL {h₀ h : Heap} {L : Addr} {news : List (Addr × Obj)} (N : News h₀ L h news) : AllNe L news := allNe_of fun p hp => (N p hp).2.1
theorem oval_f1 {f : Nat} {p q : Nat} {t : Tok} (h : (f : Int) < 3) : OVal (.int (p : Int) t) (some (((if f < 3 then p else q) : Nat) : Int)) := ⟨t, by rw [if_pos (by omega)]⟩
theorem oval_f2 {f : Nat} {p k : Nat} {t : Tok} (h : ¬ (f : Int) < 3) : OVal (.int (Int.fmod (p : Int) (2 + (k : Int) + 2)) t) (some (((if f < 3 then p else p % (2 + k + 2)) : Nat) : Int)) := by
  refine ⟨t, ?_⟩
  rw [if_neg (by omega), Int.fmod_eq_emod_of_nonneg _ (by omega)]
  congr 1
theorem oval_g1 {f : Nat} {t : Tok} (h : (f : Int) = 7) : OVal (.int 8 t) (some (((if f = 7 then 8 else f) : Nat) : Int)) := ⟨t, by
  have : f = 7 := by omega
  rw [if_pos this]; rfl⟩
theorem oval_g2 {f : Nat} {t : Tok} (h : (f : Int) ≠ 7) : OVal (.int (f : Int) t) (some (((if f = 7 then 8 else f) : Nat) : Int)) := ⟨t, by
  have : ¬ f = 7 := by omega
  rw [if_neg this]⟩
theorem form_any {f : Nat} (h : ([2, 5, 6, 7].any fun x : Int => x == (f : Int)) = true) : f = 2 ∨ f = 5 ∨ f = 6 ∨ f = 7 := by
  simp at h
  omega
theorem TB.bup {P : List Int} {B n k : Nat} (h : TB P B) (hB : B ≤ 300) (hk : 2 ≤ k) (hn : n ≤ 300) (b : Bool) : (limbs (2 ^ k) (((Mine.zt b P).natAbs : Int) * 2 ^ n)).length < 2 ^ 14 := by
  have hp := kbt_pos n
  refine limbs_bd (M := 2 * B + n) hk (Int.mul_nonneg (by omega) (by omega)) ?_ (by omega)
  rw [Int.pow_add]
  exact Int.mul_le_mul_of_nonneg_right (h.zt b) (by omega)
theorem xor_bd {b mb : Bool} {P mP ns : List Int} {M k : Nat} (hP : TB P M) (hm : TB mP M) (h : ns.Perm (P ++ mP.filter fun n => !(P.any fun x => x == n))) (hM : M ≤ 300) (hk : 2 ≤ k) : (limbs (2 ^ k) (Builtin.bitXor (zt b P) (zt mb mP)).natAbs).length < 2 ^ 14 := by
  rw [← zt_xor hP hm h]
  exact TB.bx (tb_jt (op := fun x y => x != y) hP hm h) hM hk _
theorem nm_bd {f p k : Nat} (h : (p : Int) < 3 * (2 + (k : Int))) (hk : (k : Int) < 8) : (if f < 3 then p else p % (2 + k + 2)) ≤ 26 := by
  split
  · omega
  · have := Nat.mod_lt p (show 0 < 2 + k + 2 by omega)
    omega
end Mine
namespace Mine
open PySem PySem.W PySem.Spec PySem.Calls PyProof.Rows
section
variable {h₀ h : Heap} {L I cw cord mm tl td bl : Addr} {oI wo otl otd : Obj} {c : Int} {tc : Tok} {n1 n2 : Nat} {ps : Array Value} {ws : List Value} {old rest' : List (Addr × Obj)}
theorem law_led (N : News h₀ L h old) (m1 : (I, oI) ∈ old) (m2 : (cw, wo) ∈ old) (m3 : (cord, cordObj c tc bl n1) ∈ old) (m4 : (265, tabObj ps) ∈ old) (m5 : (mm, listOf ws.toArray n2) ∈ old) (m6 : (tl, otl) ∈ old) (m7 : (td, otd) ∈ old) :
    News h₀ L h ((I, oI) :: (cw, wo) :: (cord, cordObj c tc bl n1) :: (265, tabObj ps) :: (mm, listOf ws.toArray n2) :: [(tl, otl), (td, otd)]) :=
  news_pick N m1 (news_pick N m2 (news_pick N m3 (news_pick N m4 (news_pick N m5 (news_pick N m6 (news_pick N m7 News.nil))))))
theorem law_relist (N : News h₀ L h ((I, oI) :: (cw, wo) :: (cord, cordObj c tc bl n1) :: (265, tabObj ps) :: (mm, listOf ws.toArray n2) :: [(tl, otl), (td, otd)])) (NR : News h₀ L h rest') :
    News h₀ L h ((td, otd) :: (I, oI) :: (cw, wo) :: (cord, cordObj c tc bl n1) :: (265, tabObj ps) :: (mm, listOf ws.toArray n2) :: (tl, otl) :: rest') := by
  intro p hp
  simp only [List.mem_cons] at hp
  rcases hp with rfl | rfl | rfl | rfl | rfl | rfl | rfl | hp
  · exact N _ (.tail _ (.tail _ (.tail _ (.tail _ (.tail _ (.tail _ (.head _)))))))
  · exact N _ (.head _)
  · exact N _ (.tail _ (.head _))
  · exact N _ (.tail _ (.tail _ (.head _)))
  · exact N _ (.tail _ (.tail _ (.tail _ (.head _))))
  · exact N _ (.tail _ (.tail _ (.tail _ (.tail _ (.head _)))))
  · exact N _ (.tail _ (.tail _ (.tail _ (.tail _ (.tail _ (.head _))))))
  · exact NR p hp
end
end Mine
namespace Mine
open PySem PySem.W PySem.Spec PySem.Calls PyProof.Rows
theorem keptOf {h₀ h : Heap} {L : Addr} {l rest : List (Addr × Obj)} (N : News h₀ L h l) (sub : ∀ p ∈ rest, p ∈ l) : ∀ p ∈ rest, h.get? p.1 = some p.2 := fun p hp => (N p (sub p hp)).1
theorem stay1B {h h' : Heap} (s : Stay1 h h') : StayB 265 h h' := s
end Mine
namespace Mine
open PySem PySem.W PySem.Spec PySem.Calls PyProof.Rows
theorem ovalS {v : Value} {i : Int} (h : OVal v (some i)) : ∃ t, v = .int i t := h
end Mine
namespace Mine
open PySem PySem.W PySem.Spec PySem.Calls PyProof.Rows
section
variable {h₀ h : Heap} {L I cw cord mm tl td bl tm : Addr} {oI wo otl : Obj} {c f nn : Int} {tc tf tn : Tok} {k M n1 n2 n7 : Nat} {ps ps' : Array Value} {bvs us : List Value} {vx vt : Value} {b : Bool} {P : List Int} {g : Heap} {rest old : List (Addr × Obj)}
abbrev tup3 (f nn : Int) (tf tn : Tok) (tm : Addr) (n : Nat) : Obj := { cls := .type "tuple", data := .seq #[.int f tf, .int nn tn, .ref tm] n }
theorem law_ledT (_T : TS h₀ [I, L, cw, cord, 265, mm] k M bl bvs ps' us tl vx vt b P g rest) (f nn : Int) (tm : Addr) (N : News h₀ L h old) (m1 : (I, oI) ∈ old) (m2 : (cw, wo) ∈ old) (m3 : (cord, cordObj c tc bl n1) ∈ old) (m4 : (265, tabObj ps) ∈ old) (m5 : (mm, listOf (us ++ [Value.ref tl]).toArray n2) ∈ old) (m6 : (tl, otl) ∈ old) (m7 : (td, tup3 f nn tf tn tm n7) ∈ old) :
    News h₀ L h ((I, oI) :: (cw, wo) :: (cord, cordObj c tc bl n1) :: (265, tabObj ps) :: (mm, listOf (us ++ [Value.ref tl]).toArray n2) :: [(tl, otl), (td, tup3 f nn tf tn tm n7)]) := law_led N m1 m2 m3 m4 m5 m6 m7
end
end Mine
namespace Mine
open PySem PySem.W PySem.Spec PySem.Calls PyProof.Rows
theorem jt_len {b mb : Bool} {P mP ns : List Int} {M : Nat} (hP : TB P M) (hm : TB mP M) (h : ns.Perm (P ++ mP.filter fun n => !(P.any fun x => x == n))) (hM : M ≤ 300) : (ns.filter fun n => jt (fun x y => x != y) b mb P mP n).length < 2 ^ 20 := by
  have := (tb_jt (op := fun x y => x != y) (b := b) (mb := mb) hP hm h).len
  omega
end Mine
namespace Mine
open PySem PySem.W PySem.Spec PySem.Calls PyProof.Rows
theorem ta_ne {h₀ h : Heap} {L ta la mm : Addr} {b : Bool} {na n2 : Nat} {ws : List Value} {l : List (Addr × Obj)} (N : News h₀ L h l) (h1 : (ta, ({ cls := .type "tuple", data := .seq #[.bool b, .ref la] na } : Obj)) ∈ l) (h2 : (mm, listOf ws.toArray n2) ∈ l) : @Ne Nat ta mm := by
  refine newsNe N h1 h2 fun e => ?_
  have h9 : (Value.type "tuple") = Value.type "list" := congrArg Obj.cls e
  injection h9 with h9
  exact absurd h9 (by decide)
theorem ints_no_ref {ws : List Value} {ns : List Int} {a : Addr} (i : IntsAre ws ns) (h : Value.ref a ∈ ws) : False := by
  induction i with
  | nil => cases h
  | cons n t _ ih =>
    rcases List.mem_cons.mp h with h | h
    · cases h
    · exact ih h
theorem la_ne {h₀ h : Heap} {L la mm tl : Addr} {na n2 : Nat} {wa us : List Value} {ns : List Int} {l : List (Addr × Obj)} (N : News h₀ L h l) (h1 : (la, listOf wa.toArray na) ∈ l) (h2 : (mm, listOf (us ++ [Value.ref tl]).toArray n2) ∈ l) (i : IntsAre wa ns) : @Ne Nat la mm := by
  refine newsNe N h1 h2 fun e => ?_
  have h9 : Data.seq wa.toArray na = Data.seq (us ++ [Value.ref tl]).toArray n2 := congrArg Obj.data e
  injection h9 with h9
  have h8 : wa = us ++ [Value.ref tl] := by
    have := congrArg Array.toList h9
    simpa using this
  exact ints_no_ref i (a := tl) (by rw [h8]; simp)
end Mine
namespace Mine
open PySem PySem.W PySem.Spec PySem.Calls PyProof.Rows
theorem clsNe {h₀ h : Heap} {L a a' : Addr} {o o' : Obj} {news : List (Addr × Obj)} {c c' : String} (N : News h₀ L h news) (h1 : (a, o) ∈ news) (h2 : (a', o') ∈ news) (e1 : o.cls = .type c) (e2 : o'.cls = .type c') (n : c ≠ c') : a ≠ a' :=
  newsNe N h1 h2 fun e => by
    subst e
    rw [e1] at e2
    injection e2 with e2
    exact n e2
theorem turnEnd2 {h₀ h' g : Heap} {L I cw cord mm tl bl tn : Addr} {m' : Str → Option Value} {oI wo : Obj} {w0 : Option Value} {c : Int} {tc : Tok} {k i n1 n2 n3 tk : Nat} {ps : Array Value} {us bvs : List Value} {rest r : List (Addr × Obj)} {vx vt xv tv : Value} {b b' : Bool} {P P' : List Int} {s₁ : Shared} {Q : Flow → Shared → Prop}
    (T : TS h₀ [I, L, cw, cord, 265, mm] k (27 * i) bl bvs ps us tl vx vt b P g rest) (F : Fr h₀ L h' m') (N : News h₀ L h' ((I, oI) :: (cw, wo) :: (cord, cordObj (c + 1 + 1) tc bl n1) :: (265, tabObj ps) :: (mm, listOf ((us ++ [Value.ref tl]) ++ [Value.ref tn]).toArray n2) :: (tn, tup2 xv tv n3) :: r))
    (hI : Odd I oI) (hIc : oI.cls = .type "range_iterator") (hw : wo.data = .cell w0) (G : g.StaysIn h') (hx : NumH h' xv (num (2 ^ k) (zt b' P'))) (ht : NumH h' tv (b', P')) (tb : TB P' (27 * (i + 1))) (hIo : I ∉ [cw, cord, 265, mm])
    (hc : 0 ≤ c) (hc' : c ≤ 3 + 2 * (i : Int)) (hl : us.length = i)
    (h1 : m' (Str.ofString "told") = some tv) (h2 : m' (Str.ofString "moments") = some (.ref mm)) (h3 : m' (Str.ofString "cord") = some (.ref cord)) :
    TEnd h₀ L I oI (LawJ k h₀ L cw cord mm bl wo bvs (i + 1)) s₁ Q .next { s₁ with heap := h', toks := tk } := by
  have mt : (tn, tup2 xv tv n3) ∈ ((I, oI) :: (cw, wo) :: (cord, cordObj (c + 1 + 1) tc bl n1) :: (265, tabObj ps) :: (mm, listOf ((us ++ [Value.ref tl]) ++ [Value.ref tn]).toArray n2) :: (tn, tup2 xv tv n3) :: r) := .tail _ (.tail _ (.tail _ (.tail _ (.tail _ (.head _)))))
  refine turnEnd T F N hI hw G hx ht tb ?_ hIo (by omega) (by omega) hl h1 h2 h3
  simp only [List.mem_cons, List.not_mem_nil, or_false, not_or]
  refine ⟨clsNe N mt (.head _) rfl hIc (by decide), (N _ mt).2.1, newsNe N mt (.tail _ (.head _)) ?_, clsNe N mt (.tail _ (.tail _ (.head _))) rfl rfl (by decide), newsNe N mt (.tail _ (.tail _ (.tail _ (.head _)))) ?_, clsNe N mt (.tail _ (.tail _ (.tail _ (.tail _ (.head _))))) rfl rfl (by decide)⟩
  · intro e
    rw [← e] at hw
    cases hw
  · intro e
    have := congrArg Obj.cls e
    cases this
end Mine
namespace Mine
open PySem PySem.W PySem.Spec PySem.Calls PyProof.Rows
set_option maxRecDepth 100000
set_option maxHeartbeats 0
local macro_rules | `(tactic| walk_at "my_in") => `(tactic| ((case kA => exact rfl); (case kF => exact rfl); (case kK => first | assumption | exact rfl); (case k1 => k_asm); (case k2 => k_asm); (case k3 => k_asm); (case k5 => k_asm); (case k6 => k_is); (case k7 => k_is); (case k8 => ktr_room); (case k9 => exact BindsTo.of_eq rfl); (case c5 => decide); (case kB => exact locs rfl); (case c2 => exact rfl); (case c3 => exact rfl); (case c4 => exact rfl); (case kR => exact rfl); (case kM => (intro y; (repeat refine lk_cons' _ _ _ _ ?_); exact rfl))))
local macro_rules | `(tactic| walk_at "my_inC") => `(tactic| ((case kA => exact rfl); (case kF => exact rfl); (case kK => first | assumption | exact rfl); (case k1 => k_asm); (case k2 => k_asm); (case k3 => k_asm); (case k5 => k_asm); (case k6 => k_is); (case k7 => k_is); (case k8 => ktr_room); (case k9 => exact BindsTo.of_eq rfl); (case kB => exact rfl); (case kD => decide +kernel); (case c2 => exact rfl); (case c3 => exact rfl); (case c4 => exact rfl); (case kM => (intro L'; rfl)); (case kC => (intro L'; rfl))))
local macro_rules | `(tactic| kmk_nums) => `(tactic| first | ((with_reducible refine' kmk_all ?gi); (case gi => l_ints)) | ((with_reducible refine' kmk_upto ?gi ?gx); (case gi => l_ints); (case gx => first | with_reducible assumption | decide | omega)))
local macro_rules | `(tactic| walk_at "eval ListComp") => `(tactic| k_extra "comp")
local macro_rules | `(tactic| walk_at "call type:zip") => `(tactic| k_extra "zip")
local macro_rules | `(tactic| wrow_close) => `(tactic| k_extra "ends")
section
variable {w : World} {p : Program} {loose : List Str} {mean : ExcName → Option Value} {mg mb : Str → Option Value} {dp un : Nat} {gd : Option (List Code)} {cn : Str} {cs : Scope} {a : Addr} {ccd : Value} {cl : List (Str × Addr)} {outer : List Env} {A₀ : Around} {base h₀ : Heap} {L : Addr} {m : Str → Option Value} {s : Shared} {Q E : Value → Shared → Prop}

theorem number_spec {vx : Value} {b : Bool} {P : List Int} {k : Nat} {tw : Tok}
    (C : Cx w p loose mean mg mb dp un cs outer A₀ base h₀ L m s 5)
    (hx : NumH s.heap vx (b, P)) (hP : ∀ p ∈ P, 0 ≤ p ∧ p < 2 ^ 13) (hPl : P.length < 2 ^ 13) (hk2 : 2 ≤ k) (hk9 : k ≤ 9) (bx' : (limbs (2 ^ k) (spow P + (if b = true then 1 else 0))).length < 2 ^ 14)
    (ret : RetT h₀ L m s Q (num (2 ^ k) (zt b P))) :
    wpAny (model PR w) (ktrTop dp un gd cn cs L a ccd cl outer) (call (.ref 249) [vx, .int (k : Int) tw]) Q E s := by
  k_with_none
  obtain ⟨tx, lx, wx, rfl, itx, ilx, iix⟩ := hx.open
  dsimp only at itx iix
  have hx0 := x0_nonneg (b := b) (P := P)
  obtain ⟨B, F, X, T, hk, hd, hu⟩ := C
  refine wpAny_call ?_
  refine' enterM [(Str.ofString "told", Value.ref tx), (Str.ofString "w", Value.int (k : Int) tw)] [(Str.ofString "w", Value.int (k : Int) tw), (Str.ofString "told", Value.ref tx)] (fun y => if y = Str.ofString "w" then some (Value.int (k : Int) tw) else if y = Str.ofString "told" then some (Value.ref tx) else none) ?k1 ?k2 ?k3 ?k5 ?kA ?kF ?kK ?k6 ?k7 ?k8 ?k9 ?kB ?kR ?kM ?_ ?c2 ?c3 ?c4 ?c5
  walk_at "my_in"
  intro L' h' tk' FG' F' N' B' X' T'
  try dsimp only
  try k_fold
  refine let_A ?_
  intro ak
  k_with "execs cons" => ((with_reducible show wpAny _ _ _ _ _ (PySem.Shared.mk _ _ _ (HAdd.hAdd _ _) _)); refine repack s rfl ?_; intro tk9)
  k_with "binaryOp Pow int int" => (refine' pow_int_small ?a1 ?a2 ?a3 ?_; (case a1 => first | exact (hP _ (by assumption)).1 | omega); (case a2 => first | (have := (hP _ (by assumption)).2; omega) | omega); (case a3 => decide))
  k_with "call builtin:sum" => (
     k_here
     have i9 := CarriedAll.intsOf (by assumption)
     k_dflt (refine' sum_mine ?hh ?hl i9 ?_)
     (case hh => k_dflt rfl)
     (case hl => assumption)
     intro h9 tk9 t9 S9
     have F9 := Fr.keeps (by assumption) S9
     have N9 := newsK (by assumption) S9
     (try dsimp only)
     (try k_sweep)
     (try k_fold))
  k_with "exec While Compare cons nil" => k_while (fun _ (sz : Int) (f : List Int) => f.length ≤ (limbs (2 ^ k) (spow P + (if b = true then 1 else 0))).length ∧ f = row (2 ^ k) (spow P + (if b = true then 1 else 0)) f.length ∧ sz = (spow P + (if b = true then 1 else 0)) / (2 ^ k) ^ f.length) (fun _ (sz : Int) (_ : List Int) => sz.toNat) "size" "limbs"
  k_with "state" => first
    | exact number_turn hk2 hx0 (by assumption) (by assumption) (by assumption)
    | exact ⟨Nat.zero_le _, rfl, number_start⟩
  k_with "measure" => exact number_less hk2 (by assumption)
  k_with "ends" => (
     refine' retT ret ?a1 ?a2 ?a3 ?a4 ?a5 ?a6 (num_zt (x := spow P + (if b = true then 1 else 0)) rfl ?a7)
     (case a1 => assumption)
     (case a2 => assumption)
     (case a3 => assumption)
     (case a4 => k_dflt k_mem)
     (case a5 => k_dflt k_mem)
     (case a6 => assumption)
     (case a7 => exact number_end hk2 hx0 (by assumption) (by assumption) (by assumption) (by assumption)))
  k_steps

end
end Mine
namespace Mine
open PySem PySem.W PySem.Spec PySem.Calls PyProof.Rows
set_option maxRecDepth 100000
set_option maxHeartbeats 0
local macro_rules | `(tactic| walk_at "my_in") => `(tactic| ((case kA => exact rfl); (case kF => exact rfl); (case kK => first | assumption | exact rfl); (case k1 => k_asm); (case k2 => k_asm); (case k3 => k_asm); (case k5 => k_asm); (case k6 => k_is); (case k7 => k_is); (case k8 => ktr_room); (case k9 => exact BindsTo.of_eq rfl); (case c5 => decide); (case kB => exact locs rfl); (case c2 => exact rfl); (case c3 => exact rfl); (case c4 => exact rfl); (case kR => exact rfl); (case kM => (intro y; (repeat refine lk_cons' _ _ _ _ ?_); exact rfl))))
local macro_rules | `(tactic| walk_at "my_inC") => `(tactic| ((case kA => exact rfl); (case kF => exact rfl); (case kK => first | assumption | exact rfl); (case k1 => k_asm); (case k2 => k_asm); (case k3 => k_asm); (case k5 => k_asm); (case k6 => k_is); (case k7 => k_is); (case k8 => ktr_room); (case k9 => exact BindsTo.of_eq rfl); (case kB => exact rfl); (case kD => decide +kernel); (case c2 => exact rfl); (case c3 => exact rfl); (case c4 => exact rfl); (case kM => (intro L'; rfl)); (case kC => (intro L'; rfl))))
local macro_rules | `(tactic| kmk_nums) => `(tactic| first | ((with_reducible refine' kmk_all ?gi); (case gi => l_ints)) | ((with_reducible refine' kmk_upto ?gi ?gx); (case gi => l_ints); (case gx => first | with_reducible assumption | decide | omega)))
local macro_rules | `(tactic| walk_at "eval ListComp") => `(tactic| k_extra "comp")
local macro_rules | `(tactic| walk_at "call type:zip") => `(tactic| k_extra "zip")
local macro_rules | `(tactic| wrow_close) => `(tactic| k_extra "ends")
local macro_rules | `(tactic| walk_at "call ref") => `(tactic| k_extra "call")
section
variable {w : World} {p : Program} {loose : List Str} {mean : ExcName → Option Value} {mg mb : Str → Option Value} {dp un : Nat} {gd : Option (List Code)} {cn : Str} {cs : Scope} {a : Addr} {ccd : Value} {cl : List (Str × Addr)} {outer : List Env} {A₀ : Around} {base h₀ : Heap} {L : Addr} {m : Str → Option Value} {s : Shared} {Q E : Value → Shared → Prop}

theorem next_spec {vx : Value} {b i : Bool} {P : List Int} {n : Nat} {tn : Tok}
    (C : Cx w p loose mean mg mb dp un cs outer A₀ base h₀ L m s 10)
    (hx : NumH s.heap vx (b, P)) (hP : ∀ p ∈ P, 0 ≤ p ∧ p < 2 ^ 13) (hPl : P.length < 2 ^ 13) (hn : n < 2 ^ 13)
    (ret : ∀ r, NextHas b P n i r → RetO h₀ L m s Q r) :
    wpAny (model PR w) (ktrTop dp un gd cn cs L a ccd cl outer) (call (.ref 263) [vx, .int (n : Int) tn, .bool i]) Q E s := by
  k_with_none
  obtain ⟨tx, lx, wx, rfl, itx, ilx, iix⟩ := hx.open
  dsimp only at itx iix
  obtain ⟨B, F, X, T, hk, hd, hu⟩ := C
  refine wpAny_call ?_
  refine' enterM [(Str.ofString "told", Value.ref tx), (Str.ofString "start", Value.int (n : Int) tn), (Str.ofString "is_in", Value.bool i)] [(Str.ofString "is_in", Value.bool i), (Str.ofString "start", Value.int (n : Int) tn), (Str.ofString "told", Value.ref tx)] (fun y => if y = Str.ofString "is_in" then some (Value.bool i) else if y = Str.ofString "start" then some (Value.int (n : Int) tn) else if y = Str.ofString "told" then some (Value.ref tx) else none) ?k1 ?k2 ?k3 ?k5 ?kA ?kF ?kK ?k6 ?k7 ?k8 ?k9 ?kB ?kR ?kM ?_ ?c2 ?c3 ?c4 ?c5
  walk_at "my_in"
  intro L' h' tk' FG' F' N' B' X' T'
  try dsimp only
  try k_fold
  refine let_A ?_
  intro ak
  k_with "execs cons" => ((with_reducible show wpAny _ _ _ _ _ (PySem.Shared.mk _ _ _ (HAdd.hAdd _ _) _)); refine repack s rfl ?_; intro tk9)
  k_with "pyIter ref" => (
     (rename Fr _ _ _ _ => lF')
     (rename News _ _ _ _ => lN')
     (rename IsRange _ _ _ _ _ _ _ _ => rgX)
     have hbd := max_bd hP hn (by assumption)
     (with_unfolding_all refine' kst_range (σ := Unit) (fun _ => []) (fun _ => []) (fun _ => True) [] (fun pre _ => NoneHas b P n i pre) () (by rfl) rgX (small_one (by omega) (by omega) (by omega) (by omega)) (rangeSize_nat _ _) lF' News.nil trivial ?kk ?kp ?kt ?ke)
     (case kk => exact List.forall_mem_nil _)
     (case kp => exact noneHas_nil)
     (case' kt => (intro _ kPre kN kT kU kH kTk kOwn kEq kLt kOff _ kInv kFr kNews; (try dsimp only [kstB] at kFr); (try dsimp only at kNews); (try dsimp only); (try k_fold)))
     (case' ke => (intro _ kU kH kTk _ kInv kFr kNews; (try dsimp only [kstB] at kFr); (try dsimp only at kNews); (try dsimp only); (try k_fold))))
  k_with "call" => (
     k_here
     k_dflt (refine' has_spec (b := b) (P := P) ⟨?k1, ?k2, ?k3, ?k4, ?k5, ?k6, ?k7⟩ ?hx hPl ?_)
     (case k1 => k_asm)
     (case k2 => k_asm)
     (case k3 => k_asm)
     (case k4 => k_asm)
     (case k5 => first | exact rfl | assumption)
     (case k6 => ktr_room)
     (case k7 => ktr_units)
     (case hx => exact NumH.keeps hx (Fr.keep (by assumption)))
     intro h9 tk9 F9 S9
     have N9 := newsK (by assumption) S9
     (try dsimp only)
     (try k_sweep)
     (try k_fold))

  k_with "state" => exact noneHas_next (by assumption) (by assumption) (beq_eq_false_iff_ne.mp (by assumption))
  k_with "ends" => first
    | exact retOs (ret _ (next_found (by assumption) (by assumption) (beq_iff_eq.mp (by assumption)))) (by assumption) (by assumption) rfl
    | exact retOn (ret _ (next_none (by assumption) (by assumption) (rangeKs_length _ _))) (by assumption) (by assumption) rfl
  k_steps

end
end Mine
namespace Mine
open PySem PySem.W PySem.Spec PySem.Calls PyProof.Rows
set_option maxRecDepth 100000
set_option maxHeartbeats 0
local macro_rules | `(tactic| walk_at "my_in") => `(tactic| ((case kA => exact rfl); (case kF => exact rfl); (case kK => first | assumption | exact rfl); (case k1 => k_asm); (case k2 => k_asm); (case k3 => k_asm); (case k5 => k_asm); (case k6 => k_is); (case k7 => k_is); (case k8 => ktr_room); (case k9 => exact BindsTo.of_eq rfl); (case c5 => decide); (case kB => exact locs rfl); (case c2 => exact rfl); (case c3 => exact rfl); (case c4 => exact rfl); (case kR => exact rfl); (case kM => (intro y; (repeat refine lk_cons' _ _ _ _ ?_); exact rfl))))
local macro_rules | `(tactic| walk_at "my_inC") => `(tactic| ((case kA => exact rfl); (case kF => exact rfl); (case kK => first | assumption | exact rfl); (case k1 => k_asm); (case k2 => k_asm); (case k3 => k_asm); (case k5 => k_asm); (case k6 => k_is); (case k7 => k_is); (case k8 => ktr_room); (case k9 => exact BindsTo.of_eq rfl); (case kB => exact rfl); (case kD => decide +kernel); (case c2 => exact rfl); (case c3 => exact rfl); (case c4 => exact rfl); (case kM => (intro L'; rfl)); (case kC => (intro L'; rfl))))
local macro_rules | `(tactic| kmk_nums) => `(tactic| first | ((with_reducible refine' kmk_all ?gi); (case gi => l_ints)) | ((with_reducible refine' kmk_upto ?gi ?gx); (case gi => l_ints); (case gx => first | with_reducible assumption | decide | omega)))
local macro_rules | `(tactic| walk_at "eval ListComp") => `(tactic| k_extra "comp")
local macro_rules | `(tactic| walk_at "call type:zip") => `(tactic| k_extra "zip")
local macro_rules | `(tactic| wrow_close) => `(tactic| k_extra "ends")
section
variable {w : World} {p : Program} {loose : List Str} {mean : ExcName → Option Value} {mg mb : Str → Option Value} {dp un : Nat} {gd : Option (List Code)} {cn : Str} {cs : Scope} {a : Addr} {ccd : Value} {cl : List (Str × Addr)} {outer : List Env} {A₀ : Around} {base h₀ : Heap} {L : Addr} {m : Str → Option Value} {s : Shared} {Q E : Value → Shared → Prop}

theorem limb_ones_spec {x : Int} {tx : Tok}
    (C : Cx w p loose mean mg mb dp un cs outer A₀ base h₀ L m s 5)
    (h0x : 0 ≤ x) (ret : RetI h₀ L m s Q (pop x)) :
    wpAny (model PR w) (ktrTop dp un gd cn cs L a ccd cl outer) (call (.ref 183) [.int x tx]) Q E s := by
  k_with_none
  obtain ⟨B, F, X, T, hk, hd, hu⟩ := C
  refine wpAny_call ?_
  refine' enterM [(Str.ofString "limb", Value.int x tx)] [(Str.ofString "limb", Value.int x tx)] (fun y => if y = Str.ofString "limb" then some (Value.int x tx) else none) ?k1 ?k2 ?k3 ?k5 ?kA ?kF ?kK ?k6 ?k7 ?k8 ?k9 ?kB ?kR ?kM ?_ ?c2 ?c3 ?c4 ?c5
  walk_at "my_in"
  intro L' h' tk' FG' F' N' B' X' T'
  try dsimp only
  try k_fold
  refine let_A ?_
  intro ak
  k_with "execs cons" => ((with_reducible show wpAny _ _ _ _ _ (PySem.Shared.mk _ _ _ (HAdd.hAdd _ _) _)); refine repack s rfl ?_; intro tk9)
  k_with "exec While Compare cons nil" => k_while (fun _ (l f : Int) => 0 ≤ l ∧ f + pop l = pop x) (fun _ (l _ : Int) => l.toNat) "limb" "found"
  k_with "state" => exact ones_turn (by assumption) (by assumption)
  k_with "measure" => exact ones_less (by assumption)
  k_with "ends" => exact retI ret (by assumption) (by assumption) (by have e9 := pop_zero (x := _) (Int.not_lt.mp (by assumption)); omega)
  k_steps

end
end Mine
namespace Mine
open PySem PySem.W PySem.Spec PySem.Calls PyProof.Rows
set_option maxRecDepth 100000
set_option maxHeartbeats 0
local macro_rules | `(tactic| walk_at "my_in") => `(tactic| ((case kA => exact rfl); (case kF => exact rfl); (case kK => first | assumption | exact rfl); (case k1 => k_asm); (case k2 => k_asm); (case k3 => k_asm); (case k5 => k_asm); (case k6 => k_is); (case k7 => k_is); (case k8 => ktr_room); (case k9 => exact BindsTo.of_eq rfl); (case c5 => decide); (case kB => exact locs rfl); (case c2 => exact rfl); (case c3 => exact rfl); (case c4 => exact rfl); (case kR => exact rfl); (case kM => (intro y; (repeat refine lk_cons' _ _ _ _ ?_); exact rfl))))
local macro_rules | `(tactic| walk_at "my_inC") => `(tactic| ((case kA => exact rfl); (case kF => exact rfl); (case kK => first | assumption | exact rfl); (case k1 => k_asm); (case k2 => k_asm); (case k3 => k_asm); (case k5 => k_asm); (case k6 => k_is); (case k7 => k_is); (case k8 => ktr_room); (case k9 => exact BindsTo.of_eq rfl); (case kB => exact rfl); (case kD => decide +kernel); (case c2 => exact rfl); (case c3 => exact rfl); (case c4 => exact rfl); (case kM => (intro L'; rfl)); (case kC => (intro L'; rfl))))
local macro_rules | `(tactic| kmk_nums) => `(tactic| first | ((with_reducible refine' kmk_all ?gi); (case gi => l_ints)) | ((with_reducible refine' kmk_upto ?gi ?gx); (case gi => l_ints); (case gx => first | with_reducible assumption | decide | omega)))
local macro_rules | `(tactic| walk_at "eval ListComp") => `(tactic| k_extra "comp")
local macro_rules | `(tactic| walk_at "call type:zip") => `(tactic| k_extra "zip")
local macro_rules | `(tactic| wrow_close) => `(tactic| k_extra "ends")
local macro_rules | `(tactic| walk_at "call ref") => `(tactic| k_extra "call")
section
variable {w : World} {p : Program} {loose : List Str} {mean : ExcName → Option Value} {mg mb : Str → Option Value} {dp un : Nat} {gd : Option (List Code)} {cn : Str} {cs : Scope} {a : Addr} {ccd : Value} {cl : List (Str × Addr)} {outer : List Env} {A₀ : Around} {base h₀ : Heap} {L : Addr} {m : Str → Option Value} {s : Shared} {Q E : Value → Shared → Prop}

theorem nat_ones_spec {la : Addr} {va : List Value} {na : List Int} {k : Nat} {x : Int}
    (C : Cx w p loose mean mg mb dp un cs outer A₀ base h₀ L m s 8)
    (ha : s.heap.IsList la va.toArray) (ia : IntsAre va na) (ba : na.length < 2 ^ 16) (hk2 : 2 ≤ k) (ea : na = limbs (2 ^ k) x) (h0x : 0 ≤ x) (ret : RetI h₀ L m s Q (pop x)) :
    wpAny (model PR w) (ktrTop dp un gd cn cs L a ccd cl outer) (call (.ref 188) [.ref la]) Q E s := by
  k_with_none
  have hpos : ∀ y ∈ na, 0 ≤ y := fun y hy => by rw [ea] at hy; exact limbs_mem_nonneg hk2 h0x hy
  obtain ⟨B, F, X, T, hk, hd, hu⟩ := C
  refine wpAny_call ?_
  refine' enterM [(Str.ofString "a", Value.ref la)] [(Str.ofString "a", Value.ref la)] (fun y => if y = Str.ofString "a" then some (Value.ref la) else none) ?k1 ?k2 ?k3 ?k5 ?kA ?kF ?kK ?k6 ?k7 ?k8 ?k9 ?kB ?kR ?kM ?_ ?c2 ?c3 ?c4 ?c5
  walk_at "my_in"
  intro L' h' tk' FG' F' N' B' X' T'
  try dsimp only
  try k_fold
  refine let_A ?_
  intro ak
  k_with "execs cons" => ((with_reducible show wpAny _ _ _ _ _ (PySem.Shared.mk _ _ _ (HAdd.hAdd _ _) _)); refine repack s rfl ?_; intro tk9)
  k_with "call" => (
     k_here
     k_dflt (refine' limb_ones_spec ⟨?k1, ?k2, ?k3, ?k4, ?k5, ?k6, ?k7⟩ ?h0 ?_)
     (case k1 => k_asm)
     (case k2 => k_asm)
     (case k3 => k_asm)
     (case k4 => k_asm)
     (case k5 => first | exact rfl | assumption)
     (case k6 => ktr_room)
     (case k7 => ktr_units)
     (case h0 => exact hpos _ (by assumption))
     intro t9 h9 tk9 F9 S9
     have N9 := newsK (by assumption) S9
     (try dsimp only)
     (try k_sweep)
     (try k_fold))

  k_with "call builtin:sum" => (
     k_here
     have i9 := CarriedAll.intsOf (by assumption)
     k_dflt (refine' sum_mine ?hh ?hl i9 ?_)
     (case hh => k_dflt rfl)
     (case hl => assumption)
     intro h9 tk9 t9 S9
     have F9 := Fr.keeps (by assumption) S9
     have N9 := newsK (by assumption) S9
     (try dsimp only)
     (try k_sweep)
     (try k_fold))
  k_with "ends" => exact retI ret (by assumption) (by assumption) (by rw [filter_all, ea]; exact pop_limbs hk2 h0x)
  k_steps

end
end Mine
namespace Mine
open PySem PySem.W PySem.Spec PySem.Calls PyProof.Rows
set_option maxRecDepth 100000
set_option maxHeartbeats 0
local macro_rules | `(tactic| walk_at "my_in") => `(tactic| ((case kA => exact rfl); (case kF => exact rfl); (case kK => first | assumption | exact rfl); (case k1 => k_asm); (case k2 => k_asm); (case k3 => k_asm); (case k5 => k_asm); (case k6 => k_is); (case k7 => k_is); (case k8 => ktr_room); (case k9 => exact BindsTo.of_eq rfl); (case c5 => decide); (case kB => exact locs rfl); (case c2 => exact rfl); (case c3 => exact rfl); (case c4 => exact rfl); (case kR => exact rfl); (case kM => (intro y; (repeat refine lk_cons' _ _ _ _ ?_); exact rfl))))
local macro_rules | `(tactic| walk_at "my_inC") => `(tactic| ((case kA => exact rfl); (case kF => exact rfl); (case kK => first | assumption | exact rfl); (case k1 => k_asm); (case k2 => k_asm); (case k3 => k_asm); (case k5 => k_asm); (case k6 => k_is); (case k7 => k_is); (case k8 => ktr_room); (case k9 => exact BindsTo.of_eq rfl); (case kB => exact rfl); (case kD => decide +kernel); (case c2 => exact rfl); (case c3 => exact rfl); (case c4 => exact rfl); (case kM => (intro L'; rfl)); (case kC => (intro L'; rfl))))
local macro_rules | `(tactic| kmk_nums) => `(tactic| first | ((with_reducible refine' kmk_all ?gi); (case gi => l_ints)) | ((with_reducible refine' kmk_upto ?gi ?gx); (case gi => l_ints); (case gx => first | with_reducible assumption | decide | omega)))
local macro_rules | `(tactic| walk_at "eval ListComp") => `(tactic| k_extra "comp")
local macro_rules | `(tactic| walk_at "call type:zip") => `(tactic| k_extra "zip")
local macro_rules | `(tactic| wrow_close) => `(tactic| k_extra "ends")
local macro_rules | `(tactic| walk_at "call ref") => `(tactic| k_extra "call")
section
variable {w : World} {p : Program} {loose : List Str} {mean : ExcName → Option Value} {mg mb : Str → Option Value} {dp un : Nat} {gd : Option (List Code)} {cn : Str} {cs : Scope} {a : Addr} {ccd : Value} {cl : List (Str × Addr)} {outer : List Env} {A₀ : Around} {base h₀ : Heap} {L : Addr} {m : Str → Option Value} {s : Shared} {Q E : Value → Shared → Prop}

theorem count_ones_spec {vx : Value} {z : Int} {k : Nat}
    (C : Cx w p loose mean mg mb dp un cs outer A₀ base h₀ L m s 12)
    (hx : NumH s.heap vx (num (2 ^ k) z)) (hk2 : 2 ≤ k) (bx' : (limbs (2 ^ k) z.natAbs).length < 2 ^ 14)
    (ret : RetO h₀ L m s Q (if z < 0 then none else some (pop z))) :
    wpAny (model PR w) (ktrTop dp un gd cn cs L a ccd cl outer) (call (.ref 195) [vx]) Q E s := by
  k_with_none
  obtain ⟨tx, lx, wx, rfl, itx, ilx, iix⟩ := hx.open
  generalize ebx : (num (2 ^ k) z).1 = bbx at itx
  generalize enx : (num (2 ^ k) z).2 = nx at iix
  have ex : nx = limbs (2 ^ k) z.natAbs := enx.symm
  have bnx : nx.length < 2 ^ 14 := by rw [ex]; exact bx'
  obtain ⟨B, F, X, T, hk, hd, hu⟩ := C
  refine wpAny_call ?_
  refine' enterM [(Str.ofString "x", Value.ref tx)] [(Str.ofString "x", Value.ref tx)] (fun y => if y = Str.ofString "x" then some (Value.ref tx) else none) ?k1 ?k2 ?k3 ?k5 ?kA ?kF ?kK ?k6 ?k7 ?k8 ?k9 ?kB ?kR ?kM ?_ ?c2 ?c3 ?c4 ?c5
  walk_at "my_in"
  intro L' h' tk' FG' F' N' B' X' T'
  try dsimp only
  try k_fold
  refine let_A ?_
  intro ak
  k_with "execs cons" => ((with_reducible show wpAny _ _ _ _ _ (PySem.Shared.mk _ _ _ (HAdd.hAdd _ _) _)); refine repack s rfl ?_; intro tk9)
  k_with "call" => (
     k_here
     k_dflt (refine' nat_ones_spec (x := z.natAbs) (k := k) ⟨?k1, ?k2, ?k3, ?k4, ?k5, ?k6, ?k7⟩ ?la ?ia (by omega) hk2 ex (by omega) ?_)
     (case k1 => k_asm)
     (case k2 => k_asm)
     (case k3 => k_asm)
     (case k4 => k_asm)
     (case k5 => first | exact rfl | assumption)
     (case k6 => ktr_room)
     (case k7 => ktr_units)
     (case la => is_list)
     (case ia => assumption)
     intro t9 h9 tk9 F9 S9
     have N9 := newsK (by assumption) S9
     (try dsimp only)
     (try k_sweep)
     (try k_fold))

  k_with "ends" => first
    | exact retOn ret (by assumption) (by assumption) (if_pos ((num_fst ebx).1 (by assumption)))
    | exact retOs ret (by assumption) (by assumption) (by have hz := (num_fst ebx).2 (by assumption); rw [if_neg (by omega), show (z.natAbs : Int) = z by omega])
  k_steps

end
end Mine
namespace Mine
open PySem PySem.W PySem.Spec PySem.Calls PyProof.Rows
set_option maxRecDepth 100000
set_option maxHeartbeats 0
local macro_rules | `(tactic| walk_at "my_in") => `(tactic| ((case kA => exact rfl); (case kF => exact rfl); (case kK => first | assumption | exact rfl); (case k1 => k_asm); (case k2 => k_asm); (case k3 => k_asm); (case k5 => k_asm); (case k6 => k_is); (case k7 => k_is); (case k8 => ktr_room); (case k9 => exact BindsTo.of_eq rfl); (case c5 => decide); (case kB => exact locs rfl); (case c2 => exact rfl); (case c3 => exact rfl); (case c4 => exact rfl); (case kR => exact rfl); (case kM => (intro y; (repeat refine lk_cons' _ _ _ _ ?_); exact rfl))))
local macro_rules | `(tactic| walk_at "my_inC") => `(tactic| ((case kA => exact rfl); (case kF => exact rfl); (case kK => first | assumption | exact rfl); (case k1 => k_asm); (case k2 => k_asm); (case k3 => k_asm); (case k5 => k_asm); (case k6 => k_is); (case k7 => k_is); (case k8 => ktr_room); (case k9 => exact BindsTo.of_eq rfl); (case kB => exact rfl); (case kD => decide +kernel); (case c2 => exact rfl); (case c3 => exact rfl); (case c4 => exact rfl); (case kM => (intro L'; rfl)); (case kC => (intro L'; rfl))))
local macro_rules | `(tactic| kmk_nums) => `(tactic| first | ((with_reducible refine' kmk_all ?gi); (case gi => l_ints)) | ((with_reducible refine' kmk_upto ?gi ?gx); (case gi => l_ints); (case gx => first | with_reducible assumption | decide | omega)))
local macro_rules | `(tactic| walk_at "eval ListComp") => `(tactic| k_extra "comp")
local macro_rules | `(tactic| walk_at "call type:zip") => `(tactic| k_extra "zip")
local macro_rules | `(tactic| wrow_close) => `(tactic| k_extra "ends")
local macro_rules | `(tactic| walk_at "call ref") => `(tactic| k_extra "call")
section
variable {w : World} {p : Program} {loose : List Str} {mean : ExcName → Option Value} {mg mb : Str → Option Value} {dp un : Nat} {gd : Option (List Code)} {cn : Str} {cs : Scope} {a : Addr} {ccd : Value} {cl : List (Str × Addr)} {outer : List Env} {A₀ : Around} {base h₀ : Heap} {L : Addr} {m : Str → Option Value} {s : Shared} {Q E : Value → Shared → Prop}

theorem scan_for_spec {vx : Value} {z : Int} {k n : Nat} {wn : Int} {tn tw t1 : Tok}
    (C : Cx w p loose mean mg mb dp un cs outer A₀ base h₀ L m s 15)
    (hx : NumH s.heap vx (num (2 ^ k) z)) (hk2 : 2 ≤ k) (hk9 : k ≤ 9) (bx' : (limbs (2 ^ k) z.natAbs).length < 2 ^ 14) (hn : n < 2 ^ 13)
    (ret : ∀ r, NextIs z n wn r → RetO h₀ L m s Q r) :
    wpAny (model PR w) (ktrTop dp un gd cn cs L a ccd cl outer) (call (.ref 209) [vx, .int (n : Int) tn, .int wn t1, .int (k : Int) tw]) Q E s := by
  k_with_none
  obtain ⟨tx, lx, wx, rfl, itx, ilx, iix⟩ := hx.open
  generalize ebx : (num (2 ^ k) z).1 = bbx at itx
  generalize enx : (num (2 ^ k) z).2 = nx at iix
  have ex : nx = limbs (2 ^ k) z.natAbs := enx.symm
  have bnx : nx.length < 2 ^ 14 := by rw [ex]; exact bx'
  obtain ⟨B, F, X, T, hk, hd, hu⟩ := C
  refine wpAny_call ?_
  refine' enterM [(Str.ofString "x", Value.ref tx), (Str.ofString "start", Value.int (n : Int) tn), (Str.ofString "wanted", Value.int wn t1), (Str.ofString "w", Value.int (k : Int) tw)] [(Str.ofString "w", Value.int (k : Int) tw), (Str.ofString "wanted", Value.int wn t1), (Str.ofString "start", Value.int (n : Int) tn), (Str.ofString "x", Value.ref tx)] (fun y => if y = Str.ofString "w" then some (Value.int (k : Int) tw) else if y = Str.ofString "wanted" then some (Value.int wn t1) else if y = Str.ofString "start" then some (Value.int (n : Int) tn) else if y = Str.ofString "x" then some (Value.ref tx) else none) ?k1 ?k2 ?k3 ?k5 ?kA ?kF ?kK ?k6 ?k7 ?k8 ?k9 ?kB ?kR ?kM ?_ ?c2 ?c3 ?c4 ?c5
  walk_at "my_in"
  intro L' h' tk' FG' F' N' B' X' T'
  try dsimp only
  try k_fold
  refine let_A ?_
  intro ak
  k_with "execs cons" => ((with_reducible show wpAny _ _ _ _ _ (PySem.Shared.mk _ _ _ (HAdd.hAdd _ _) _)); refine repack s rfl ?_; intro tk9)
  k_with "call" => (
     k_here
     k_dflt (refine' row_of_spec (z := z) (sz := nx.length + 1) ⟨?k1, ?k2, ?k3, ?k4, ?k5, ?k6, ?k7⟩ ?hx hk2 hk9 (by rw [← ex]; omega) (by omega) ?_)
     (case k1 => k_asm)
     (case k2 => k_asm)
     (case k3 => k_asm)
     (case k4 => k_asm)
     (case k5 => first | exact rfl | assumption)
     (case k6 => ktr_room)
     (case k7 => ktr_units)
     (case hx => exact NumH.keeps hx (Fr.keep (by assumption)))
     intro r9 ws9 n9 h9 tk9 F9 S9 hn9 ho9 hi9
     have N9 := newsL (by assumption) (by assumption) S9 hn9 ho9
     have hrl : (row (2 ^ k) z (nx.length + 1)).length = nx.length + 1 := row_length _ _ _
     generalize erow : row (2 ^ k) z (nx.length + 1) = nrow at hi9 hrl
     (try dsimp only)
     (try k_sweep)
     (try k_fold))

  k_with "pyIter ref" => (
     (rename Fr _ _ _ _ => lF')
     (rename News _ _ _ _ => lN')
     (rename IsRange _ _ _ _ _ _ _ _ => rgX)
     have hbd := scan_bound (k := k) (sz := nx.length) hk9 bnx
     (with_unfolding_all refine' kst_range (σ := Unit) (fun _ => [(r9, listOf ws9.toArray n9)]) (fun _ => []) (fun _ => True) [] (fun pre _ => NoneYet z n wn pre) () (by rfl) rgX (small_one (by omega) (by omega) (by omega) (by omega)) (rangeSize_nat _ _) lF' lN' trivial ?kk ?kp ?kt ?ke)
     (case kk => exact List.forall_mem_nil _)
     (case kp => exact noneYet_nil)
     (case' kt => (intro _ kPre kN kT kU kH kTk kOwn kEq kLt kOff _ kInv kFr kNews; (try dsimp only [kstB] at kFr); (try dsimp only at kNews); (obtain ⟨q1, q2, q3, q4, q5, q6⟩ := scan_fact hk2 kEq kLt); (try dsimp only); (try k_fold)))
     (case' ke => (intro _ kU kH kTk _ kInv kFr kNews; (try dsimp only [kstB] at kFr); (try dsimp only at kNews); (try dsimp only); (try k_fold))))
  k_with "ends" => first
    | exact retOs (ret _ (scan_found (by assumption) (by assumption) (by rw [← bit_row hk2 erow.symm (by assumption) (by assumption)]; assumption))) (by assumption) (by assumption) rfl
    | exact retOs (ret _ (scan_top hk2 ex ebx (by assumption) (rangeKs_length _ _) (by simp_all) _ (by split <;> omega))) (by assumption) (by assumption) rfl
    | exact retOn (ret _ (scan_none hk2 ex ebx (by assumption) (rangeKs_length _ _) (by simp_all))) (by assumption) (by assumption) rfl
  k_with "state" => exact noneYet_next (by assumption) (by assumption) (by rw [← bit_row hk2 erow.symm (by assumption) (by assumption)]; assumption)
  k_steps

end
end Mine
namespace Mine
open PySem PySem.W PySem.Spec PySem.Calls PyProof.Rows
set_option maxRecDepth 100000
set_option maxHeartbeats 0
local macro_rules | `(tactic| walk_at "my_in") => `(tactic| ((case kA => exact rfl); (case kF => exact rfl); (case kK => first | assumption | exact rfl); (case k1 => k_asm); (case k2 => k_asm); (case k3 => k_asm); (case k5 => k_asm); (case k6 => k_is); (case k7 => k_is); (case k8 => ktr_room); (case k9 => exact BindsTo.of_eq rfl); (case c5 => decide); (case kB => exact locs rfl); (case c2 => exact rfl); (case c3 => exact rfl); (case c4 => exact rfl); (case kR => exact rfl); (case kM => (intro y; (repeat refine lk_cons' _ _ _ _ ?_); exact rfl))))
local macro_rules | `(tactic| walk_at "my_inC") => `(tactic| ((case kA => exact rfl); (case kF => exact rfl); (case kK => first | assumption | exact rfl); (case k1 => k_asm); (case k2 => k_asm); (case k3 => k_asm); (case k5 => k_asm); (case k6 => k_is); (case k7 => k_is); (case k8 => ktr_room); (case k9 => exact BindsTo.of_eq rfl); (case kB => exact rfl); (case kD => decide +kernel); (case c2 => exact rfl); (case c3 => exact rfl); (case c4 => exact rfl); (case kM => (intro L'; rfl)); (case kC => (intro L'; rfl))))
local macro_rules | `(tactic| kmk_nums) => `(tactic| first | ((with_reducible refine' kmk_all ?gi); (case gi => l_ints)) | ((with_reducible refine' kmk_upto ?gi ?gx); (case gi => l_ints); (case gx => first | with_reducible assumption | decide | omega)))
local macro_rules | `(tactic| walk_at "eval ListComp") => `(tactic| k_extra "comp")
local macro_rules | `(tactic| walk_at "call type:zip") => `(tactic| k_extra "zip")
local macro_rules | `(tactic| wrow_close) => `(tactic| k_extra "ends")
local macro_rules | `(tactic| walk_at "call ref") => `(tactic| k_extra "call")
section
variable {w : World} {p : Program} {loose : List Str} {mean : ExcName → Option Value} {mg mb : Str → Option Value} {dp un : Nat} {gd : Option (List Code)} {cn : Str} {cs : Scope} {a : Addr} {ccd : Value} {cl : List (Str × Addr)} {outer : List Env} {A₀ : Around} {base h₀ : Heap} {L : Addr} {m : Str → Option Value} {s : Shared} {Q E : Value → Shared → Prop}

theorem scan_one_spec {vx : Value} {z : Int} {k n : Nat} {tn tw : Tok}
    (C : Cx w p loose mean mg mb dp un cs outer A₀ base h₀ L m s 17)
    (hx : NumH s.heap vx (num (2 ^ k) z)) (hk2 : 2 ≤ k) (hk9 : k ≤ 9) (bx' : (limbs (2 ^ k) z.natAbs).length < 2 ^ 14) (hn : n < 2 ^ 13)
    (ret : ∀ r, NextIs z n 1 r → RetO h₀ L m s Q r) :
    wpAny (model PR w) (ktrTop dp un gd cn cs L a ccd cl outer) (call (.ref 216) [vx, .int (n : Int) tn, .int (k : Int) tw]) Q E s := by
  k_with_none
  obtain ⟨tx, lx, wx, rfl, itx, ilx, iix⟩ := hx.open
  generalize ebx : (num (2 ^ k) z).1 = bbx at itx
  generalize enx : (num (2 ^ k) z).2 = nx at iix
  have ex : nx = limbs (2 ^ k) z.natAbs := enx.symm
  obtain ⟨B, F, X, T, hk, hd, hu⟩ := C
  refine wpAny_call ?_
  refine' enterM [(Str.ofString "x", Value.ref tx), (Str.ofString "start", Value.int (n : Int) tn), (Str.ofString "w", Value.int (k : Int) tw)] [(Str.ofString "w", Value.int (k : Int) tw), (Str.ofString "start", Value.int (n : Int) tn), (Str.ofString "x", Value.ref tx)] (fun y => if y = Str.ofString "w" then some (Value.int (k : Int) tw) else if y = Str.ofString "start" then some (Value.int (n : Int) tn) else if y = Str.ofString "x" then some (Value.ref tx) else none) ?k1 ?k2 ?k3 ?k5 ?kA ?kF ?kK ?k6 ?k7 ?k8 ?k9 ?kB ?kR ?kM ?_ ?c2 ?c3 ?c4 ?c5
  walk_at "my_in"
  intro L' h' tk' FG' F' N' B' X' T'
  try dsimp only
  try k_fold
  refine let_A ?_
  intro ak
  k_with "execs cons" => ((with_reducible show wpAny _ _ _ _ _ (PySem.Shared.mk _ _ _ (HAdd.hAdd _ _) _)); refine repack s rfl ?_; intro tk9)
  k_with "call" => (
     k_here
     k_dflt (refine' scan_for_spec (z := z) (n := n) ⟨?k1, ?k2, ?k3, ?k4, ?k5, ?k6, ?k7⟩ ?hx hk2 hk9 bx' hn ?_)
     (case k1 => k_asm)
     (case k2 => k_asm)
     (case k3 => k_asm)
     (case k4 => k_asm)
     (case k5 => first | exact rfl | assumption)
     (case k6 => ktr_room)
     (case k7 => ktr_units)
     (case hx => exact NumH.keeps hx (Fr.keep (by assumption)))
     intro r9 hr9 v9 h9 tk9 F9 S9 e9
     have N9 := newsK (by assumption) S9
     have hd9 : handedIn v9 = true := handed_opt e9
     (try dsimp only)
     (try k_sweep)
     (try k_fold))
  k_with "ends" => exact ret r9 hr9 _ _ _ (by assumption) (Fr.keep (by assumption)) e9
  k_steps

end
end Mine
namespace Mine
open PySem PySem.W PySem.Spec PySem.Calls PyProof.Rows
set_option maxRecDepth 100000
set_option maxHeartbeats 0
local macro_rules | `(tactic| walk_at "my_in") => `(tactic| ((case kA => exact rfl); (case kF => exact rfl); (case kK => first | assumption | exact rfl); (case k1 => k_asm); (case k2 => k_asm); (case k3 => k_asm); (case k5 => k_asm); (case k6 => k_is); (case k7 => k_is); (case k8 => ktr_room); (case k9 => exact BindsTo.of_eq rfl); (case c5 => decide); (case kB => exact locs rfl); (case c2 => exact rfl); (case c3 => exact rfl); (case c4 => exact rfl); (case kR => exact rfl); (case kM => (intro y; (repeat refine lk_cons' _ _ _ _ ?_); exact rfl))))
local macro_rules | `(tactic| walk_at "my_inC") => `(tactic| ((case kA => exact rfl); (case kF => exact rfl); (case kK => first | assumption | exact rfl); (case k1 => k_asm); (case k2 => k_asm); (case k3 => k_asm); (case k5 => k_asm); (case k6 => k_is); (case k7 => k_is); (case k8 => ktr_room); (case k9 => exact BindsTo.of_eq rfl); (case kB => exact rfl); (case kD => decide +kernel); (case c2 => exact rfl); (case c3 => exact rfl); (case c4 => exact rfl); (case kM => (intro L'; rfl)); (case kC => (intro L'; rfl))))
local macro_rules | `(tactic| kmk_nums) => `(tactic| first | ((with_reducible refine' kmk_all ?gi); (case gi => l_ints)) | ((with_reducible refine' kmk_upto ?gi ?gx); (case gi => l_ints); (case gx => first | with_reducible assumption | decide | omega)))
local macro_rules | `(tactic| walk_at "eval ListComp") => `(tactic| k_extra "comp")
local macro_rules | `(tactic| walk_at "call type:zip") => `(tactic| k_extra "zip")
local macro_rules | `(tactic| wrow_close) => `(tactic| k_extra "ends")
local macro_rules | `(tactic| walk_at "call ref") => `(tactic| k_extra "call")
section
variable {w : World} {p : Program} {loose : List Str} {mean : ExcName → Option Value} {mg mb : Str → Option Value} {dp un : Nat} {gd : Option (List Code)} {cn : Str} {cs : Scope} {a : Addr} {ccd : Value} {cl : List (Str × Addr)} {outer : List Env} {A₀ : Around} {base h₀ : Heap} {L : Addr} {m : Str → Option Value} {s : Shared} {Q E : Value → Shared → Prop}

theorem scan_zero_spec {vx : Value} {z : Int} {k n : Nat} {tn tw : Tok}
    (C : Cx w p loose mean mg mb dp un cs outer A₀ base h₀ L m s 17)
    (hx : NumH s.heap vx (num (2 ^ k) z)) (hk2 : 2 ≤ k) (hk9 : k ≤ 9) (bx' : (limbs (2 ^ k) z.natAbs).length < 2 ^ 14) (hn : n < 2 ^ 13)
    (ret : ∀ r, NextIs z n 0 r → RetO h₀ L m s Q r) :
    wpAny (model PR w) (ktrTop dp un gd cn cs L a ccd cl outer) (call (.ref 223) [vx, .int (n : Int) tn, .int (k : Int) tw]) Q E s := by
  k_with_none
  obtain ⟨tx, lx, wx, rfl, itx, ilx, iix⟩ := hx.open
  generalize ebx : (num (2 ^ k) z).1 = bbx at itx
  generalize enx : (num (2 ^ k) z).2 = nx at iix
  have ex : nx = limbs (2 ^ k) z.natAbs := enx.symm
  obtain ⟨B, F, X, T, hk, hd, hu⟩ := C
  refine wpAny_call ?_
  refine' enterM [(Str.ofString "x", Value.ref tx), (Str.ofString "start", Value.int (n : Int) tn), (Str.ofString "w", Value.int (k : Int) tw)] [(Str.ofString "w", Value.int (k : Int) tw), (Str.ofString "start", Value.int (n : Int) tn), (Str.ofString "x", Value.ref tx)] (fun y => if y = Str.ofString "w" then some (Value.int (k : Int) tw) else if y = Str.ofString "start" then some (Value.int (n : Int) tn) else if y = Str.ofString "x" then some (Value.ref tx) else none) ?k1 ?k2 ?k3 ?k5 ?kA ?kF ?kK ?k6 ?k7 ?k8 ?k9 ?kB ?kR ?kM ?_ ?c2 ?c3 ?c4 ?c5
  walk_at "my_in"
  intro L' h' tk' FG' F' N' B' X' T'
  try dsimp only
  try k_fold
  refine let_A ?_
  intro ak
  k_with "execs cons" => ((with_reducible show wpAny _ _ _ _ _ (PySem.Shared.mk _ _ _ (HAdd.hAdd _ _) _)); refine repack s rfl ?_; intro tk9)
  k_with "call" => (
     k_here
     k_dflt (refine' scan_for_spec (z := z) (n := n) ⟨?k1, ?k2, ?k3, ?k4, ?k5, ?k6, ?k7⟩ ?hx hk2 hk9 bx' hn ?_)
     (case k1 => k_asm)
     (case k2 => k_asm)
     (case k3 => k_asm)
     (case k4 => k_asm)
     (case k5 => first | exact rfl | assumption)
     (case k6 => ktr_room)
     (case k7 => ktr_units)
     (case hx => exact NumH.keeps hx (Fr.keep (by assumption)))
     intro r9 hr9 v9 h9 tk9 F9 S9 e9
     have N9 := newsK (by assumption) S9
     have hd9 : handedIn v9 = true := handed_opt e9
     (try dsimp only)
     (try k_sweep)
     (try k_fold))
  k_with "ends" => exact ret r9 hr9 _ _ _ (by assumption) (Fr.keep (by assumption)) e9
  k_steps

end
end Mine
namespace Mine
open PySem PySem.W PySem.Spec PySem.Calls PyProof.Rows
set_option maxRecDepth 100000
set_option maxHeartbeats 0
local macro_rules | `(tactic| walk_at "my_in") => `(tactic| ((case kA => exact rfl); (case kF => exact rfl); (case kK => first | assumption | exact rfl); (case k1 => k_asm); (case k2 => k_asm); (case k3 => k_asm); (case k5 => k_asm); (case k6 => k_is); (case k7 => k_is); (case k8 => ktr_room); (case k9 => exact BindsTo.of_eq rfl); (case c5 => decide); (case kB => exact locs rfl); (case c2 => exact rfl); (case c3 => exact rfl); (case c4 => exact rfl); (case kR => exact rfl); (case kM => (intro y; (repeat refine lk_cons' _ _ _ _ ?_); exact rfl))))
local macro_rules | `(tactic| walk_at "my_inC") => `(tactic| ((case kA => exact rfl); (case kF => exact rfl); (case kK => first | assumption | exact rfl); (case k1 => k_asm); (case k2 => k_asm); (case k3 => k_asm); (case k5 => k_asm); (case k6 => k_is); (case k7 => k_is); (case k8 => ktr_room); (case k9 => exact BindsTo.of_eq rfl); (case kB => exact rfl); (case kD => decide +kernel); (case c2 => exact rfl); (case c3 => exact rfl); (case c4 => exact rfl); (case kM => (intro L'; rfl)); (case kC => (intro L'; rfl))))
local macro_rules | `(tactic| kmk_nums) => `(tactic| first | ((with_reducible refine' kmk_all ?gi); (case gi => l_ints)) | ((with_reducible refine' kmk_upto ?gi ?gx); (case gi => l_ints); (case gx => first | with_reducible assumption | decide | omega)))
local macro_rules | `(tactic| walk_at "eval ListComp") => `(tactic| k_extra "comp")
local macro_rules | `(tactic| walk_at "call type:zip") => `(tactic| k_extra "zip")
local macro_rules | `(tactic| wrow_close) => `(tactic| k_extra "ends")
local macro_rules | `(tactic| walk_at "call ref") => `(tactic| k_extra "call")
local macro_rules | `(tactic| walk_at "compareOp NotEq ref ref") => `(tactic| k_extra "cmpne")
local macro_rules | `(tactic| walk_at "compareOp Eq ref ref") => `(tactic| k_extra "cmpeq")
section
variable {w : World} {p : Program} {loose : List Str} {mean : ExcName → Option Value} {mg mb : Str → Option Value} {dp un : Nat} {gd : Option (List Code)} {cn : Str} {cs : Scope} {a : Addr} {ccd : Value} {cl : List (Str × Addr)} {outer : List Env} {A₀ : Around} {base h₀ : Heap} {L : Addr} {m : Str → Option Value} {s : Shared} {Q E : Value → Shared → Prop}

theorem right_spec {vx vt : Value} {b : Bool} {P : List Int} {k n M : Nat} {tn tw : Tok}
    (C : Cx w p loose mean mg mb dp un cs outer A₀ base h₀ L m s 30)
    (hx : NumH s.heap vx (num (2 ^ k) (zt b P))) (ht : NumH s.heap vt (b, P)) (tb : TB P M) (hM : M ≤ 300) (hn : n < 300) (hk2 : 2 ≤ k) (hk9 : k ≤ 9)
    (ret : RetB h₀ L m s Q true) :
    wpAny (model PR w) (ktrTop dp un gd cn cs L a ccd cl outer) (call (.ref 287) [vx, vt, .int (n : Int) tn, .int (k : Int) tw]) Q E s := by
  k_with_none
  have hP := tb.pp hM
  have hPl := tb.pl hM
  have bx' := tb.bx hM hk2 b
  have bs := tb.bs hM hk2 b
  have bf := tb.bflip hM hk2 (Nat.le_of_lt hn) b
  have hl1 : [(n : Int)].length < 2 ^ 13 := by rw [List.length_singleton]; decide
  have bs1 := TB.bs (B := n + 1) (TB.one n) (by omega) hk2 false
  have hp1 := (TB.one n).pp (by omega)
  have hn13 : n < 2 ^ 13 := by omega
  have hn16 : n < 2 ^ 16 := by omega
  have hbit := zt_bit (b := b) tb.t n
  have hcnt := cnt_told (b := b) tb.t
  have hxx := xor_num k (zt b P)
  have hfx := flip_num (k := k) (n := n) (z := zt b P)
  generalize ehb : hasB b P n = hb at hbit
  generalize hX : num (2 ^ k) (zt b P) = XX at hx
  generalize hY : num (2 ^ k) (zt false [(n : Int)]) = YY at hfx
  generalize hF : num (2 ^ k) (flipB (zt b P) n) = F2
  obtain ⟨tx, lx, wx, rfl, itx, ilx, iix⟩ := hx.open
  obtain ⟨ty, ly, wy, rfl, ity, ily, iiy⟩ := ht.open
  dsimp only at ity iiy
  obtain ⟨B, F, X, T, hk, hd, hu⟩ := C
  refine wpAny_call ?_
  refine' enterM [(Str.ofString "x", Value.ref tx), (Str.ofString "told", Value.ref ty), (Str.ofString "place", Value.int (n : Int) tn), (Str.ofString "w", Value.int (k : Int) tw)] [(Str.ofString "w", Value.int (k : Int) tw), (Str.ofString "place", Value.int (n : Int) tn), (Str.ofString "told", Value.ref ty), (Str.ofString "x", Value.ref tx)] (fun y => if y = Str.ofString "w" then some (Value.int (k : Int) tw) else if y = Str.ofString "place" then some (Value.int (n : Int) tn) else if y = Str.ofString "told" then some (Value.ref ty) else if y = Str.ofString "x" then some (Value.ref tx) else none) ?k1 ?k2 ?k3 ?k5 ?kA ?kF ?kK ?k6 ?k7 ?k8 ?k9 ?kB ?kR ?kM ?_ ?c2 ?c3 ?c4 ?c5
  walk_at "my_in"
  intro L' h' tk' FG' F' N' B' X' T'
  try dsimp only
  try k_fold
  k_with "call" => (
     (with_reducible show wpAny _ _ (call (Value.ref 249) _) _ _ _)
     k_here
     k_dflt (refine' number_spec (b := b) (P := P) ⟨?k1, ?k2, ?k3, ?k4, ?k5, ?k6, ?k7⟩ ?hx hP hPl hk2 hk9 bs ?_)
     (case k1 => k_asm)
     (case k2 => k_asm)
     (case k3 => k_asm)
     (case k4 => k_asm)
     (case k5 => first | exact rfl | assumption)
     (case k6 => ktr_room)
     (case k7 => ktr_units)
     (case hx => exact NumH.keeps ht (Fr.keep (by assumption)))
     rw [hX]
     intro t9 l9 vs9 n9 m9 h9 tk9 F9 S9 hn9 hn9' ho9 ho9' hi9
     have N9 := newsT (by assumption) (by assumption) S9 hn9 hn9' ho9 ho9'
     clear hn9 hn9' ho9 ho9' S9
     (try dsimp only)
     (try k_sweep)
     (try k_fold))
  k_with "call" => (
     (with_reducible show wpAny _ _ (call (Value.ref 249) _) _ _ _)
     k_here
     k_dflt (refine' number_spec (b := false) (P := [(n : Int)]) ⟨?k1, ?k2, ?k3, ?k4, ?k5, ?k6, ?k7⟩ ?hx hp1 hl1 hk2 hk9 bs1 ?_)
     (case k1 => k_asm)
     (case k2 => k_asm)
     (case k3 => k_asm)
     (case k4 => k_asm)
     (case k5 => first | exact rfl | assumption)
     (case k6 => ktr_room)
     (case k7 => ktr_units)
     (case hx => (refine' numH_news ?za ?zb ?zc ?zd; (case za => assumption); (case zb => k_dflt k_mem); (case zc => k_dflt k_mem); (case zd => first | assumption | exact IntsAre.nil | exact IntsAre.cons _ _ IntsAre.nil)))
     rw [hY]
     intro t9 l9 vs9 n9 m9 h9 tk9 F9 S9 hn9 hn9' ho9 ho9' hi9
     have N9 := newsT (by assumption) (by assumption) S9 hn9 hn9' ho9 ho9'
     clear hn9 hn9' ho9 ho9' S9
     (try dsimp only)
     (try k_sweep)
     (try k_fold))
  k_with "call" => (
     (with_reducible show wpAny _ _ (call (Value.ref 148) _) _ _ _)
     k_here
     k_dflt (refine' s_bit_spec (z := zt b P) (n := n) ⟨?k1, ?k2, ?k3, ?k4, ?k5, ?k6, ?k7⟩ ?hx hk2 hk9 bx' hn16 ?_)
     (case k1 => k_asm)
     (case k2 => k_asm)
     (case k3 => k_asm)
     (case k4 => k_asm)
     (case k5 => first | exact rfl | assumption)
     (case k6 => ktr_room)
     (case k7 => ktr_units)
     (case hx => rw [hX]; exact NumH.keeps hx (Fr.keep (by assumption)))
     rw [hbit]
     intro t9 h9 tk9 F9 S9
     have N9 := newsK (by assumption) S9
     (try dsimp only)
     (try k_sweep)
     (try k_fold))
  k_with "call" => (
     (with_reducible show wpAny _ _ (call (Value.ref 256) _) _ _ _)
     k_here
     k_dflt (refine' has_spec (b := b) (P := P) (q := (n : Int)) ⟨?k1, ?k2, ?k3, ?k4, ?k5, ?k6, ?k7⟩ ?hx hPl ?_)
     (case k1 => k_asm)
     (case k2 => k_asm)
     (case k3 => k_asm)
     (case k4 => k_asm)
     (case k5 => first | exact rfl | assumption)
     (case k6 => ktr_room)
     (case k7 => ktr_units)
     (case hx => exact NumH.keeps ht (Fr.keep (by assumption)))
     rw [show (decide ((n : Int) ∈ P) != b) = hb from ehb]
     intro h9 tk9 F9 S9
     have N9 := newsK (by assumption) S9
     (try dsimp only)
     (try k_sweep)
     (try k_fold))
  k_with "call" => (
     (with_reducible show wpAny _ _ (call (Value.ref 195) _) _ _ _)
     k_here
     k_dflt (refine' count_ones_spec (z := zt b P) ⟨?k1, ?k2, ?k3, ?k4, ?k5, ?k6, ?k7⟩ ?hx hk2 bx' ?_)
     (case k1 => k_asm)
     (case k2 => k_asm)
     (case k3 => k_asm)
     (case k4 => k_asm)
     (case k5 => first | exact rfl | assumption)
     (case k6 => ktr_room)
     (case k7 => ktr_units)
     (case hx => rw [hX]; exact NumH.keeps hx (Fr.keep (by assumption)))
     rw [hcnt]
     intro v9 h9 tk9 F9 S9 D9
     have O9 := OVal.of D9
     clear D9
     have N9 := newsK (by assumption) S9
     (try dsimp only)
     (try k_sweep)
     (try k_fold))
  k_with "call" => (
     (with_reducible show wpAny _ _ (call (Value.ref 176) _) _ _ _)
     k_here
     k_dflt (refine' flip_bit_spec (z := zt b P) (n := n) ⟨?k1, ?k2, ?k3, ?k4, ?k5, ?k6, ?k7⟩ ?hx hk2 hk9 bx' hn13 ?_)
     (case k1 => k_asm)
     (case k2 => k_asm)
     (case k3 => k_asm)
     (case k4 => k_asm)
     (case k5 => first | exact rfl | assumption)
     (case k6 => ktr_room)
     (case k7 => ktr_units)
     (case hx => rw [hX]; exact NumH.keeps hx (Fr.keep (by assumption)))
     rw [hF]
     intro r9 h9 tk9 F9 S9 D9
     have N9 := newsK (by assumption) S9
     (try dsimp only)
     (try k_sweep)
     (try k_fold))
  k_with "call" => (
     (with_reducible show wpAny _ _ (call (Value.ref 134) _) _ _ _)
     k_here
     k_dflt (refine' s_xor_spec (z := flipB (zt b P) n) (y0 := zt b P) ⟨?k1, ?k2, ?k3, ?k4, ?k5, ?k6, ?k7⟩ ?hx ?hy hk2 hk9 bf bx' ?_)
     (case k1 => k_asm)
     (case k2 => k_asm)
     (case k3 => k_asm)
     (case k4 => k_asm)
     (case k5 => first | exact rfl | assumption)
     (case k6 => ktr_room)
     (case k7 => ktr_units)
     (case hx => rw [hF]; assumption)
     (case hy => rw [hX]; exact NumH.keeps hx (Fr.keep (by assumption)))
     rw [hfx]
     intro t9 l9 vs9 n9 m9 h9 tk9 F9 S9 hn9 hn9' ho9 ho9' hi9
     have N9 := newsT (by assumption) (by assumption) S9 hn9 hn9' ho9 ho9'
     clear hn9 hn9' ho9 ho9' S9
     (try dsimp only)
     (try k_sweep)
     (try k_fold))
  k_with "call" => (
     (with_reducible show wpAny _ _ (call (Value.ref 134) _) _ _ _)
     k_here
     k_dflt (refine' s_xor_spec (z := zt b P) (y0 := zt b P) ⟨?k1, ?k2, ?k3, ?k4, ?k5, ?k6, ?k7⟩ ?hx ?hy hk2 hk9 bx' bx' ?_)
     (case k1 => k_asm)
     (case k2 => k_asm)
     (case k3 => k_asm)
     (case k4 => k_asm)
     (case k5 => first | exact rfl | assumption)
     (case k6 => ktr_room)
     (case k7 => ktr_units)
     (case hx => rw [hX]; exact NumH.keeps hx (Fr.keep (by assumption)))
     (case hy => rw [hX]; exact NumH.keeps hx (Fr.keep (by assumption)))
     rw [hxx]
     intro t9 l9 vs9 n9 m9 h9 tk9 F9 S9 hn9 hn9' ho9 ho9' hi9
     have N9 := newsT (by assumption) (by assumption) S9 hn9 hn9' ho9 ho9'
     clear hn9 hn9' ho9 ho9' S9
     (try dsimp only at N9 hi9)
     (try dsimp only)
     (try k_sweep)
     (try k_fold))
  k_with "call" => (
     (with_reducible show wpAny _ _ (call (Value.ref 216) _) _ _ _)
     k_here
     k_dflt (refine' scan_one_spec (z := zt b P) (n := n) ⟨?k1, ?k2, ?k3, ?k4, ?k5, ?k6, ?k7⟩ ?hx hk2 hk9 bx' hn13 ?_)
     (case k1 => k_asm)
     (case k2 => k_asm)
     (case k3 => k_asm)
     (case k4 => k_asm)
     (case k5 => first | exact rfl | assumption)
     (case k6 => ktr_room)
     (case k7 => ktr_units)
     (case hx => rw [hX]; exact NumH.keeps hx (Fr.keep (by assumption)))
     intro r9 R9 v9 h9 tk9 F9 S9 D9
     have O9 := OVal.of D9
     clear D9
     have N9 := newsK (by assumption) S9
     (try dsimp only)
     (try k_sweep)
     (try k_fold))
  k_with "call" => (
     (with_reducible show wpAny _ _ (call (Value.ref 223) _) _ _ _)
     k_here
     k_dflt (refine' scan_zero_spec (z := zt b P) (n := n) ⟨?k1, ?k2, ?k3, ?k4, ?k5, ?k6, ?k7⟩ ?hx hk2 hk9 bx' hn13 ?_)
     (case k1 => k_asm)
     (case k2 => k_asm)
     (case k3 => k_asm)
     (case k4 => k_asm)
     (case k5 => first | exact rfl | assumption)
     (case k6 => ktr_room)
     (case k7 => ktr_units)
     (case hx => rw [hX]; exact NumH.keeps hx (Fr.keep (by assumption)))
     intro r9 R9 v9 h9 tk9 F9 S9 D9
     have O9 := OVal.of D9
     clear D9
     have N9 := newsK (by assumption) S9
     (try dsimp only)
     (try k_sweep)
     (try k_fold))
  k_with "call" => (
     (with_reducible show wpAny _ _ (call (Value.ref 263) _) _ _ _)
     k_here
     k_dflt (refine' next_spec (b := b) (P := P) (i := true) (n := n) ⟨?k1, ?k2, ?k3, ?k4, ?k5, ?k6, ?k7⟩ ?hx hP hPl hn13 ?_)
     (case k1 => k_asm)
     (case k2 => k_asm)
     (case k3 => k_asm)
     (case k4 => k_asm)
     (case k5 => first | exact rfl | assumption)
     (case k6 => ktr_room)
     (case k7 => ktr_units)
     (case hx => exact NumH.keeps ht (Fr.keep (by assumption)))
     intro r9 R9 v9 h9 tk9 F9 S9 D9
     have O9 := OVal.of D9
     clear D9
     have N9 := newsK (by assumption) S9
     have e9 := next_eq (wn := 1) tb.t rfl (by assumption) R9
     subst e9
     (try dsimp only)
     (try k_sweep)
     (try k_fold))
  k_with "call" => (
     (with_reducible show wpAny _ _ (call (Value.ref 263) _) _ _ _)
     k_here
     k_dflt (refine' next_spec (b := b) (P := P) (i := false) (n := n) ⟨?k1, ?k2, ?k3, ?k4, ?k5, ?k6, ?k7⟩ ?hx hP hPl hn13 ?_)
     (case k1 => k_asm)
     (case k2 => k_asm)
     (case k3 => k_asm)
     (case k4 => k_asm)
     (case k5 => first | exact rfl | assumption)
     (case k6 => ktr_room)
     (case k7 => ktr_units)
     (case hx => exact NumH.keeps ht (Fr.keep (by assumption)))
     intro r9 R9 v9 h9 tk9 F9 S9 D9
     have O9 := OVal.of D9
     clear D9
     have N9 := newsK (by assumption) S9
     have e9 := next_eq (wn := 0) tb.t rfl (by assumption) R9
     subst e9
     (try dsimp only)
     (try k_sweep)
     (try k_fold))

  k_with "cmpne" => (
     refine' num_ne (x := (false, [])) (y := (false, [])) ?hx ?hy rfl ?hu ?_
     (case hx => first | exact NumH.keeps hx (Fr.keep (by assumption)) | (first | (refine' numH_newsX ?za ?zb ?zc ?zd; (case za => assumption); (case zb => k_dflt k_mem); (case zc => k_dflt k_mem); (case zd => assumption)) | (refine' numH_news ?za ?zb ?zc ?zd; (case za => assumption); (case zb => k_dflt k_mem); (case zc => k_dflt k_mem); (case zd => first | assumption | exact IntsAre.nil | exact IntsAre.cons _ _ IntsAre.nil))))
     (case hy => (first | (refine' numH_newsX ?za ?zb ?zc ?zd; (case za => assumption); (case zb => k_dflt k_mem); (case zc => k_dflt k_mem); (case zd => assumption)) | (refine' numH_news ?za ?zb ?zc ?zd; (case za => assumption); (case zb => k_dflt k_mem); (case zc => k_dflt k_mem); (case zd => first | assumption | exact IntsAre.nil | exact IntsAre.cons _ _ IntsAre.nil))))
     (case hu => ktr_units))
  k_with "cmpne" => (
     refine' num_ne (x := XX) (y := XX) ?hx ?hy rfl ?hu ?_
     (case hx => first | exact NumH.keeps hx (Fr.keep (by assumption)) | (first | (refine' numH_newsX ?za ?zb ?zc ?zd; (case za => assumption); (case zb => k_dflt k_mem); (case zc => k_dflt k_mem); (case zd => assumption)) | (refine' numH_news ?za ?zb ?zc ?zd; (case za => assumption); (case zb => k_dflt k_mem); (case zc => k_dflt k_mem); (case zd => first | assumption | exact IntsAre.nil | exact IntsAre.cons _ _ IntsAre.nil))))
     (case hy => (first | (refine' numH_newsX ?za ?zb ?zc ?zd; (case za => assumption); (case zb => k_dflt k_mem); (case zc => k_dflt k_mem); (case zd => assumption)) | (refine' numH_news ?za ?zb ?zc ?zd; (case za => assumption); (case zb => k_dflt k_mem); (case zc => k_dflt k_mem); (case zd => first | assumption | exact IntsAre.nil | exact IntsAre.cons _ _ IntsAre.nil))))
     (case hu => ktr_units))
  k_with "cmpne" => (
     refine' num_ne (x := YY) (y := YY) ?hx ?hy rfl ?hu ?_
     (case hx => first | exact NumH.keeps hx (Fr.keep (by assumption)) | (first | (refine' numH_newsX ?za ?zb ?zc ?zd; (case za => assumption); (case zb => k_dflt k_mem); (case zc => k_dflt k_mem); (case zd => assumption)) | (refine' numH_news ?za ?zb ?zc ?zd; (case za => assumption); (case zb => k_dflt k_mem); (case zc => k_dflt k_mem); (case zd => first | assumption | exact IntsAre.nil | exact IntsAre.cons _ _ IntsAre.nil))))
     (case hy => (first | (refine' numH_newsX ?za ?zb ?zc ?zd; (case za => assumption); (case zb => k_dflt k_mem); (case zc => k_dflt k_mem); (case zd => assumption)) | (refine' numH_news ?za ?zb ?zc ?zd; (case za => assumption); (case zb => k_dflt k_mem); (case zc => k_dflt k_mem); (case zd => first | assumption | exact IntsAre.nil | exact IntsAre.cons _ _ IntsAre.nil))))
     (case hu => ktr_units))
  k_with "compareOp NotEq" => (refine' o_ne ?ha ?hb ?_; (case ha => assumption); (case hb => assumption))
  k_with "compareOp Eq" => (refine' o_eq ?ha ?hb ?_; (case ha => assumption); (case hb => assumption))
  k_with "eval IfExp" => (
     refine' ifexp_O (if b = true then none else some (P.length : Int)) ?wa ?wb
     (case' wb => intro v9 tk9 O9)
     all_goals (try dsimp only)
     all_goals (try k_sweep)
     all_goals (try k_fold))
  k_with "ends" => first
    | exact ⟨_, rfl, oval_none (by assumption)⟩
    | exact ⟨_, rfl, oval_some (by assumption)⟩
    | exact ⟨_, rfl, oval_some' (by assumption)⟩
    | exact retB ret (by assumption) (by assumption) rfl
    | exact absurd rfl (by assumption)
    | exact nff (by assumption)
  k_steps

end
end Mine
namespace Mine
open PySem PySem.W PySem.Spec PySem.Calls PyProof.Rows
set_option maxRecDepth 100000
set_option maxHeartbeats 0
local macro_rules | `(tactic| walk_at "my_in") => `(tactic| ((case kA => exact rfl); (case kF => exact rfl); (case kK => first | assumption | exact rfl); (case k1 => k_asm); (case k2 => k_asm); (case k3 => k_asm); (case k5 => k_asm); (case k6 => k_is); (case k7 => k_is); (case k8 => ktr_room); (case k9 => exact BindsTo.of_eq rfl); (case c5 => decide); (case kB => exact locs rfl); (case c2 => exact rfl); (case c3 => exact rfl); (case c4 => exact rfl); (case kR => exact rfl); (case kM => (intro y; (repeat refine lk_cons' _ _ _ _ ?_); exact rfl))))
local macro_rules | `(tactic| walk_at "my_inC") => `(tactic| ((case kA => exact rfl); (case kF => exact rfl); (case kK => first | assumption | exact rfl); (case k1 => k_asm); (case k2 => k_asm); (case k3 => k_asm); (case k5 => k_asm); (case k6 => k_is); (case k7 => k_is); (case k8 => ktr_room); (case k9 => exact BindsTo.of_eq rfl); (case kB => exact rfl); (case kD => decide +kernel); (case c2 => exact rfl); (case c3 => exact rfl); (case c4 => exact rfl); (case kM => (intro L'; rfl)); (case kC => (intro L'; rfl))))
local macro_rules | `(tactic| kmk_nums) => `(tactic| first | ((with_reducible refine' kmk_all ?gi); (case gi => l_ints)) | ((with_reducible refine' kmk_upto ?gi ?gx); (case gi => l_ints); (case gx => first | with_reducible assumption | decide | omega)))
local macro_rules | `(tactic| walk_at "eval ListComp") => `(tactic| k_extra "comp")
local macro_rules | `(tactic| walk_at "call type:zip") => `(tactic| k_extra "zip")
local macro_rules | `(tactic| wrow_close) => `(tactic| k_extra "ends")
local macro_rules | `(tactic| walk_at "call ref") => `(tactic| k_extra "call")
section
variable {w : World} {p : Program} {loose : List Str} {mean : ExcName → Option Value} {mg mb : Str → Option Value} {dp un : Nat} {gd : Option (List Code)} {cn : Str} {cs : Scope} {a : Addr} {ccd : Value} {cl : List (Str × Addr)} {outer : List Env} {A₀ : Around} {base h₀ : Heap} {L : Addr} {m : Str → Option Value} {s : Shared} {Q E : Value → Shared → Prop}

theorem distance_spec {vx vy : Value} {z y0 : Int} {k : Nat} {tw : Tok}
    (C : Cx w p loose mean mg mb dp un cs outer A₀ base h₀ L m s 20)
    (hx : NumH s.heap vx (num (2 ^ k) z)) (hy : NumH s.heap vy (num (2 ^ k) y0)) (hk2 : 2 ≤ k) (hk9 : k ≤ 9) (bx' : (limbs (2 ^ k) z.natAbs).length < 2 ^ 14) (by' : (limbs (2 ^ k) y0.natAbs).length < 2 ^ 14) (b2 : (limbs (2 ^ k) (Builtin.bitXor z y0).natAbs).length < 2 ^ 14)
    (ret : RetO h₀ L m s Q (if decide (z < 0) = decide (y0 < 0) then some (pop (Builtin.bitXor z y0).natAbs) else none)) :
    wpAny (model PR w) (ktrTop dp un gd cn cs L a ccd cl outer) (call (.ref 202) [vx, vy, .int (k : Int) tw]) Q E s := by
  k_with_none
  obtain ⟨tx, lx, wx, rfl, itx, ilx, iix⟩ := hx.open
  generalize ebx : (num (2 ^ k) z).1 = bbx at itx
  generalize enx : (num (2 ^ k) z).2 = nx at iix
  have ex : nx = limbs (2 ^ k) z.natAbs := enx.symm
  obtain ⟨ty, ly, wy, rfl, ity, ily, iiy⟩ := hy.open
  generalize eby : (num (2 ^ k) y0).1 = bby at ity
  generalize eny : (num (2 ^ k) y0).2 = ny at iiy
  have ey : ny = limbs (2 ^ k) y0.natAbs := eny.symm
  have eb9 : bbx = decide (z < 0) := ebx.symm
  have ey9 : bby = decide (y0 < 0) := eby.symm
  generalize eln : limbs (2 ^ k) ((Builtin.bitXor z y0).natAbs : Int) = ln at b2
  have enn : (num (2 ^ k) (Builtin.bitXor z y0)).2 = ln := eln
  obtain ⟨B, F, X, T, hk, hd, hu⟩ := C
  refine wpAny_call ?_
  refine' enterM [(Str.ofString "x", Value.ref tx), (Str.ofString "y", Value.ref ty), (Str.ofString "w", Value.int (k : Int) tw)] [(Str.ofString "w", Value.int (k : Int) tw), (Str.ofString "y", Value.ref ty), (Str.ofString "x", Value.ref tx)] (fun y => if y = Str.ofString "w" then some (Value.int (k : Int) tw) else if y = Str.ofString "y" then some (Value.ref ty) else if y = Str.ofString "x" then some (Value.ref tx) else none) ?k1 ?k2 ?k3 ?k5 ?kA ?kF ?kK ?k6 ?k7 ?k8 ?k9 ?kB ?kR ?kM ?_ ?c2 ?c3 ?c4 ?c5
  walk_at "my_in"
  intro L' h' tk' FG' F' N' B' X' T'
  try dsimp only
  try k_fold
  refine let_A ?_
  intro ak
  k_with "execs cons" => ((with_reducible show wpAny _ _ _ _ _ (PySem.Shared.mk _ _ _ (HAdd.hAdd _ _) _)); refine repack s rfl ?_; intro tk9)
  k_with "call" => (
     k_here
     k_dflt (refine' s_xor_spec (z := z) (y0 := y0) ⟨?k1, ?k2, ?k3, ?k4, ?k5, ?k6, ?k7⟩ ?hx ?hy hk2 hk9 bx' by' ?_)
     (case k1 => k_asm)
     (case k2 => k_asm)
     (case k3 => k_asm)
     (case k4 => k_asm)
     (case k5 => first | exact rfl | assumption)
     (case k6 => ktr_room)
     (case k7 => ktr_units)
     (case hx => exact NumH.keeps hx (Fr.keep (by assumption)))
     (case hy => exact NumH.keeps hy (Fr.keep (by assumption)))
     intro t9 l9 vs9 n9 m9 h9 tk9 F9 S9 hn9 hn9' ho9 ho9' hi9
     have N9 := newsT (by assumption) (by assumption) S9 hn9 hn9' ho9 ho9'
     rw [enn] at hi9
     (try dsimp only)
     (try k_sweep)
     (try k_fold))

  k_with "call" => (
     k_here
     k_dflt (refine' nat_ones_spec (x := (Builtin.bitXor z y0).natAbs) (k := k) (na := ln) ⟨?k1, ?k2, ?k3, ?k4, ?k5, ?k6, ?k7⟩ ?la ?ia (by omega) hk2 eln.symm (by omega) ?_)
     (case k1 => k_asm)
     (case k2 => k_asm)
     (case k3 => k_asm)
     (case k4 => k_asm)
     (case k5 => first | exact rfl | assumption)
     (case k6 => ktr_room)
     (case k7 => ktr_units)
     (case la => is_list)
     (case ia => assumption)
     intro t9 h9 tk9 F9 S9
     have N9 := newsK (by assumption) S9
     (try dsimp only)
     (try k_sweep)
     (try k_fold))

  k_with "ends" => first
    | exact retOs ret (by assumption) (by assumption) (if_pos (by rw [← eb9, ← ey9]; simp_all))
    | exact retOn ret (by assumption) (by assumption) (if_neg (by rw [← eb9, ← ey9]; simp_all))
  k_steps

end
end Mine
namespace Mine
open PySem PySem.W PySem.Spec PySem.Calls PyProof.Rows PyProof.Rows.LCg
set_option maxRecDepth 100000
def RA (h : Heap) (ys : List Value) (ds : List PyData) : Prop := ∃ as, ReadsAll h ys ds as
theorem RA.nil {h : Heap} : RA h [] [] := ⟨_, .nil⟩
theorem RA.keeps {h h' : Heap} {ys : List Value} {ds : List PyData} (k : h.StaysIn h') (a : RA h ys ds) : RA h' ys ds := let ⟨as, r⟩ := a; ⟨as, ReadsAll.keeps k r⟩
theorem RA.snoc {h : Heap} {y : Value} {d : PyData} (hy : ∃ as, Reads h y d as) : ∀ {ys : List Value} {ds : List PyData}, RA h ys ds → RA h (ys ++ [y]) (ds ++ [d])
  | [], [], _ => by
    obtain ⟨as, r⟩ := hy
    exact ⟨_, .cons r .nil⟩
  | [], _ :: _, ⟨_, r⟩ => by cases r
  | _ :: _, [], ⟨_, r⟩ => by cases r
  | z :: ys, e :: ds, ⟨_, r⟩ => by
    cases r with
    | cons r1 r2 =>
      obtain ⟨bs, q⟩ := RA.snoc hy (ys := ys) (ds := ds) ⟨_, r2⟩
      exact ⟨_, .cons r1 q⟩
abbrev dat (k : Nat) (x : Bool × List Int) : PyData := numP (num (2 ^ k) (zt x.1 x.2))
inductive MomX (g : Heap) (k M : Nat) (v : Value) (x : Bool × List Int) : Prop
  | mk (t : Addr) (vx vt : Value) (e : v = .ref t) (it : IsTup g t #[vx, vt]) (nx : NumH g vx (num (2 ^ k) (zt x.1 x.2))) (nt : NumH g vt x) (tb : TB x.2 M) : MomX g k M v x
theorem moms_data {g : Heap} {k M : Nat} : ∀ {vs : List Value}, (∀ v ∈ vs, MomAt g k M v) → ∃ xs : List (Bool × List Int), xs.length = vs.length ∧ ∀ (j : Nat) (v : Value), vs[j]? = some v → ∃ x, xs[j]? = some x ∧ MomX g k M v x
  | [], _ => ⟨[], rfl, fun j v h => by simp at h⟩
  | v :: vs, h => by
    obtain ⟨t, vx, vt, b, P, e, a1, a2, a3, a4⟩ := h v (.head _)
    obtain ⟨xs, hl, hx⟩ := moms_data (vs := vs) fun v hv => h v (.tail _ hv)
    refine ⟨(b, P) :: xs, by rw [List.length_cons, List.length_cons, hl], fun j v' hj => ?_⟩
    cases j with
    | zero =>
      simp only [List.getElem?_cons_zero, Option.some.injEq] at hj
      subst hj
      exact ⟨(b, P), rfl, t, vx, vt, e, a1, a2, a3, a4⟩
    | succ j =>
      simp only [List.getElem?_cons_succ] at hj ⊢
      exact hx j v' hj
theorem eqv_self (k : Nat) : ∀ xs : List (Bool × List Int), PyData.eqvAll (xs.map (dat k)) (xs.map (dat k)) = true
  | [] => by simp [PyData.eqvAll]
  | x :: xs => by
    rw [List.map_cons, PyData.eqvAll, eqv_self k xs, numP_eqv]
    simp
theorem lay_self (k : Nat) : ∀ xs : List (Bool × List Int), PyData.canLayAll0 (xs.map (dat k)) = true ∧ PyData.depthAll (xs.map (dat k)) ≤ 2
  | [] => by simp [PyData.canLayAll0, PyData.depthAll]
  | x :: xs => by
    obtain ⟨a, b⟩ := lay_self k xs
    obtain ⟨c, d⟩ := numP_lay (num (2 ^ k) (zt x.1 x.2))
    rw [List.map_cons]
    simp only [PyData.canLayAll0, PyData.depthAll]
    exact ⟨by rw [a, c]; rfl, by rw [d]; omega⟩
theorem shaped_self (k : Nat) (xs : List (Bool × List Int)) : SeqAt.shaped (.list (xs.map (dat k))) = true := by
  obtain ⟨a, b⟩ := lay_self k xs
  unfold SeqAt.shaped
  simp only [PyData.canLay0, PyData.depth]
  rw [a]
  simp
  omega
section
variable {prog : Program} {w : World} {A : Around} {E : Value → Shared → Prop} {s : Shared} {h₀ : Heap} {L : Addr} {m : Str → Option Value} {env : Env} {news : List (Addr × Obj)} {Q : Value → Shared → Prop}
theorem moms_eq {a b : Addr} {k : Nat} {ys zs : List Value} {xs : List (Bool × List Int)} (N : News h₀ L s.heap news) (h1 : (a, lst ys) ∈ news) (h2 : (b, lst zs) ∈ news) (r1 : RA s.heap ys (xs.map (dat k))) (r2 : RA s.heap zs (xs.map (dat k))) (hu : A.units + 64 < cLine)
    (h : Q (.bool true) s) : wpAny (model prog w) A (compareOp .Eq (.ref a) (.ref b)) Q E s := by
  obtain ⟨as, r1⟩ := r1
  obtain ⟨bs, r2⟩ := r2
  have e1 : Reads s.heap (.ref a) (.list (xs.map (dat k))) _ := .list (N _ h1).1 rfl rfl (by simpa using r1)
  have e2 : Reads s.heap (.ref b) (.list (xs.map (dat k))) _ := .list (N _ h2).1 rfl rfl (by simpa using r2)
  refine eq_dataH e1 e2 (shaped_self k xs) (shaped_self k xs) hu ?_
  rw [show PyData.eqv (.list (xs.map (dat k))) (.list (xs.map (dat k))) = true by simp only [PyData.eqv]; exact eqv_self k xs]
  exact h
theorem take_snoc {α : Type} {l : List α} {i : Nat} {x : α} (h : l[i]? = some x) : l.take (i + 1) = l.take i ++ [x] := by
  rw [List.take_add_one, h]; rfl
variable {elt : PySem.Expr} {x : Str} {scope : Scope} {cl : List (Str × Addr)} {S : List (Addr × Obj) → Prop} {Fin : List Value → List (Addr × Obj) → Prop}
theorem rest1 {g : Heap} {k M : Nat} {vs : List Value} {xs : List (Bool × List Int)} (hl : xs.length = vs.length) (hd : ∀ (j : Nat) (v : Value), vs[j]? = some v → ∃ x, xs[j]? = some x ∧ MomX g k M v x) (hS : S news) (hG : ∀ h, Fr h₀ L h m → (∀ p ∈ news, h.get? p.1 = some p.2) → g.StaysIn h)
    (turn : ∀ t vx vt I oI C oC D m₂ ys h tk (E' : Value → Shared → Prop), NsObj oC m₂ → m₂ x = some (.ref t) → Fr h₀ L h m → News h₀ L h ((I, oI) :: (C, oC) :: (D, lst ys) :: news) → IsTup h t #[vx, vt] →
      wpAny (model prog w) A (eval elt (compEnvC scope cl C env)) (fun y s' => y = vx ∧ ∃ tk', s' = { s with heap := h, toks := tk' }) E' { s with heap := h, toks := tk })
    (fin : ∀ ys, RA g ys (xs.map (dat k)) → Fin ys news) :
    CompRest prog w A h₀ L m env elt x scope cl s S (fun i v => vs.toArray[i]? = some v) Fin vs.toArray.size 0 [] news := by
  have key : ∀ (j i : Nat) (ys : List Value), i + j = vs.length → RA g ys ((xs.take i).map (dat k)) → CompRest prog w A h₀ L m env elt x scope cl s S (fun i v => vs.toArray[i]? = some v) Fin j i ys news := by
    intro j
    induction j with
    | zero =>
      intro i ys hi hy
      rw [List.take_of_length_le (by omega)] at hy
      exact fin ys hy
    | succ j ih =>
      intro i ys hi hy
      refine CompRest.succ ?_
      intro v I oI C oC D m₂ h tk E' hv hC hx F N off ne
      have hv : vs[i]? = some v := by simpa using hv
      obtain ⟨x', hx', t, vx, vt, rfl, a1, a2, a3, a4⟩ := hd i v hv
      refine wpAny_mono (turn t vx vt I oI C oC D m₂ ys h tk E' hC hx F N (tup_keeps (hG h F fun p hp => (N p (.tail _ (.tail _ (.tail _ hp)))).1) a1)) (fun y s₂ hq => ?_) fun _ _ e => e
      obtain ⟨rfl, tk', rfl⟩ := hq
      refine ⟨h, tk', news, rfl, F, N, off, hS, ih (i + 1) _ (by omega) ?_⟩
      rw [take_snoc hx', List.map_append]
      exact RA.snoc a2 hy
  rw [List.size_toArray]
  exact key vs.length 0 [] (by omega) RA.nil
theorem rest2 {g : Heap} {k M : Nat} {vs : List Value} {xs : List (Bool × List Int)} {cw : Addr} {wo : Obj} (hl : xs.length = vs.length) (hd : ∀ (j : Nat) (v : Value), vs[j]? = some v → ∃ x, xs[j]? = some x ∧ MomX g k M v x) (hcw : (cw, wo) ∈ news)
    (hS : ∀ acc, S (acc ++ news)) (hG : ∀ h, Fr h₀ L h m → (∀ p ∈ news, h.get? p.1 = some p.2) → g.StaysIn h)
    (turn : ∀ t vx vt (y : Bool × List Int) I oI C oC D m₂ ys h tk (E' : Value → Shared → Prop), NsObj oC m₂ → m₂ x = some (.ref t) → Fr h₀ L h m → News h₀ L h [(I, oI), (C, oC), (D, lst ys), (cw, wo)] → IsTup h t #[vx, vt] → NumH h vt y → TB y.2 M →
      wpAny (model prog w) A (eval elt (compEnvC scope cl C env)) (fun r s' => ∃ t9 l9 vs9 n9 n9' h' tk', r = .ref t9 ∧ s' = { s with heap := h', toks := tk' } ∧ Fr h₀ L h' m ∧ h.StaysIn h' ∧ h.get? t9 = none ∧ h.get? l9 = none ∧ h'.get? t9 = some { cls := .type "tuple", data := .seq #[.bool (num (2 ^ k) (zt y.1 y.2)).1, .ref l9] n9 } ∧ h'.get? l9 = some (listOf (List.toArray vs9) n9') ∧ IntsAre vs9 (num (2 ^ k) (zt y.1 y.2)).2) E' { s with heap := h, toks := tk })
    (fin : ∀ ys acc, (∀ h, (∀ p ∈ acc, h.get? p.1 = some p.2) → RA h ys (xs.map (dat k))) → Fin ys (acc ++ news)) :
    CompRest prog w A h₀ L m env elt x scope cl s S (fun i v => vs.toArray[i]? = some v) Fin vs.toArray.size 0 [] news := by
  have key : ∀ (j i : Nat) (ys : List Value) (acc : List (Addr × Obj)), i + j = vs.length → (∀ h : Heap, (∀ p ∈ acc, h.get? p.1 = some p.2) → RA h ys ((xs.take i).map (dat k))) → CompRest prog w A h₀ L m env elt x scope cl s S (fun i v => vs.toArray[i]? = some v) Fin j i ys (acc ++ news) := by
    intro j
    induction j with
    | zero =>
      intro i ys acc hi hy
      rw [List.take_of_length_le (by omega)] at hy
      exact fin ys acc hy
    | succ j ih =>
      intro i ys acc hi hy
      refine CompRest.succ ?_
      intro v I oI C oC D m₂ h tk E' hv hC hx F N off ne
      have hv : vs[i]? = some v := by simpa using hv
      obtain ⟨x', hx', t, vx, vt, rfl, a1, a2, a3, a4⟩ := hd i v hv
      have hk : ∀ p ∈ acc ++ news, h.get? p.1 = some p.2 := fun p hp => (N p (.tail _ (.tail _ (.tail _ hp)))).1
      have G := hG h F fun p hp => hk p (List.mem_append.mpr (.inr hp))
      have N4 : News h₀ L h [(I, oI), (C, oC), (D, lst ys), (cw, wo)] := news_pick N (.head _) (news_pick N (.tail _ (.head _)) (news_pick N (.tail _ (.tail _ (.head _))) (news_pick N (.tail _ (.tail _ (.tail _ (List.mem_append.mpr (.inr hcw))))) News.nil)))
      refine wpAny_mono (turn t vx vt x' I oI C oC D m₂ ys h tk E' hC hx F N4 (tup_keeps G a1) (a3.keeps G) a4) (fun y s₂ hq => ?_) fun _ _ e => e
      obtain ⟨t9, l9, vs9, n9, n9', h', tk', rfl, rfl, F', st, z1, z2, z3, z4, z5⟩ := hq
      have N' := newsT F N st z1 z2 z3 z4
      have nx : ∀ p : Addr × Obj, p ∈ ((I, oI) :: (C, oC) :: (D, lst ys) :: (acc ++ news)) → p.1 ≠ t9 ∧ p.1 ≠ l9 := by
        intro p hp
        have h1 := (N p hp).1
        refine ⟨fun e => ?_, fun e => ?_⟩
        · rw [e] at h1
          have := z1.symm.trans h1
          cases this
        · rw [e] at h1
          have := z2.symm.trans h1
          cases this
      have d1 := nx (I, oI) (.head _)
      have d2 := nx (C, oC) (.tail _ (.head _))
      have d3 := nx (D, lst ys) (.tail _ (.tail _ (.head _)))
      refine ⟨h', tk', (t9, { cls := .type "tuple", data := .seq #[.bool (num (2 ^ k) (zt x'.1 x'.2)).1, .ref l9] n9 }) :: (l9, listOf (List.toArray vs9) n9') :: (acc ++ news), rfl, F', fun p hp => ?_, ⟨⟨Ne.symm d1.1, Ne.symm d2.1, Ne.symm d3.1⟩, ⟨Ne.symm d1.2, Ne.symm d2.2, Ne.symm d3.2⟩, off⟩, hS ((t9, _) :: (l9, _) :: acc), ?_⟩
      · refine N' p ?_
        simp only [List.mem_cons] at hp ⊢
        rcases hp with h | h | h | h | h | h
        · exact .inr (.inr (.inl h))
        · exact .inr (.inr (.inr (.inl h)))
        · exact .inr (.inr (.inr (.inr (.inl h))))
        · exact .inl h
        · exact .inr (.inl h)
        · exact .inr (.inr (.inr (.inr (.inr h))))
      · refine ih (i + 1) _ ((t9, { cls := .type "tuple", data := .seq #[.bool (num (2 ^ k) (zt x'.1 x'.2)).1, .ref l9] n9 }) :: (l9, listOf (List.toArray vs9) n9') :: acc) (by omega) fun h2 hk2 => ?_
        rw [take_snoc hx', List.map_append]
        refine RA.snoc ?_ (hy h2 fun p hp => hk2 p (.tail _ (.tail _ hp)))
        exact NumH.mk (x := num (2 ^ k) (zt x'.1 x'.2)) ⟨_, hk2 _ (.head _), rfl, n9, rfl⟩ ⟨_, hk2 _ (.tail _ (.head _)), rfl, n9', rfl⟩ z5
  rw [List.size_toArray]
  exact key vs.length 0 [] [] (by omega) fun h _ => RA.nil
end
end Mine
namespace Mine
open PySem PySem.W PySem.Spec PySem.Calls PyProof.Rows
theorem news_265 {h₀ h : Heap} {L : Addr} {ps : Array Value} {l : List (Addr × Obj)} (N : News h₀ L h l) (m : ((265 : Addr), tabObj ps) ∈ l) : News h₀ L h [(265, tabObj ps)] := news_pick N m News.nil
end Mine
namespace Mine
open PySem PySem.W PySem.Spec PySem.Calls PyProof.Rows
set_option maxRecDepth 100000
set_option maxHeartbeats 0
local macro_rules | `(tactic| walk_at "my_in") => `(tactic| ((case kA => exact rfl); (case kF => exact rfl); (case kK => first | assumption | exact rfl); (case k1 => k_asm); (case k2 => k_asm); (case k3 => k_asm); (case k5 => k_asm); (case k6 => k_is); (case k7 => k_is); (case k8 => ktr_room); (case k9 => exact BindsTo.of_eq rfl); (case c5 => decide); (case kB => exact locs rfl); (case c2 => exact rfl); (case c3 => exact rfl); (case c4 => exact rfl); (case kR => exact rfl); (case kM => (intro y; (repeat refine lk_cons' _ _ _ _ ?_); exact rfl))))
local macro_rules | `(tactic| walk_at "my_inC") => `(tactic| ((case kA => exact rfl); (case kF => exact rfl); (case kK => first | assumption | exact rfl); (case k1 => k_asm); (case k2 => k_asm); (case k3 => k_asm); (case k5 => k_asm); (case k6 => k_is); (case k7 => k_is); (case k8 => ktr_room); (case k9 => exact BindsTo.of_eq rfl); (case kB => exact rfl); (case kD => decide +kernel); (case c2 => exact rfl); (case c3 => exact rfl); (case c4 => exact rfl); (case kM => (intro L'; rfl)); (case kC => (intro L'; rfl))))
local macro_rules | `(tactic| kmk_nums) => `(tactic| first | ((with_reducible refine' kmk_all ?gi); (case gi => l_ints)) | ((with_reducible refine' kmk_upto ?gi ?gx); (case gi => l_ints); (case gx => first | with_reducible assumption | decide | omega)))
local macro_rules | `(tactic| walk_at "eval ListComp") => `(tactic| k_extra "comp")
local macro_rules | `(tactic| walk_at "call type:zip") => `(tactic| k_extra "zip")
local macro_rules | `(tactic| wrow_close) => `(tactic| k_extra "ends")
local macro_rules | `(tactic| walk_at "call ref") => `(tactic| k_extra "call")
local macro_rules | `(tactic| walk_at "compareOp NotEq ref ref") => `(tactic| k_extra "cmpne")
local macro_rules | `(tactic| walk_at "compareOp Eq ref ref") => `(tactic| k_extra "cmpeq")
local macro_rules | `(tactic| walk_at "call builtin:sorted") => `(tactic| k_extra "sorted")
local macro_rules | `(tactic| walk_at "binaryOp Add ref ref") => `(tactic| k_extra "cat")
local macro_rules | `(tactic| k_room) => `(tactic| ktr_room)
local macro_rules | `(tactic| walk_at "my_inJ") => `(tactic| ((case kA => exact rfl); (case kF => exact rfl); (case kK => first | assumption | exact rfl); (case k1 => k_asm); (case k2 => k_asm); (case k3 => k_asm); (case k4 => assumption); (case k5 => k_asm); (case k6 => k_is); (case k7 => k_is); (case k8 => ktr_room); (case k9 => exact BindsTo.of_eq rfl); (case kB => exact rfl); (case kD => decide +kernel); (case c2 => exact rfl); (case c3 => exact rfl); (case c4 => exact rfl); (case kM => (intro L'; rfl)); (case kC => (intro L'; rfl))))
local macro_rules | `(tactic| walk_at "FiltSrc") => `(tactic| k_extra "src")
local macro_rules | `(tactic| walk_at "FiltAny") => `(tactic| k_extra "srcA")
local macro_rules | `(tactic| walk_at "my_inH") => `(tactic| ((case kA => exact rfl); (case kF => exact rfl); (case kK => first | assumption | exact rfl); (case k1 => k_asm); (case k2 => k_asm); (case k3 => k_asm); (case k4 => assumption); (case k5 => k_asm); (case k6 => k_is); (case k7 => k_is); (case k8 => ktr_room); (case k9 => exact BindsTo.of_eq rfl); (case c5 => decide); (case kB => exact locs rfl); (case c2 => exact rfl); (case c3 => exact rfl); (case c4 => exact rfl); (case kR => exact rfl); (case kM => (intro y; (repeat refine lk_cons' _ _ _ _ ?_); exact rfl))))
local macro_rules | `(tactic| walk_at "CompSrc") => `(tactic| k_extra "csrc")
local macro_rules | `(tactic| walk_at "KCfEl") => `(tactic| k_extra "kcfel")
local macro_rules | `(tactic| k_all) => `(tactic| assumption)
local macro_rules | `(tactic| walk_at "compareOp In int ref") => `(tactic| k_extra "cmpin")
local macro_rules | `(tactic| walk_at "call builtin:len") => `(tactic| k_extra "len")
local macro_rules | `(tactic| walk_at "subscriptTail") => `(tactic| k_extra "item")
local macro_rules | `(tactic| walk_at "eval IfExp") => `(tactic| k_extra "ifexp")
local macro_rules | `(tactic| walk_at "compareOp NotEq") => `(tactic| k_extra "cmpO")
local macro_rules | `(tactic| k_ne) => `(tactic| (refine neN ?_; (try dsimp only); first | with_reducible assumption | (refine Ne.symm ?_; with_reducible assumption)))
local macro_rules | `(tactic| walk_at "my_tails") => `(tactic| (repeat (first | exact hp | refine' List.Mem.tail _ ?_)))
local macro_rules | `(tactic| walk_at "my_ne") => `(tactic| (simp only [List.mem_cons, List.not_mem_nil, or_false, not_or]; refine ⟨?_, ?_⟩ <;> omega))
theorem law_holds : PySem.Challenge.rw_sj0080_01.Holds := by
  refine holds_law said0 fun said => ?_
  refine holds_open (r := PySem.Challenge.rw_sj0080_01.row) (q := q0) (loose := []) (Xt := Xt0) (XP := XL q0 []) (Yf := H0.obs) (Ya := H0.val) (YP := H0.says) (N := 3404) left0 H0.of H0.keeps (fun s e => xl_of s (Bool.and_eq_true_iff.mp e).1) XL.keeps (by rfl) (by rfl) (by rfl) (fun s e => recFacts_of (Bool.and_eq_true_iff.mp e).2) (by rfl) (by first | assumption | decide +kernel) (by decide +kernel) ⟨rfl, rfl, rfl, rfl, rfl, by decide +kernel⟩ ?hw ?hc
  case hw => w_witness2
  clear said
  delta H0
  k_with_none
  k_go0
  all_goals try k_fold
  k_with "csrc" => (
     k_here
     k_dflt (refine LCg.CompSrc.ledger (by rfl) (by k_asm) (by k_asm) (by k_mem) ?csz ?_)
     (case csz => kcf_size)
     intro g'
     k_dflt (refine' kcf_list (fun a : Int => if a < 0 then -a else a) (by assumption) (fun k' t' I' oI' C' oC' D' m' ys' h' tk' E' hk' hC' hx' F' N' off' ne' hMark' => ?_) ?_)
     (all_goals (try (simp only [LCg.Off3, and_true] at off')))
     kcf_last)
  k_with "kcfel" => exact kcf_el rfl rfl rfl
  k_with "call" => (
     (with_reducible show wpAny _ _ (call (Value.ref 244) [_, Value.int 8 _]) _ _ _)
     k_here
     (rename News _ _ _ _ => N0)
     k_dflt (refine' beaded_nat ⟨?k1, ?k2, ?k3, ?k4, ?k5, ?k6, ?k7⟩ ?hN ?hbl ?ib ?hc0 ?hc1 ?hbn ?hm ?_)
     (case k1 => k_asm)
     (case k2 => k_asm)
     (case k3 => k_asm)
     (case k4 => k_asm)
     (case k5 => first | exact rfl | assumption)
     (case k6 => ktr_room)
     (case k7 => ktr_units)
     (case hN => (refine' news_pick N0 ?zb News.nil; (case zb => k_dflt k_mem)))
     (case hbl => (refine' News.isList N0 ?zc; (case zc => k_dflt k_mem)))
     (case ib => assumption)
     (case hc0 => omega)
     (case hc1 => omega)
     (case hbn => (simp only [List.length_map, List.length_take]; omega))
     (case hm => omega)
     intro kw t9 tc9 nn9 h9 tk9 kw1 F9 S9 N9
     have kw0 := Int.natCast_nonneg kw
     have N8 := newsUpd (by k_dflt k_upd) N0 S9 (newsGet N9 (List.Mem.head _))
     clear N9 S9
     (try dsimp only at N8)
     (try dsimp only)
     (try k_sweep)
     (try k_fold))
  k_with "call" => (
     (with_reducible show wpAny _ _ (call (Value.ref 244) [_, Value.int 2 _]) _ _ _)
     k_here
     (rename News _ _ _ _ => N0)
     k_dflt (refine' beaded_nat ⟨?k1, ?k2, ?k3, ?k4, ?k5, ?k6, ?k7⟩ ?hN ?hbl ?ib ?hc0 ?hc1 ?hbn ?hm ?_)
     (case k1 => k_asm)
     (case k2 => k_asm)
     (case k3 => k_asm)
     (case k4 => k_asm)
     (case k5 => first | exact rfl | assumption)
     (case k6 => ktr_room)
     (case k7 => ktr_units)
     (case hN => (refine' news_pick N0 ?zb News.nil; (case zb => k_dflt k_mem)))
     (case hbl => (refine' News.isList N0 ?zc; (case zc => k_dflt k_mem)))
     (case ib => assumption)
     (case hc0 => omega)
     (case hc1 => omega)
     (case hbn => (simp only [List.length_map, List.length_take]; omega))
     (case hm => omega)
     intro r2 t9 tc9 nn9 h9 tk9 r21 F9 S9 N9
     have r20 := Int.natCast_nonneg r2
     have N8 := newsUpd (by k_dflt k_upd) N0 S9 (newsGet N9 (List.Mem.head _))
     clear N9 S9
     (try dsimp only at N8)
     (try dsimp only)
     (try k_sweep)
     (try k_fold))
  k_with "call" => (
     (with_reducible show wpAny _ _ (call (Value.ref 244) [_, Value.int 9 _]) _ _ _)
     k_here
     (rename News _ _ _ _ => N0)
     k_dflt (refine' beaded_nat ⟨?k1, ?k2, ?k3, ?k4, ?k5, ?k6, ?k7⟩ ?hN ?hbl ?ib ?hc0 ?hc1 ?hbn ?hm ?_)
     (case k1 => k_asm)
     (case k2 => k_asm)
     (case k3 => k_asm)
     (case k4 => k_asm)
     (case k5 => first | exact rfl | assumption)
     (case k6 => ktr_room)
     (case k7 => ktr_units)
     (case hN => (refine' news_pick N0 ?zb News.nil; (case zb => k_dflt k_mem)))
     (case hbl => (refine' News.isList N0 ?zc; (case zc => k_dflt k_mem)))
     (case ib => assumption)
     (case hc0 => omega)
     (case hc1 => omega)
     (case hbn => (simp only [List.length_map, List.length_take]; omega))
     (case hm => omega)
     intro rt t9 tc9 nn9 h9 tk9 rt1 F9 S9 N9
     have rt0 := Int.natCast_nonneg rt
     have N8 := newsUpd (by k_dflt k_upd) N0 S9 (newsGet N9 (List.Mem.head _))
     clear N9 S9
     (try dsimp only at N8)
     (try dsimp only)
     (try k_sweep)
     (try k_fold))
  k_with "call" => (
     (with_reducible show wpAny _ _ (call (Value.ref 249) _) _ _ _)
     k_here
     (rename News _ _ _ _ => N0)
     k_dflt (refine' number_spec (k := 2 + kw) (P := []) ⟨?k1, ?k2, ?k3, ?k4, ?k5, ?k6, ?k7⟩ ?hx (fun p hp => (nomatch hp)) (by decide) ?hk2 ?hk9 ?hb ?_)
     (case k1 => k_asm)
     (case k2 => k_asm)
     (case k3 => k_asm)
     (case k4 => k_asm)
     (case k5 => first | exact rfl | assumption)
     (case k6 => ktr_room)
     (case k7 => ktr_units)
     (case hx => (refine' numH_news ?na ?nb ?nc ?nd; (case na => assumption); (case nb => k_dflt k_mem); (case nc => k_dflt k_mem); (case nd => exact IntsAre.nil)))
     (case hk2 => omega)
     (case hk9 => omega)
     (case hb => exact TB.bs TB.nil (by omega) (by omega) _)
     intro t9 l9 vs9 n9 m9 h9 tk9 F9 S9 hn9 hn9' ho9 ho9' hi9
     have ne9 := newNe N0 hn9
     have ne9' := newNe N0 hn9'
     (simp only [AllNe, and_true] at ne9 ne9')
     have N9 := newsT (by assumption) N0 S9 hn9 hn9' ho9 ho9'
     clear N0
     (try dsimp only)
     (try k_sweep)
     (try k_fold))
  k_with "pyIter ref" => (
     (rename Fr _ _ _ _ => lF')
     (rename News _ _ _ _ => lN')
     (rename IsRange _ _ _ _ _ _ _ _ => rgX)
     (rename Obj => wo)
     have nL := allNeL lN'
     (simp only [AllNe, and_true] at nL)
     k_dflt (refine' law_loop (k := 2 + kw) ?l0 ?l1 rgX ?lr lF' (news_pick lN' ?p1 (news_pick lN' ?p2 (news_pick lN' ?p3 (news_pick lN' ?p4 (news_pick lN' ?p5 News.nil))))) ?lw ?lx ?lt ?lbb ?lc1 ?lc2 ?lo ?lq ?e1 ?e2 ?e3 ?turn ?done)
     (case l0 => k_dflt rfl)
     (case l1 => k_dflt rfl)
     (case lr => omega)
     (case e1 => k_dflt rfl)
     (case e2 => k_dflt rfl)
     (case e3 => k_dflt rfl)
     (case p2 => k_dflt k_mem)
     (case p3 => k_dflt k_mem)
     (case p4 => k_dflt k_mem)
     (case p5 => k_dflt k_mem)
     (case lw => assumption)
     (case p1 => k_dflt k_mem)
     (case lc1 => omega)
     (case lc2 => omega)
     (case lx => (refine' numH_newsX ?la ?lb ?lc ?ld; (case la => assumption); (case lb => k_dflt k_mem); (case lc => k_dflt k_mem); (case ld => assumption)))
     (case lt => (refine' numH_news ?na ?nb ?nc ?nd; (case na => assumption); (case nb => k_dflt k_mem); (case nc => k_dflt k_mem); (case nd => exact IntsAre.nil)))
     (case lbb => (refine' News.isList lN' ?zc; (case zc => k_dflt k_mem)))
     (case lo => (simp only [List.mem_cons, List.not_mem_nil, or_false, not_or]; refine ⟨neN ?_, neN ?_, neN ?_, neN ?_, neN ?_⟩ <;> omega))
     (case lq => (simp only [List.mem_cons, List.not_mem_nil, or_false, not_or]; refine ⟨neN ?_, neN ?_, neN ?_, neN ?_, neN ?_⟩ <;> omega))
     (case' turn => ((repeat (rename (@LT.lt Nat _ _ _ ∧ _) => q9; clear q9))
                     (repeat (rename (@Ne Nat _ _ ∧ _) => q9; clear q9))
                     intro i t u h tk I oI g rest c tc n1 ps us tl vx vt n2 n3 b P hi hodd hoc hIo lF lN hc0 hc1 hul TS0 hne hst
                     have na1 := hne.1; have na2 := hne.2.1; have na3 := hne.2.2.1; have na4 := hne.2.2.2.1; have na5 := hne.2.2.2.2.1; have na6 := hne.2.2.2.2.2.1; have na7 := hne.2.2.2.2.2.2.1; have na8 := hne.2.2.2.2.2.2.2.1; have na9 := hne.2.2.2.2.2.2.2.2
                     have nb1 := hst.1; have nb2 := hst.2.1; have nb3 := hst.2.2.1; have nb4 := hst.2.2.2.1; have nb5 := hst.2.2.2.2.1; have nb6 := hst.2.2.2.2.2
                     clear hne hst
                     have hrC := TS0.offC
                     have hrT := TS0.offT
                     have hrM := TS0.offM
                     have hkk : 2 ≤ 2 + kw := by omega))
     (case' done => ((repeat (rename (@LT.lt Nat _ _ _ ∧ _) => q9; clear q9))
                     (repeat (rename (@Ne Nat _ _ ∧ _) => q9; clear q9))
                     intro u h tk g rest c tc n1 ps us tl vx vt n2 n3 b P lF lN hul TS1
                     obtain ⟨xs, hxl, hxd⟩ := moms_data TS1.tf.moms
                     have hkk : 2 ≤ 2 + kw := by omega))
     all_goals (try dsimp only)
     all_goals (try k_fold))
  k_with "call" => (
     (with_reducible show wpAny _ _ (call (Value.ref 244) [_, Value.int 9 _]) _ _ _)
     k_here
     (rename News _ _ _ _ => N0)
     have GK := TS0.gk (frStays (by assumption)) (keptOf N0 (fun p hp => by k_dflt (repeat (first | exact hp | refine' List.Mem.tail _ ?_))))
     k_dflt (refine' beaded_nat ⟨?k1, ?k2, ?k3, ?k4, ?k5, ?k6, ?k7⟩ ?hN ?hbl ?ib ?hc0 ?hc1 ?hbn ?hm ?_)
     (case k1 => k_asm)
     (case k2 => k_asm)
     (case k3 => k_asm)
     (case k4 => k_asm)
     (case k5 => first | exact rfl | assumption)
     (case k6 => ktr_room)
     (case k7 => ktr_units)
     (case hN => (refine' news_pick N0 ?zb News.nil; (case zb => k_dflt k_mem)))
     (case hbl => exact list_keeps GK TS0.tf.bl)
     (case ib => assumption)
     (case hc0 => omega)
     (case hc1 => omega)
     (case hbn => (simp only [List.length_map, List.length_take]; omega))
     (case hm => omega)
     intro fm t9 tc9 nn9 h9 tk9 fm1 F9 S9 N9
     have fm0 := Int.natCast_nonneg fm
     have N8 := newsUpd (by k_dflt k_upd) N0 S9 (newsGet N9 (List.Mem.head _))
     clear N9 S9 GK
     (try dsimp only at N8)
     (try dsimp only)
     (try k_sweep)
     (try k_fold))
  k_with "call" => (
     (with_reducible show wpAny _ _ (call (Value.ref 244) [_, Value.int (3 * _) _]) _ _ _)
     k_here
     (rename News _ _ _ _ => N0)
     have GK := TS0.gk (frStays (by assumption)) (keptOf N0 (fun p hp => by k_dflt (repeat (first | exact hp | refine' List.Mem.tail _ ?_))))
     k_dflt (refine' beaded_nat ⟨?k1, ?k2, ?k3, ?k4, ?k5, ?k6, ?k7⟩ ?hN ?hbl ?ib ?hc0 ?hc1 ?hbn ?hm ?_)
     (case k1 => k_asm)
     (case k2 => k_asm)
     (case k3 => k_asm)
     (case k4 => k_asm)
     (case k5 => first | exact rfl | assumption)
     (case k6 => ktr_room)
     (case k7 => ktr_units)
     (case hN => (refine' news_pick N0 ?zb News.nil; (case zb => k_dflt k_mem)))
     (case hbl => exact list_keeps GK TS0.tf.bl)
     (case ib => assumption)
     (case hc0 => omega)
     (case hc1 => omega)
     (case hbn => (simp only [List.length_map, List.length_take]; omega))
     (case hm => omega)
     intro pl t9 tc9 nn9 h9 tk9 pl1 F9 S9 N9
     have pl0 := Int.natCast_nonneg pl
     have N8 := newsUpd (by k_dflt k_upd) N0 S9 (newsGet N9 (List.Mem.head _))
     clear N9 S9 GK
     (try dsimp only at N8)
     (try dsimp only)
     (try k_sweep)
     (try k_fold))
  k_with "ifexp" => (
     (with_reducible show wpAny _ _ (eval (PySem.Expr.IfExp (PySem.Expr.Compare _ [CmpOp.Lt] _ _) _ _ _) _) _ _ _)
     refine' ifexp_O (some (((if fm < 3 then pl else pl % (2 + kw + 2)) : Nat) : Int)) ?wa ?wb
     (case' wb => (intro v9 tk9 O9
                   obtain ⟨tn9, rfl⟩ := ovalS O9
                   have hnm := nm_bd (f := fm) pl1 kw1
                   generalize (if fm < 3 then pl else pl % (2 + kw + 2)) = nm at hnm ⊢))
     all_goals (try dsimp only)
     all_goals (try k_sweep)
     all_goals (try k_fold))
  k_with "len" => (
     k_here
     (rename News _ _ _ _ => N0)
     k_dflt (refine' mom_len (i := i + 1) N0 ?lm ?ll (by omega) ?_)
     (case lm => k_dflt k_mem)
     (case ll => (rw [List.length_append, hul]; rfl))
     (try dsimp only)
     (try k_fold))
  k_with "item" => (
     (with_reducible show wpAny _ _ (subscriptTail _ _ (Value.ref _) (Value.int (Int.fmod _ _) _)) _ _ _)
     k_here
     (rename News _ _ _ _ => N0)
     k_dflt (refine' mom_item (vs := us ++ [Value.ref tl]) N0 ?lm ?l0 ?l1 ?l2 ?_ ?ls)
     (case lm => k_dflt k_mem)
     (case l0 => exact Int.fmod_nonneg_of_pos _ (by omega))
     (case l1 => (rw [List.length_append, hul]; exact Int.fmod_lt_of_pos _ (by omega)))
     (case l2 => (have := Int.fmod_lt_of_pos (pl : Int) (show (0 : Int) < ((i + 1 : Nat) : Int) by omega); omega))
     (case ls => with_unfolding_all rfl)
     intro v9 hv9
     obtain ⟨tm, vmx, vmt, mb, mP, rfl, itm, nmx, nmt, tbm⟩ := TS0.tf.moms v9 hv9
     (try dsimp only)
     (try k_fold))
  k_with "item" => (
     (with_reducible show wpAny _ _ (subscriptTail _ _ (Value.ref _) (Value.int (-1) _)) _ _ _)
     k_here
     (rename News _ _ _ _ => N0)
     k_dflt (refine' mom_last (us := us) N0 ?lm ?_ ?ls)
     (case lm => k_dflt k_mem)
     (case ls => with_unfolding_all rfl)
     (try dsimp only)
     (try k_fold))
  k_with "call" => (
     (with_reducible show wpAny _ _ (call (Value.ref 280) [_, vx, _]) _ _ _)
     k_here
     (rename News _ _ _ _ => N0)
     (rename Fr _ _ _ _ => F0)
     have GK := TS0.gk (frStays (by assumption)) (keptOf N0 (fun p hp => by k_dflt (repeat (first | exact hp | refine' List.Mem.tail _ ?_))))
     k_dflt (refine' done_spec (f := fm) (k := 2 + kw) (n := nm) (by omega) ⟨?k1, ?k2, ?k3, ?k4, ?k5, ?k6, ?k7⟩ ?hx ?hd1 ?hd2 ?hy hkk (by omega) ?hbx ?hby ?hn ?hb2 ?_)
     (case k1 => k_asm)
     (case k2 => k_asm)
     (case k3 => k_asm)
     (case k4 => k_asm)
     (case k5 => first | exact rfl | assumption)
     (case k6 => ktr_room)
     (case k7 => ktr_units)
     (case hx => exact TS0.tf.nx.keeps GK)
     (case hd1 => (refine' News.isTup N0 ?zt; (case zt => k_dflt k_mem)))
     (case hd2 => exact tup_keeps GK itm)
     (case hy => exact nmx.keeps GK)
     (case hbx => exact TB.bx TS0.tf.tb (by omega) hkk b)
     (case hby => exact TB.bx tbm (by omega) hkk mb)
     (case hn => omega)
     (case hb2 => exact TB.bup TS0.tf.tb (by omega) hkk (by omega) b)
     intro xv h9 tk9 F9 S9 D9
     have N8 := newsK N0 S9
     have GK9 := TS.gk TS0 (frStays F9) (keptOf N8 (fun p hp => by k_dflt (repeat (first | exact hp | refine' List.Mem.tail _ ?_))))
     have tab9 := TS0.tab.stay (Stay1.of GK9)
     clear GK
     have NX := law_ledT TS0 (fm : Int) (nm : Int) tm N8 (by k_dflt k_mem) (by k_dflt k_mem) (by k_dflt k_mem) (by k_dflt k_mem) (by k_dflt k_mem) (by k_dflt k_mem) (by k_dflt k_mem)
     obtain ⟨g', rest', NR, TS9, SG, RN, RA⟩ := TS0.re F9 NX hodd (by assumption) GK9 tab9
     have N7 := law_relist NX NR
     have xN := RN _ _ D9
     replace itm := tup_keeps SG itm
     replace nmx := nmx.keeps SG
     replace nmt := nmt.keeps SG
     clear NX NR RA RN D9 tab9 GK9 N8 hrC hrT hrM TS0
     have hrT := TS9.offT
     have hrM := TS9.offM
     (try dsimp only)
     (try k_sweep)
     (try k_fold))
  k_with "call" => (
     (with_reducible show wpAny _ _ (call (Value.ref 273) _) _ _ _)
     k_here
     (rename News _ _ _ _ => N0)
     have GK := TS9.gk (frStays (by assumption)) (keptOf N0 (fun p hp => by k_dflt (repeat (first | exact hp | refine' List.Mem.tail _ ?_))))
     k_dflt (refine' due_spec (f := fm) (n := nm) (M := 27 * i) (by omega) ⟨?k1, ?k2, ?k3, ?k4, ?k5, ?k6, ?k7⟩ ?hN ?hT ?hd1 ?hd2 ?ht ?hm TS9.tf.tb tbm (by omega) (by omega) ?_)
     (case k1 => k_asm)
     (case k2 => k_asm)
     (case k3 => k_asm)
     (case k4 => k_asm)
     (case k5 => first | exact rfl | assumption)
     (case k6 => ktr_room)
     (case k7 => ktr_units)
     (case hN => (refine' news_pick N0 ?zb News.nil; (case zb => k_dflt k_mem)))
     (case hT => exact TS9.tab.stay (Stay1.of GK))
     (case hd1 => (refine' News.isTup N0 ?zt; (case zt => k_dflt k_mem)))
     (case hd2 => exact tup_keeps GK itm)
     (case ht => exact TS9.tf.nt.keeps GK)
     (case hm => exact nmt.keeps GK)
     intro b' P' zE tbE tv ps9 h9 tk9 F9 S9 N9 T9 D9
     have GK9 := TS9.gkT GK S9
     have N8 := newsUpd (by k_dflt k_upd) N0 (stay1B S9) (newsGet N9 (List.Mem.head _))
     have NX := law_ledT TS9 (fm : Int) (nm : Int) tm N8 (by k_dflt k_mem) (by k_dflt k_mem) (by k_dflt k_mem) (by k_dflt k_mem) (by k_dflt k_mem) (by k_dflt k_mem) (by k_dflt k_mem)
     obtain ⟨g'', rest'', NR, TSA, SG, RN, RA⟩ := TS9.re F9 NX hodd (by assumption) GK9 T9
     have N7 := law_relist NX NR
     have tN := RN _ _ D9
     replace xN := xN.keeps SG
     rw [← zE] at xN
     have tbN : TB P' (27 * (i + 1)) := tbE.mono (by omega)
     replace itm := tup_keeps SG itm
     replace nmx := nmx.keeps SG
     clear GK NX NR RA RN D9 T9 N9 S9 GK9 N8 hrT hrM nmt TS9 SG tbE
     have hrT := TSA.offT
     have hrM := TSA.offM
     (try dsimp only)
     (try k_sweep)
     (try k_fold))
  k_with "call" => (
     (with_reducible show wpAny _ _ (call (Value.ref 287) _) _ _ _)
     k_here
     (rename News _ _ _ _ => N0)
     have GK := TSA.gk (frStays (by assumption)) (keptOf N0 (fun p hp => by k_dflt (repeat (first | exact hp | refine' List.Mem.tail _ ?_))))
     k_dflt (refine' right_spec (b := b') (P := P') (k := 2 + kw) (n := pl) (M := 27 * (i + 1)) ⟨?k1, ?k2, ?k3, ?k4, ?k5, ?k6, ?k7⟩ ?hx ?ht tbN (by omega) (by omega) hkk (by omega) ?_)
     (case k1 => k_asm)
     (case k2 => k_asm)
     (case k3 => k_asm)
     (case k4 => k_asm)
     (case k5 => first | exact rfl | assumption)
     (case k6 => ktr_room)
     (case k7 => ktr_units)
     (case hx => exact xN.keeps GK)
     (case ht => exact tN.keeps GK)
     intro h9 tk9 F9 S9
     have N8 := newsK N0 S9
     clear GK N0
     (try dsimp only)
     (try k_sweep)
     (try k_fold))
  k_with "call" => (
     (with_reducible show wpAny _ _ (call (Value.ref 268) _) _ _ _)
     k_here
     (rename News _ _ _ _ => N0)
     have GK := TSA.gk (frStays (by assumption)) (keptOf N0 (fun p hp => by k_dflt (repeat (first | exact hp | refine' List.Mem.tail _ ?_))))
     k_dflt (refine' joined_spec (b1 := b') (b2 := b) (P1 := P') (P2 := P) (form := 2) (op := fun x y => x != y) ⟨?k1, ?k2, ?k3, ?k4, ?k5, ?k6, ?k7⟩ ?hf ?hN ?hT ?hx ?hy ?hp1 ?hp2 (fun ns9 p9 => ?_))
     (case k1 => k_asm)
     (case k2 => k_asm)
     (case k3 => k_asm)
     (case k4 => k_asm)
     (case k5 => first | exact rfl | assumption)
     (case k6 => ktr_room)
     (case k7 => ktr_units)
     (case hf => exact .inr (.inr ⟨rfl, rfl⟩))
     (case hN => (refine' news_pick N0 ?zb News.nil; (case zb => k_dflt k_mem)))
     (case hT => exact TSA.tab.stay (Stay1.of GK))
     (case hx => exact tN.keeps GK)
     (case hy => exact TSA.tf.nt.keeps GK)
     (case hp1 => exact tbN.pl (by omega))
     (case hp2 => exact TSA.tf.tb.pl (by omega))
     intro ta la wa na na' ps9 h9 tk9 F9 S9 N9 T9 I9
     have GK9 := TSA.gkT GK S9
     have N8 := newsUpd (by k_dflt k_upd) N0 (stay1B S9) (newsGet N9 (List.Mem.tail _ (List.Mem.tail _ (List.Mem.head _))))
     have NX := law_ledT TSA (fm : Int) (nm : Int) tm N8 (by k_dflt k_mem) (by k_dflt k_mem) (by k_dflt k_mem) (by k_dflt k_mem) (by k_dflt k_mem) (by k_dflt k_mem) (by k_dflt k_mem)
     obtain ⟨g3, rest3, NR, TSB, SG, RN, RA⟩ := TSA.re F9 NX hodd (by assumption) GK9 T9
     have N7 := news_pick N9 (List.Mem.head _) (news_pick N9 (List.Mem.tail _ (List.Mem.head _)) (law_relist NX NR))
     replace xN := xN.keeps SG
     replace tN := tN.keeps SG
     replace itm := tup_keeps SG itm
     replace nmx := nmx.keeps SG
     have tbO : TB P (27 * (i + 1)) := TSB.tf.tb.mono (by omega)
     (try dsimp only at I9 N7)
     have dta := ta_ne N7 (by k_dflt k_mem) (ws := us ++ [Value.ref tl]) (by k_dflt k_mem)
     have dla := la_ne N7 (wa := wa) (us := us) (tl := tl) (by k_dflt k_mem) (by k_dflt k_mem) I9
     clear GK NX NR RA RN T9 N9 S9 GK9 N8 hrT hrM TSA SG
     have hrT := TSB.offT
     have hrM := TSB.offM
     (try dsimp only)
     (try k_sweep)
     (try k_fold))
  k_with "call" => (
     (with_reducible show wpAny _ _ (call (Value.ref 202) _) _ _ _)
     k_here
     (rename News _ _ _ _ => N0)
     have GK := TSB.gk (frStays (by assumption)) (keptOf N0 (fun p hp => by k_dflt (repeat (first | exact hp | refine' List.Mem.tail _ ?_))))
     k_dflt (refine' distance_spec (k := 2 + kw) (z := zt b' P') (y0 := zt b P) ⟨?k1, ?k2, ?k3, ?k4, ?k5, ?k6, ?k7⟩ ?hx ?hy hkk (by omega) ?b1 ?b2 ?b3 ?_)
     (case k1 => k_asm)
     (case k2 => k_asm)
     (case k3 => k_asm)
     (case k4 => k_asm)
     (case k5 => first | exact rfl | assumption)
     (case k6 => ktr_room)
     (case k7 => ktr_units)
     (case hx => exact xN.keeps GK)
     (case hy => exact TSB.tf.nx.keeps GK)
     (case b1 => exact TB.bx tbN (by omega) hkk b')
     (case b2 => exact TB.bx tbO (by omega) hkk b)
     (case b3 => exact xor_bd tbN tbO p9 (by omega) hkk)
     intro v9 h9 tk9 F9 S9 D9
     have O9 := OVal.of D9
     rw [apart_cnt tbN tbO p9] at O9
     have N8 := newsK N0 S9
     clear GK N0 D9
     (try dsimp only)
     (try k_sweep)
     (try k_fold))
  k_with "ifexp" => (
     (with_reducible show wpAny _ _ (eval (PySem.Expr.IfExp (PySem.Expr.Subscript _ _ _) _ _ _) _) _ _ _)
     refine' ifexp_O (if (b' != b) = true then none else some ((ns9.filter fun n => jt (fun x y => x != y) b' b P' P n).length : Int)) ?wc ?wd
     (case' wd => intro v9 tk9 O9)
     all_goals (try dsimp only)
     all_goals (try k_sweep)
     all_goals (try k_fold))
  k_with "cmpin" => (
     k_here
     (rename News _ _ _ _ => N0)
     k_dflt (refine' in_tuple_ints (ns := [2, 5, 6, 7]) ?it ?ii ?_)
     (case it => (refine' News.isTup N0 ?im; (case im => k_dflt k_mem)))
     (case ii => exact IntsAre.cons _ _ (IntsAre.cons _ _ (IntsAre.cons _ _ (IntsAre.cons _ _ IntsAre.nil))))
     (try dsimp only)
     (try k_fold))
  k_with "ifexp" => (
     (with_reducible show wpAny _ _ (eval (PySem.Expr.IfExp (PySem.Expr.Compare _ [CmpOp.Eq] _ _) _ _ _) _) _ _ _)
     refine' ifexp_O (some (((if fm = 7 then 8 else fm) : Nat) : Int)) ?we ?wf
     (case' wf => (intro v9 tk9 O9
                   obtain ⟨tn9, rfl⟩ := ovalS O9
                   generalize hf2 : (if fm = 7 then 8 else fm) = f2))
     all_goals (try dsimp only)
     all_goals (try k_sweep)
     all_goals (try k_fold))
  k_with "call" => (
     (with_reducible show wpAny _ _ (call (Value.ref 280) [_, xv, _]) _ _ _)
     k_here
     (rename News _ _ _ _ => N0)
     have GK := TSB.gk (frStays (by assumption)) (keptOf N0 (fun p hp => by k_dflt (repeat (first | exact hp | refine' List.Mem.tail _ ?_))))
     k_dflt (refine' done_spec (f := f2) (k := 2 + kw) (n := nm) (z := zt b' P') (y0 := zt mb mP) ?hf ⟨?k1, ?k2, ?k3, ?k4, ?k5, ?k6, ?k7⟩ ?hx ?hd1 ?hd2 ?hy hkk (by omega) ?hbx ?hby ?hn ?hb2 ?_)
     (case k1 => k_asm)
     (case k2 => k_asm)
     (case k3 => k_asm)
     (case k4 => k_asm)
     (case k5 => first | exact rfl | assumption)
     (case k6 => ktr_room)
     (case k7 => ktr_units)
     (case hf => (rw [← hf2]; split <;> omega))
     (case hx => exact xN.keeps GK)
     (case hd1 => (refine' News.isTup N0 ?zt; (case zt => k_dflt k_mem)))
     (case hd2 => exact tup_keeps GK itm)
     (case hy => exact nmx.keeps GK)
     (case hbx => exact TB.bx tbN (by omega) hkk b')
     (case hby => exact TB.bx tbm (by omega) hkk mb)
     (case hn => omega)
     (case hb2 => exact TB.bup tbN (by omega) hkk (by omega) b')
     intro uv h9 tk9 F9 S9 D9
     have GU := newsK N0 S9
     rw [zE, ← hf2, undo_all (form_any (by assumption))] at D9
     clear GK N0
     (try dsimp only)
     (try k_sweep)
     (try k_fold))
  k_with "len" => (
     k_here
     (rename News _ _ _ _ => N0)
     k_dflt (refine' mom_len (vs := wa) (i := (ns9.filter fun n => jt (fun x y => x != y) b' b P' P n).length) N0 ?lm ?ll ?lz ?_)
     (case lm => k_dflt k_mem)
     (case ll => exact I9.length)
     (case lz => exact jt_len tbN tbO p9 (by omega))
     (try dsimp only)
     (try k_fold))
  k_with "cmpO" => (refine' o_ne ?ha ?hb ?_; (case ha => assumption); (case hb => assumption))
  k_with "cmpO" => (
     (rename News _ _ _ _ => N0)
     have GK := TSB.gk (frStays (by assumption)) (keptOf N0 (fun p hp => by k_dflt (repeat (first | exact hp | refine' List.Mem.tail _ ?_))))
     refine' num_ne (x := num (2 ^ (2 + kw)) (zt b P)) (y := num (2 ^ (2 + kw)) (zt b P)) ?hx ?hy rfl ?hu ?_
     (case hx => assumption)
     (case hy => exact TSB.tf.nx.keeps GK)
     (case hu => ktr_units)
     clear GK)
  k_with "comp" => (
     (with_reducible show wpAny _ _ (eval (PySem.Expr.ListComp _ [⟨_, PySem.Expr.Name _ _, _, _⟩] _ _) _) _ _ _)
     k_here
     k_dflt (refine PyProof.Rows.LCg.ListComp_U (F₀ := by k_asm) (by with_unfolding_all rfl) (by decide) (by rfl) (by decide) (by rfl) ?_))
  k_with "csrc" => (
     (with_reducible show PyProof.Rows.LCg.CompSrc _ _ _ _ _ _ _ (PySem.Expr.Subscript _ _ _) _ _ _ _ _ _)
     k_here
     (rename News _ _ _ _ => N0)
     (rename Fr _ _ _ _ => F0)
     k_dflt (refine PyProof.Rows.LCg.CompSrc.ledger (by rfl) F0 N0 (by k_mem) ?csz ?_)
     (case csz => (rw [List.size_toArray, List.length_append, hul, sizeLine_eq, List.length_singleton]; omega))
     intro g'
     k_dflt (refine' rest1 (vs := us ++ [Value.ref tl]) hxl hxd ?hS ?hG ?turn1 ?fin1)
     (case hS => exact Or.inr ⟨_, by k_dflt k_mem, rfl, _, rfl⟩)
     (case hG => exact fun h F kk => srcStays TS1.src (frStays F) (fun p hp => kk p (by k_dflt (repeat (first | exact hp | refine' List.Mem.tail _ ?_)))))
     (case' turn1 => intro t9 vx9 vt9 I9 oI9 C9 oC9 D9 m9 ys9 h9 tk9 E9 hC9 hx9 F9 N9 ht9)
     (case' fin1 => intro ys1 R1)
     all_goals (try dsimp only)
     all_goals (try k_fold))
  k_with "csrc" => (
     (with_reducible show PyProof.Rows.LCg.CompSrc _ _ _ _ _ _ _ (PySem.Expr.Call _ _ _ _) _ _ _ _ _ _)
     k_here
     (rename News _ _ _ _ => N0)
     (rename Fr _ _ _ _ => F0)
     k_dflt (refine PyProof.Rows.LCg.CompSrc.ledger (by rfl) F0 N0 (by k_mem) ?csz2 ?_)
     (case csz2 => (rw [List.size_toArray, List.length_append, hul, sizeLine_eq, List.length_singleton]; omega))
     intro g'
     k_dflt (refine' rest2 (vs := us ++ [Value.ref tl]) (wo := wo) hxl hxd ?hw2 ?hS2 ?hG2 ?turn2 ?fin2)
     (case hw2 => k_dflt k_mem)
     (case hS2 => exact fun acc => Or.inr ⟨_, List.mem_append.mpr (Or.inr (by k_dflt k_mem)), rfl, _, rfl⟩)
     (case hG2 => exact fun h F kk => srcStays TS1.src (frStays F) (fun p hp => kk p (by k_dflt (repeat (first | exact hp | refine' List.Mem.tail _ ?_)))))
     (case' turn2 => intro t9 vx9 vt9 y9 I9 oI9 C9 oC9 D9 m9 ys9 h9 tk9 E9 hC9 hx9 F9 N9 ht9 hn9 tb9)
     (case' fin2 => intro ys2 acc R2)
     all_goals (try dsimp only)
     all_goals (try k_fold))
  k_with "item" => (
     (with_reducible show wpAny _ _ (subscriptTail _ _ (Value.ref t9) _) _ _ _)
     k_dflt (refine' item_tuple (j := 0) (x := vx9) ht9 (by decide) (by decide) (by rfl) (by rfl) ?_ (by with_unfolding_all rfl) (by intro _; with_unfolding_all rfl))
     (try dsimp only)
     (try k_fold))
  k_with "item" => (
     (with_reducible show wpAny _ _ (subscriptTail _ _ (Value.ref t9) _) _ _ _)
     k_dflt (refine' item_tuple (j := 1) (x := vt9) ht9 (by decide) (by decide) (by rfl) (by rfl) ?_ (by with_unfolding_all rfl) (by intro _; with_unfolding_all rfl))
     (try dsimp only)
     (try k_fold))
  k_with "call" => (
     (with_reducible show wpAny _ _ (call (Value.ref 249) [vt9, _]) _ _ _)
     k_here
     k_dflt (refine' number_spec (k := 2 + kw) (b := y9.1) (P := y9.2) ⟨?k1, ?k2, ?k3, ?k4, ?k5, ?k6, ?k7⟩ hn9 (tb9.pp (by omega)) (tb9.pl (by omega)) hkk (by omega) (TB.bs tb9 (by omega) hkk y9.1) ?_)
     (case k1 => k_asm)
     (case k2 => k_asm)
     (case k3 => k_asm)
     (case k4 => k_asm)
     (case k5 => first | exact rfl | assumption)
     (case k6 => ktr_room)
     (case k7 => ktr_units)
     intro t8 l8 vs8 n8 n8' h8 tk8 F8 S8 z1 z2 z3 z4 z5
     (try dsimp only)
     (try k_fold))
  k_with "cmpeq" => (
     (rename News _ _ _ _ => N0)
     k_dflt (refine' moms_eq (k := 2 + kw) (xs := xs) (ys := ys1) (zs := ys2) N0 ?m1 ?m2 ?r1 ?r2 ?hu ?_)
     (case m1 => k_dflt (first | k_mem | (refine' List.Mem.tail _ (List.mem_append.mpr (Or.inr ?_)); k_mem)))
     (case m2 => k_dflt k_mem)
     (case r1 => exact R1.keeps (srcStays TS1.src (frStays (by assumption)) (keptOf N0 (fun p hp => by k_dflt (refine' List.Mem.tail _ (List.mem_append.mpr (Or.inr ?_)); (repeat (first | exact hp | refine' List.Mem.tail _ ?_)))))))
     (case r2 => exact R2 _ (keptOf N0 (fun p hp => List.Mem.tail _ (List.mem_append.mpr (Or.inl hp)))))
     (case hu => ktr_units)
     have N8 := news_265 N0 (by k_dflt (first | k_mem | (refine' List.Mem.tail _ (List.mem_append.mpr (Or.inr ?_)); k_mem)))
     clear N0
     (try dsimp only)
     (try k_fold))
  k_with "ends" => first
    | exact ⟨rfl, _, rfl⟩
    | exact ⟨_, _, _, _, _, _, _, rfl, rfl, F8, S8, z1, z2, z3, z4, z5⟩
    | exact ⟨_, rfl⟩
  k_with "ends" => first
    | exact ⟨_, rfl, oval_f1 (by assumption)⟩
    | exact ⟨_, rfl, oval_f2 (by assumption)⟩
    | exact ⟨_, rfl, oval_none (by assumption)⟩
    | exact ⟨_, rfl, oval_some (by assumption)⟩
    | exact ⟨_, rfl, oval_some' (by assumption)⟩
    | exact oval_g1 (by assumption)
    | exact oval_g2 (by assumption)
    | exact oval_none (by assumption)
    | exact oval_some (by assumption)
    | exact oval_some' (by assumption)
  k_with "ends" => (
     (with_reducible show TEnd _ _ _ _ _ _ _ _ _)
     (rename News _ _ _ _ => N0)
     (rename Fr _ _ _ _ => F0)
     have GK := TSB.gk (frStays (by assumption)) (keptOf N0 (fun p hp => by k_dflt (repeat (first | exact hp | refine' List.Mem.tail _ ?_))))
     k_dflt (refine' turnEnd2 TSB F0 (news_pick N0 ?p1 (news_pick N0 ?p2 (news_pick N0 ?p3 (news_pick N0 ?p4 (news_pick N0 ?p5 (news_pick N0 ?p6 News.nil)))))) hodd hoc ?rw GK (xN.keeps GK) (tN.keeps GK) tbN hIo hc0 hc1 hul ?e1 ?e2 ?e3)
     (case p1 => k_dflt k_mem)
     (case p2 => k_dflt k_mem)
     (case p3 => k_dflt k_mem)
     (case p4 => k_dflt k_mem)
     (case p5 => (refine' n_push ?pq; (case pq => k_dflt k_mem)))
     (case p6 => k_dflt k_mem)
     (case rw => assumption)
     (case e1 => k_dflt rfl)
     (case e2 => k_dflt rfl)
     (case e3 => k_dflt rfl))
  k_with "kcfel" => exact kcf_el rfl rfl rfl
  k_steps

end Mine
open PySem PySem.W PyProof.Rows
theorem PySem.Challenge.cw_sj0080_01_holds : PySem.Challenge.rw_sj0080_01.Holds := by
  exact Mine.law_holds
