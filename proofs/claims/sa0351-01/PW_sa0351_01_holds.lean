import PyProof.Rows.All
import Wide.All
import OpenK.AllK
import Wide.FinOn
import PySem.Challenge.RW_sa0351_01
open PySem PySem.W PyProof.Rows PySem.Calls PySem.Spec
set_option Elab.async false
set_option maxRecDepth 100000
set_option linter.unusedVariables false
set_option genSizeOf false
set_option genInjectivity false
set_option maxHeartbeats 2000000
namespace Mine
-- part head
noncomputable abbrev PW : Program := PySem.Challenge.pw_sa0351_01
noncomputable def hS (s : String) (t : Nat) : Value := .str (Str.ofString s) t
noncomputable def hE (P : Params) (k : String) (t : Nat) (v : Value) : DictEntry := ⟨PyData.keyHash P (Str.ofString k), .str (Str.ofString k) t, v⟩
noncomputable def hTup (vs : List Value) : Obj := { cls := .type "tuple", data := .seq ⟨vs⟩ }
noncomputable def hTab (vs : List Value) : Obj := { cls := .none, data := .fields ⟨vs⟩ }
noncomputable def hSt (i : Nat) : Stmt := match (PW.main.body)[i]? with
  | some s => s
  | none => .Pass ⟨0, 0, 0, 0⟩
noncomputable def hNm : List Str → Nat → List Value
  | [], _ => []
  | x :: r, t => .str x t :: hNm r (t + 1)
noncomputable def hFun (st : Stmt) (mod : String) (mt c : Nat) : Obj := match st with
  | .FunctionDef name args body _ _ _ scope _ _ _ => { cls := .type "function", data := .func { name := name, qualname := name, params := args, body := .stmts body, scope := scope, globals := 3, closure := [], defaults := .none, kwdefaults := .none, pyModule := hS mod mt, code := .ref c } }
  | _ => hTup []
noncomputable def hFun0 (st : Stmt) : Obj := match st with
  | .FunctionDef name args body _ _ _ scope _ _ _ => { cls := .none, data := .func { name := name, qualname := name, params := args, body := .stmts body, scope := scope, globals := 0, closure := [], defaults := .none, kwdefaults := .none } }
  | _ => hTup []
noncomputable def hCode (st : Stmt) (a T n : Nat) (k7 : Bool) : Obj := match st with
  | .FunctionDef name args _ _ _ _ _ _ _ p => { cls := .type "code", data := .fields ⟨[.str name T, .str name (T + 1), hS "/claim/cut.py" (T + 2), .int p.line 0, .int args.args.length 0, .int 0 0, .int 0 0, .int 3 0, .ref a, .bool true, .int 181 0, .ref (a + 1), .none,
      (match k7 with | true => .ref (a + 2) | false => .none), (match k7 with | true => .ref (a + 3) | false => .none), (match k7 with | true => .ref (a + 4) | false => .ref (a + 2)), .int (T + 3 + n : Nat) 0, .int p.line 0, hS "/claim/cut.py" (T + 4 + n)]⟩ }
  | _ => hTup []
noncomputable def hLocs (st : Stmt) : List Str := match st with
  | .FunctionDef _ _ _ _ _ _ scope _ _ _ => (scope.names.filter fun x => x.2 == .local || x.2 == .cell).map (·.1)
  | _ => []
noncomputable def hCells (st : Stmt) : List Str := match st with
  | .FunctionDef _ _ _ _ _ _ scope _ _ _ => (scope.names.filter fun x => x.2 == .cell).map (·.1)
  | _ => []
noncomputable def hFn (mod : String) (mt i a T : Nat) (k7 : Bool) : List Obj := match k7 with
  | true => [hTup [], hTab [], hTup (hNm (hLocs (hSt i)) (T + 3)), hTup (hNm (hCells (hSt i)) (T + 3 + (hLocs (hSt i)).length)), hFun0 (hSt i), hCode (hSt i) a T ((hLocs (hSt i)).length + (hCells (hSt i)).length) true, hFun (hSt i) mod mt (a + 5)]
  | false => [hTup [], hTab [], hFun0 (hSt i), hCode (hSt i) a T 0 false, hFun (hSt i) mod mt (a + 3)]
noncomputable def hBinds : List (String × Nat × Nat × Nat × Nat) := [("GmpError", 208, 24, 2, 20), ("DivisionByZero", 224, 37, 4, 33), ("NoInverse", 240, 49, 6, 45), ("OutOfRange", 256, 61, 8, 57), ("normal", 264, 70, 10, 69), ("is_even", 271, 77, 15, 76), ("compare", 280, 84, 17, 83), ("add", 293, 91, 24, 90), ("sub", 307, 98, 39, 97), ("lifted", 315, 105, 48, 104), ("add_at", 325, 112, 50, 111), ("divrem_limb", 337, 119, 56, 118), ("shift_left", 352, 126, 65, 125), ("shift_right", 367, 133, 77, 132), ("bits", 375, 140, 84, 139), ("bit", 384, 147, 86, 146), ("low", 395, 154, 88, 153), ("piece", 404, 161, 93, 160), ("trailing", 414, 168, 95, 167), ("inverse_limb", 427, 175, 101, 174), ("low_limbs", 435, 182, 110, 181), ("complement", 441, 187, 112, 186), ("inverse_low", 455, 194, 116, 193), ("barrett_make", 466, 201, 129, 200), ("barrett_once", 481, 208, 133, 207), ("barrett_divrem", 496, 215, 142, 214), ("barrett_rest", 506, 222, 151, 221), ("Montgomery", 541, 239, 153, 228), ("doubled_rest", 551, 250, 160, 249), ("mont_make", 562, 257, 163, 256), ("add_row", 576, 264, 173, 263), ("taken_once", 585, 271, 185, 270), ("redc", 599, 278, 187, 277), ("to_mont", 609, 285, 196, 284), ("from_mont", 618, 292, 200, 291), ("mont_mul", 629, 299, 202, 298), ("odd_powers", 643, 306, 205, 305), ("window_at", 656, 313, 210, 312), ("by_windows", 674, 320, 218, 319), ("check_modulus", 681, 327, 237, 326), ("unit_rest", 688, 334, 240, 333), ("divided_times", 703, 341, 242, 340), ("barrett_times", 716, 348, 247, 347), ("mont_times", 729, 355, 252, 354), ("low_times", 742, 362, 257, 361), ("power_mod", 756, 369, 262, 368), ("power_barrett", 771, 376, 266, 375), ("power_mont", 787, 383, 271, 382), ("power_low", 800, 390, 276, 389), ("power_any", 820, 397, 279, 396), ("ladder", 836, 404, 291, 403), ("two_powers", 856, 411, 301, 410), ("window_size", 864, 418, 312, 417), ("power_best", 877, 425, 317, 424), ("many_products", 883, 430, 322, 429), ("mul_school", 901, 437, 335, 436), ("divrem_small", 912, 444, 345, 443), ("guessed_limb", 926, 451, 348, 450), ("take_away", 942, 458, 356, 457), ("put_back", 956, 465, 365, 464), ("divide_rows", 969, 472, 372, 471), ("divrem_school", 982, 479, 382, 478), ("_law_grain", 992, 486, 396, 485), ("_law_limbs", 1001, 493, 401, 492), ("_law_raised", 1007, 498, 407, 497), ("law", 1013, 503, 424, 502)]
noncomputable def hEs (P : Params) : Nat → List (String × Nat × Nat × Nat × Nat) → List DictEntry
  | 0, _ => []
  | _, [] => []
  | n + 1, (x, t, a, _, _) :: r => hE P x t (.ref a) :: hEs P n r
noncomputable def hCs : Nat → List (String × Nat × Nat × Nat × Nat) → List Value
  | 0, _ => []
  | _, [] => []
  | n + 1, (_, _, _, l, c) :: r => .int l 0 :: .int 0 0 :: .ref c :: hCs n r
noncomputable def hGl (P : Params) (mod : String) (mt n : Nat) : Obj := { cls := .type "dict", data := .dict ⟨hE P "__name__" 165 (hS mod mt) :: hE P "__doc__" 166 .none :: hE P "__package__" 167 .none :: hE P "__loader__" 168 (.builtin "__main__.__loader__#opaque") :: hE P "__spec__" 169 .none ::
  hE P "__annotations__" 170 (.ref 6) :: hE P "__builtins__" 171 (.ref 4) :: hE P "__file__" 173 (hS "/claim/cut.py" 172) :: hE P "__cached__" 174 .none :: hEs P n hBinds⟩ (9 + n) }
noncomputable def hStat (P : Params) : Obj := { cls := .none, data := .dict #[hE P "type.__subclasses__.Exception.0" 205 ((.int 24 0)), hE P "type.__subclasses__.Exception.n" 206 ((.int 1 0))] 2 }
noncomputable def hO11 : Obj := { cls := (Value.type "tuple"), data := .seq #[] }
noncomputable def hO13 : Obj := { cls := (Value.type "code"), data := .fields #[(hS "<module>" 182), (hS "<module>" 183), (hS "/claim/cut.py" 184), (.int 1 0), (.int 0 0), (.int 0 0), (.int 0 0), (.int 0 0), (.ref 11), (.bool false), (.int 181 0), (.ref 12), .none, .none, .none, .none, (.int 185 0), (.int 1 0), (hS "/claim/cut.py" 186)] }
noncomputable def hO14 : Obj := { cls := (Value.type "frame"), slots := #[some ((.ref 13)), some ((.ref 3)), some ((.ref 3)), none, some ((hS "__main__" 164)), none, some ((.ref 0))] }
noncomputable def hCls (P : Params) : List Obj := [
  { cls := (Value.type "tuple"), data := .seq #[(.type "Exception")] },
  { cls := (Value.type "builtin_function_or_method"), data := .fields #[(.builtin "type.__prepare__"), (.type "type")] },
  { cls := (Value.type "dict"), data := .dict #[hE P "__module__" 196 ((hS "gmp.limbs" 187)), hE P "__qualname__" 198 ((hS "GmpError" 197)), hE P "__firstlineno__" 200 ((.int 2 199)), hE P "__static_attributes__" 201 ((.ref 22))] 4 },
  { cls := (Value.type "tuple"), data := .seq #[] },
  { cls := .none, data := .fields #[] },
  { cls := (Value.type "code"), data := .fields #[(hS "GmpError" 191), (hS "GmpError" 192), (hS "/claim/cut.py" 193), (.int 2 0), (.int 0 0), (.int 0 0), (.int 0 0), (.int 0 0), (.ref 18), (.bool false), (.int 181 0), (.ref 19), .none, .none, .none, .none, (.int 194 0), (.int 2 0), (hS "/claim/cut.py" 195)] },
  { cls := (Value.type "frame"), slots := #[some ((.ref 20)), some ((.ref 3)), some ((.ref 17)), none, some ((hS "gmp.limbs" 187)), none, some ((.ref 0))] },
  { cls := (Value.type "tuple"), data := .seq #[] },
  { cls := (Value.type "dict"), data := .dict #[hE P "__module__" 196 ((hS "gmp.limbs" 187)), hE P "__firstlineno__" 200 ((.int 2 199)), hE P "__static_attributes__" 201 ((.ref 22)), hE P "__weakref__" 203 ((.ref 25)), hE P "__doc__" 204 (.none)] 3 },
  { cls := (Value.type "type"), data := .cls { name := Str.ofString "GmpError", bases := [(.type "Exception")], mro := [(.ref 24), (.type "Exception"), (.type "BaseException"), (.type "object")], ns := 23, qualname := Str.ofString "GmpError", subclasses := [(.ref 37), (.ref 49), (.ref 61)] }, slots := #[some ((.ref 15)), none, some ((hS "GmpError" 189)), some ((hS "GmpError" 197)), some ((.builtin "Exception.__new__")), some ((.bool true))] },
  { cls := (Value.type "getset_descriptor"), data := .fields #[(hS "__weakref__" 202), (.ref 24), (.builtin "ExceptionGroup.__weakref__"), .none] },
  { cls := (Value.type "super"), data := .fields #[(.ref 24), (.ref 24), (.ref 24)] },
  { cls := (Value.type "builtin_function_or_method"), data := .fields #[(.builtin "object.__init_subclass__"), (.ref 24)] },
  { cls := (Value.type "tuple"), data := .seq #[(.ref 24)] },
  { cls := (Value.type "builtin_function_or_method"), data := .fields #[(.builtin "type.__prepare__"), (.type "type")] },
  { cls := (Value.type "dict"), data := .dict #[hE P "__module__" 216 ((hS "gmp.limbs" 187)), hE P "__qualname__" 218 ((hS "DivisionByZero" 217)), hE P "__firstlineno__" 220 ((.int 4 219)), hE P "__static_attributes__" 221 ((.ref 35))] 4 },
  { cls := (Value.type "tuple"), data := .seq #[] },
  { cls := .none, data := .fields #[] },
  { cls := (Value.type "code"), data := .fields #[(hS "DivisionByZero" 211), (hS "DivisionByZero" 212), (hS "/claim/cut.py" 213), (.int 4 0), (.int 0 0), (.int 0 0), (.int 0 0), (.int 0 0), (.ref 31), (.bool false), (.int 181 0), (.ref 32), .none, .none, .none, .none, (.int 214 0), (.int 4 0), (hS "/claim/cut.py" 215)] },
  { cls := (Value.type "frame"), slots := #[some ((.ref 33)), some ((.ref 3)), some ((.ref 30)), none, some ((hS "gmp.limbs" 187)), none, some ((.ref 0))] },
  { cls := (Value.type "tuple"), data := .seq #[] },
  { cls := (Value.type "dict"), data := .dict #[hE P "__module__" 216 ((hS "gmp.limbs" 187)), hE P "__firstlineno__" 220 ((.int 4 219)), hE P "__static_attributes__" 221 ((.ref 35)), hE P "__doc__" 222 (.none)] 2 },
  { cls := (Value.type "type"), data := .cls { name := Str.ofString "DivisionByZero", bases := [(.ref 24)], mro := [(.ref 37), (.ref 24), (.type "Exception"), (.type "BaseException"), (.type "object")], ns := 36, qualname := Str.ofString "DivisionByZero" }, slots := #[some ((.ref 28)), none, some ((hS "DivisionByZero" 209)), some ((hS "DivisionByZero" 217)), some ((.builtin "Exception.__new__")), some ((.bool true))] },
  { cls := (Value.type "super"), data := .fields #[(.ref 37), (.ref 37), (.ref 37)] },
  { cls := (Value.type "builtin_function_or_method"), data := .fields #[(.builtin "object.__init_subclass__"), (.ref 37)] },
  { cls := (Value.type "tuple"), data := .seq #[(.ref 24)] },
  { cls := (Value.type "builtin_function_or_method"), data := .fields #[(.builtin "type.__prepare__"), (.type "type")] },
  { cls := (Value.type "dict"), data := .dict #[hE P "__module__" 232 ((hS "gmp.limbs" 187)), hE P "__qualname__" 234 ((hS "NoInverse" 233)), hE P "__firstlineno__" 236 ((.int 6 235)), hE P "__static_attributes__" 237 ((.ref 47))] 4 },
  { cls := (Value.type "tuple"), data := .seq #[] },
  { cls := .none, data := .fields #[] },
  { cls := (Value.type "code"), data := .fields #[(hS "NoInverse" 227), (hS "NoInverse" 228), (hS "/claim/cut.py" 229), (.int 6 0), (.int 0 0), (.int 0 0), (.int 0 0), (.int 0 0), (.ref 43), (.bool false), (.int 181 0), (.ref 44), .none, .none, .none, .none, (.int 230 0), (.int 6 0), (hS "/claim/cut.py" 231)] },
  { cls := (Value.type "frame"), slots := #[some ((.ref 45)), some ((.ref 3)), some ((.ref 42)), none, some ((hS "gmp.limbs" 187)), none, some ((.ref 0))] },
  { cls := (Value.type "tuple"), data := .seq #[] },
  { cls := (Value.type "dict"), data := .dict #[hE P "__module__" 232 ((hS "gmp.limbs" 187)), hE P "__firstlineno__" 236 ((.int 6 235)), hE P "__static_attributes__" 237 ((.ref 47)), hE P "__doc__" 238 (.none)] 2 },
  { cls := (Value.type "type"), data := .cls { name := Str.ofString "NoInverse", bases := [(.ref 24)], mro := [(.ref 49), (.ref 24), (.type "Exception"), (.type "BaseException"), (.type "object")], ns := 48, qualname := Str.ofString "NoInverse" }, slots := #[some ((.ref 40)), none, some ((hS "NoInverse" 225)), some ((hS "NoInverse" 233)), some ((.builtin "Exception.__new__")), some ((.bool true))] },
  { cls := (Value.type "super"), data := .fields #[(.ref 49), (.ref 49), (.ref 49)] },
  { cls := (Value.type "builtin_function_or_method"), data := .fields #[(.builtin "object.__init_subclass__"), (.ref 49)] },
  { cls := (Value.type "tuple"), data := .seq #[(.ref 24)] },
  { cls := (Value.type "builtin_function_or_method"), data := .fields #[(.builtin "type.__prepare__"), (.type "type")] },
  { cls := (Value.type "dict"), data := .dict #[hE P "__module__" 248 ((hS "gmp.limbs" 187)), hE P "__qualname__" 250 ((hS "OutOfRange" 249)), hE P "__firstlineno__" 252 ((.int 8 251)), hE P "__static_attributes__" 253 ((.ref 59))] 4 },
  { cls := (Value.type "tuple"), data := .seq #[] },
  { cls := .none, data := .fields #[] },
  { cls := (Value.type "code"), data := .fields #[(hS "OutOfRange" 243), (hS "OutOfRange" 244), (hS "/claim/cut.py" 245), (.int 8 0), (.int 0 0), (.int 0 0), (.int 0 0), (.int 0 0), (.ref 55), (.bool false), (.int 181 0), (.ref 56), .none, .none, .none, .none, (.int 246 0), (.int 8 0), (hS "/claim/cut.py" 247)] },
  { cls := (Value.type "frame"), slots := #[some ((.ref 57)), some ((.ref 3)), some ((.ref 54)), none, some ((hS "gmp.limbs" 187)), none, some ((.ref 0))] },
  { cls := (Value.type "tuple"), data := .seq #[] },
  { cls := (Value.type "dict"), data := .dict #[hE P "__module__" 248 ((hS "gmp.limbs" 187)), hE P "__firstlineno__" 252 ((.int 8 251)), hE P "__static_attributes__" 253 ((.ref 59)), hE P "__doc__" 254 (.none)] 2 },
  { cls := (Value.type "type"), data := .cls { name := Str.ofString "OutOfRange", bases := [(.ref 24)], mro := [(.ref 61), (.ref 24), (.type "Exception"), (.type "BaseException"), (.type "object")], ns := 60, qualname := Str.ofString "OutOfRange" }, slots := #[some ((.ref 52)), none, some ((hS "OutOfRange" 241)), some ((hS "OutOfRange" 249)), some ((.builtin "Exception.__new__")), some ((.bool true))] },
  { cls := (Value.type "super"), data := .fields #[(.ref 61), (.ref 61), (.ref 61)] },
  { cls := (Value.type "builtin_function_or_method"), data := .fields #[(.builtin "object.__init_subclass__"), (.ref 61)] }]
noncomputable def hInit : Stmt := match hSt 30 with
  | .ClassDef _ _ _ (s :: _) _ _ _ _ _ _ _ => s
  | _ => .Pass ⟨0, 0, 0, 0⟩
noncomputable def hInitF (g : Nat) : Obj := match hInit with
  | .FunctionDef name args body _ _ _ scope _ _ _ => (match g with
    | 0 => { cls := .none, data := .func { name := name, qualname := Str.ofString "Montgomery.__init__", params := args, body := .stmts body, scope := scope, globals := 0, closure := [], defaults := .none, kwdefaults := .none } }
    | _ => { cls := .type "function", data := .func { name := name, qualname := Str.ofString "Montgomery.__init__", params := args, body := .stmts body, scope := scope, globals := 3, closure := [], defaults := .none, kwdefaults := .none, pyModule := hS "gmp.reduce" 456, code := .ref 235 } })
  | _ => hTup []
noncomputable def hM223 (P : Params) : Obj := { cls := (Value.type "tuple"), data := .seq #[] }
noncomputable def hM224 (P : Params) : Obj := { cls := (Value.type "builtin_function_or_method"), data := .fields #[(.builtin "type.__prepare__"), (.type "type")] }
noncomputable def hM225 (P : Params) : Obj := { cls := (Value.type "dict"), data := .dict #[hE P "__module__" 514 ((hS "gmp.reduce" 456)), hE P "__qualname__" 516 ((hS "Montgomery" 515)), hE P "__firstlineno__" 518 ((.int 153 517)), hE P "__init__" 529 ((.ref 236)), hE P "__static_attributes__" 534 ((.ref 237))] 5 }
noncomputable def hM226 (P : Params) : Obj := { cls := (Value.type "tuple"), data := .seq #[] }
noncomputable def hM227 (P : Params) : Obj := { cls := .none, data := .fields #[(.int 155 0), (.int 4 0), (.ref 235)] }
noncomputable def hM228 (P : Params) : Obj := { cls := (Value.type "code"), data := .fields #[(hS "Montgomery" 509), (hS "Montgomery" 510), (hS "/claim/cut.py" 511), (.int 153 0), (.int 0 0), (.int 0 0), (.int 0 0), (.int 0 0), (.ref 226), (.bool false), (.int 181 0), (.ref 227), .none, .none, .none, .none, (.int 512 0), (.int 153 0), (hS "/claim/cut.py" 513)] }
noncomputable def hM229 (P : Params) : Obj := { cls := (Value.type "frame"), slots := #[some ((.ref 228)), some ((.ref 3)), some ((.ref 225)), none, some ((hS "gmp.reduce" 456)), none, some ((.ref 0))] }
noncomputable def hM230 (P : Params) : Obj := { cls := (Value.type "tuple"), data := .seq #[] }
noncomputable def hM231 (P : Params) : Obj := { cls := .none, data := .fields #[] }
noncomputable def hM232 (P : Params) : Obj := { cls := (Value.type "tuple"), data := .seq #[(hS "self" 522), (hS "modulus" 523), (hS "minus" 524), (hS "one" 525), (hS "square" 526)] }
noncomputable def hM233 (P : Params) : Obj := { cls := (Value.type "tuple"), data := .seq #[] }
noncomputable def hM234 (P : Params) : Obj := hInitF 0
noncomputable def hM235 (P : Params) : Obj := { cls := (Value.type "code"), data := .fields #[(hS "__init__" 519), (hS "Montgomery.__init__" 520), (hS "/claim/cut.py" 521), (.int 155 0), (.int 5 0), (.int 0 0), (.int 0 0), (.int 3 0), (.ref 230), (.bool true), (.int 181 0), (.ref 231), .none, (.ref 232), (.ref 233), (.ref 234), (.int 527 0), (.int 155 0), (hS "/claim/cut.py" 528)] }
noncomputable def hM236 (P : Params) : Obj := hInitF 3
noncomputable def hM237 (P : Params) : Obj := { cls := (Value.type "tuple"), data := .seq #[(hS "minus" 530), (hS "modulus" 531), (hS "one" 532), (hS "square" 533)] }
noncomputable def hM238 (P : Params) : Obj := { cls := (Value.type "dict"), data := .dict #[hE P "__module__" 514 ((hS "gmp.reduce" 456)), hE P "__firstlineno__" 518 ((.int 153 517)), hE P "__init__" 529 ((.ref 236)), hE P "__static_attributes__" 534 ((.ref 237)), hE P "__dict__" 536 ((.ref 240)), hE P "__weakref__" 538 ((.ref 241)), hE P "__doc__" 539 (.none)] 4 }
noncomputable def hM239 (P : Params) : Obj := { cls := (Value.type "type"), data := .cls { name := Str.ofString "Montgomery", bases := [(.type "object")], mro := [(.ref 239), (.type "object")], ns := 238, qualname := Str.ofString "Montgomery" }, slots := #[none, none, some ((hS "Montgomery" 507)), some ((hS "Montgomery" 515)), some ((.builtin "object.__new__")), some ((.bool true))] }
noncomputable def hM240 (P : Params) : Obj := { cls := (Value.type "getset_descriptor"), data := .fields #[(hS "__dict__" 535), (.ref 239), (.builtin "function.__dict__"), (.builtin "function.__dict__#set")] }
noncomputable def hM241 (P : Params) : Obj := { cls := (Value.type "getset_descriptor"), data := .fields #[(hS "__weakref__" 537), (.ref 239), (.builtin "ExceptionGroup.__weakref__"), .none] }
noncomputable def hM242 (P : Params) : Obj := { cls := (Value.type "super"), data := .fields #[(.ref 239), (.ref 239), (.ref 239)] }
noncomputable def hM243 (P : Params) : Obj := { cls := (Value.type "builtin_function_or_method"), data := .fields #[(.builtin "object.__init_subclass__"), (.ref 239)] }
noncomputable def hMont (P : Params) : List Obj := [hM223 P, hM224 P, hM225 P, hM226 P, hM227 P, hM228 P, hM229 P, hM230 P, hM231 P, hM232 P, hM233 P, hM234 P, hM235 P, hM236 P, hM237 P, hM238 P, hM239 P, hM240 P, hM241 P, hM242 P, hM243 P]
noncomputable def hSeg18 (P : Params) : List Obj := hFn "gmp.limbs" 187 5 64 257 true ++ (hFn "gmp.limbs" 187 6 71 265 true ++ (hFn "gmp.limbs" 187 7 78 272 true ++ (hFn "gmp.limbs" 187 8 85 281 true ++ (hFn "gmp.limbs" 187 9 92 294 true ++ (hFn "gmp.limbs" 187 10 99 308 true ++ (hFn "gmp.limbs" 187 11 106 316 true ++ (hFn "gmp.limbs" 187 12 113 326 true ++ (hFn "gmp.limbs" 187 13 120 338 true ++ (hFn "gmp.limbs" 187 14 127 353 true ++ (hFn "gmp.limbs" 187 15 134 368 true ++ (hFn "gmp.limbs" 187 16 141 376 true ++ (hFn "gmp.limbs" 187 17 148 385 true))))))))))))
noncomputable def hSeg31 (P : Params) : List Obj := hFn "gmp.limbs" 187 18 155 396 true ++ (hFn "gmp.limbs" 187 19 162 405 true ++ (hFn "gmp.hensel" 415 21 169 417 true ++ (hFn "gmp.hensel" 415 22 176 428 true ++ (hFn "gmp.hensel" 415 23 183 436 false ++ (hFn "gmp.hensel" 415 24 188 442 true ++ (hFn "gmp.reduce" 456 26 195 458 true ++ (hFn "gmp.reduce" 456 27 202 467 true ++ (hFn "gmp.reduce" 456 28 209 482 true ++ (hFn "gmp.reduce" 456 29 216 497 true ++ (hMont P))))))))))
noncomputable def hSeg51 (P : Params) : List Obj := hFn "gmp.reduce" 456 31 244 542 true ++ (hFn "gmp.reduce" 456 32 251 552 true ++ (hFn "gmp.reduce" 456 33 258 563 true ++ (hFn "gmp.reduce" 456 34 265 577 true ++ (hFn "gmp.reduce" 456 35 272 586 true ++ (hFn "gmp.reduce" 456 36 279 600 true ++ (hFn "gmp.reduce" 456 37 286 610 true ++ (hFn "gmp.reduce" 456 38 293 619 true ++ (hFn "gmp.powers" 630 40 300 632 true ++ (hFn "gmp.powers" 630 41 307 644 true ++ (hFn "gmp.powers" 630 42 314 657 true ++ (hFn "gmp.powers" 630 43 321 675 true ++ (hFn "gmp.powers" 630 44 328 682 true ++ (hFn "gmp.powers" 630 45 335 689 true ++ (hFn "gmp.powers" 630 46 342 704 true ++ (hFn "gmp.powers" 630 47 349 717 true ++ (hFn "gmp.powers" 630 48 356 730 true ++ (hFn "gmp.powers" 630 49 363 743 true ++ (hFn "gmp.powers" 630 50 370 757 true))))))))))))))))))
noncomputable def hSeg72 (P : Params) : List Obj := hFn "gmp.powers" 630 51 377 772 true ++ (hFn "gmp.powers" 630 52 384 788 true ++ (hFn "gmp.powers" 630 53 391 801 true ++ (hFn "gmp.powers" 630 54 398 821 true ++ (hFn "gmp.powers" 630 55 405 837 true ++ (hFn "gmp.powers" 630 56 412 857 true ++ (hFn "gmp.powers" 630 57 419 865 true ++ (hFn "gmp.powers" 630 58 426 878 false ++ (hFn "gmp.school" 884 60 431 886 true ++ (hFn "gmp.school" 884 61 438 902 true ++ (hFn "gmp.school" 884 62 445 913 true ++ (hFn "gmp.school" 884 63 452 927 true ++ (hFn "gmp.school" 884 64 459 943 true ++ (hFn "gmp.school" 884 65 466 957 true ++ (hFn "gmp.school" 884 66 473 970 true ++ (hFn "law_sa0351_01" 983 68 480 985 true ++ (hFn "law_sa0351_01" 983 69 487 993 true ++ (hFn "law_sa0351_01" 983 70 494 1002 false ++ (hFn "law_sa0351_01" 983 71 499 1008 false))))))))))))))))))
noncomputable def hBase (P : Params) (o2 o3 o12 : Obj) (r : List Obj) : Heap := ⟨⟨boot_o_0 P :: boot_o_1 P :: o2 :: o3 :: boot_o_4 P :: boot_o_5 P :: boot_o_6 P :: boot_o_7 P :: boot_o_8 P :: boot_o_9 P :: boot_o_10 P :: hO11 :: o12 :: hO13 :: hO14 :: r⟩, {}⟩
noncomputable def hH0 (P : Params) : Heap := hBase P (boot_o_2 P) (boot_o_3 P) (hTab []) []
noncomputable def hH5 (P : Params) : Heap := hBase P (hStat P) (hGl P "gmp.limbs" 187 4) (hTab (hCs 4 hBinds)) (hCls P)
noncomputable def hH18 (P : Params) : Heap := hBase P (hStat P) (hGl P "gmp.limbs" 187 17) (hTab (hCs 17 hBinds)) (hCls P ++ (hSeg18 P))
noncomputable def hH31 (P : Params) : Heap := hBase P (hStat P) (hGl P "gmp.reduce" 456 28) (hTab (hCs 28 hBinds)) (hCls P ++ (hSeg18 P ++ (hSeg31 P)))
noncomputable def hH51 (P : Params) : Heap := hBase P (hStat P) (hGl P "gmp.powers" 630 47) (hTab (hCs 47 hBinds)) (hCls P ++ (hSeg18 P ++ (hSeg31 P ++ (hSeg51 P))))
noncomputable def hH72 (P : Params) : Heap := hBase P (hStat P) (hGl P "law_sa0351_01" 983 66) (hTab (hCs 66 hBinds)) (hCls P ++ (hSeg18 P ++ (hSeg31 P ++ (hSeg51 P ++ (hSeg72 P)))))
noncomputable abbrev hB : List Stmt := behindTheImports PW
noncomputable def hEnv : Env := { scope := PW.main.scope, locals := mainNs, globals := mainNs, cells := [], code := .ref 13, frame := some 14 }
noncomputable abbrev hC : Code := .body hB hEnv
noncomputable def hS_ (H : Params → Heap) (t : Nat) (w : World) (os : OsState) : Shared := ⟨H w.params, ⟨[]⟩, boot_drawn, t, os⟩
noncomputable def hL5 : List Stmt := (hB.drop 0).take 5
noncomputable def hL18 : List Stmt := (hB.drop 5).take 13
noncomputable def hL31 : List Stmt := (hB.drop 18).take 13
noncomputable def hL51 : List Stmt := (hB.drop 31).take 20
noncomputable def hL72 : List Stmt := (hB.drop 51).take 21
theorem h_pre (w : World) (os : OsState) : topGo treeTable PW w 11 (some (.ref 6)) 12 (hS_ boot_heap boot_toks w os) (topStub PW) = some (hS_ hH0 187 w os, ⟨denote treeTable hC, hC, ⟨0, 0, 0, 0⟩, [topFrame ⟨0, 0, 0, 0⟩]⟩) := by kernel_rfl
theorem h_block (w : World) (os : OsState) : segRun treeTable PW w 11 (some (.ref 6)) 1 1 (hS_ hH0 187 w os) (blockOf hB hEnv hC ⟨0, 0, 0, 0⟩ [topFrame ⟨0, 0, 0, 0⟩]) = some (.next, hS_ hH0 187 w os, hC, ⟨0, 0, 0, 0⟩) := by kernel_rfl
theorem h_run5 (w : World) (os : OsState) : segRun treeTable PW w 11 (some (.ref 6)) 1 845 (hS_ hH0 187 w os) (piecesOf hL5 hEnv hC ⟨0, 0, 0, 0⟩ [topFrame ⟨0, 0, 0, 0⟩]) = some (.next, hS_ hH5 257 w os, hC, ⟨8, 0, 9, 8⟩) := by kernel_rfl
theorem h_run18 (w : World) (os : OsState) : segRun treeTable PW w 11 (some (.ref 6)) 1 426 (hS_ hH5 257 w os) (piecesOf hL18 hEnv hC ⟨8, 0, 9, 8⟩ [topFrame ⟨0, 0, 0, 0⟩]) = some (.next, hS_ hH18 396 w os, hC, ⟨88, 0, 92, 58⟩) := by kernel_rfl
theorem h_run31 (w : World) (os : OsState) : segRun treeTable PW w 11 (some (.ref 6)) 1 572 (hS_ hH18 396 w os) (piecesOf hL31 hEnv hC ⟨88, 0, 92, 58⟩ [topFrame ⟨0, 0, 0, 0⟩]) = some (.next, hS_ hH31 542 w os, hC, ⟨153, 0, 159, 28⟩) := by kernel_rfl
theorem h_run51 (w : World) (os : OsState) : segRun treeTable PW w 11 (some (.ref 6)) 1 656 (hS_ hH31 542 w os) (piecesOf hL51 hEnv hC ⟨153, 0, 159, 28⟩ [topFrame ⟨0, 0, 0, 0⟩]) = some (.next, hS_ hH51 772 w os, hC, ⟨266, 0, 270, 82⟩) := by kernel_rfl
theorem h_run72 (w : World) (os : OsState) : segRun treeTable PW w 11 (some (.ref 6)) 1 669 (hS_ hH51 772 w os) (piecesOf hL72 hEnv hC ⟨266, 0, 270, 82⟩ [topFrame ⟨0, 0, 0, 0⟩]) = some (.next, hS_ hH72 1014 w os, hC, ⟨424, 0, 443, 74⟩) := by kernel_rfl
theorem h_fin (w : World) (os : OsState) : topRun treeTable PW w 11 (some (.ref 6)) 2 (hS_ hH72 1014 w os) ⟨doneF .next, hC, ⟨424, 0, 443, 74⟩, [topFrame ⟨0, 0, 0, 0⟩]⟩ = some (hS_ hH72 1014 w os) := by kernel_rfl
theorem h_body : hB = hL5 ++ (hL18 ++ (hL31 ++ (hL51 ++ (hL72 ++ [])))) := by kernel_rfl
noncomputable def hK (P : Params) : Frag :=
  (nat_lit 3, hGl P "law_sa0351_01" 983 66) ::
  (nat_lit 69, hCode (hSt 5) 64 257 ((hLocs (hSt 5)).length + (hCells (hSt 5)).length) true) ::
  (nat_lit 70, hFun (hSt 5) "gmp.limbs" 187 69) ::
  (nat_lit 76, hCode (hSt 6) 71 265 ((hLocs (hSt 6)).length + (hCells (hSt 6)).length) true) ::
  (nat_lit 77, hFun (hSt 6) "gmp.limbs" 187 76) ::
  (nat_lit 83, hCode (hSt 7) 78 272 ((hLocs (hSt 7)).length + (hCells (hSt 7)).length) true) ::
  (nat_lit 84, hFun (hSt 7) "gmp.limbs" 187 83) ::
  (nat_lit 90, hCode (hSt 8) 85 281 ((hLocs (hSt 8)).length + (hCells (hSt 8)).length) true) ::
  (nat_lit 91, hFun (hSt 8) "gmp.limbs" 187 90) ::
  (nat_lit 97, hCode (hSt 9) 92 294 ((hLocs (hSt 9)).length + (hCells (hSt 9)).length) true) ::
  (nat_lit 98, hFun (hSt 9) "gmp.limbs" 187 97) ::
  (nat_lit 104, hCode (hSt 10) 99 308 ((hLocs (hSt 10)).length + (hCells (hSt 10)).length) true) ::
  (nat_lit 105, hFun (hSt 10) "gmp.limbs" 187 104) ::
  (nat_lit 111, hCode (hSt 11) 106 316 ((hLocs (hSt 11)).length + (hCells (hSt 11)).length) true) ::
  (nat_lit 112, hFun (hSt 11) "gmp.limbs" 187 111) ::
  (nat_lit 118, hCode (hSt 12) 113 326 ((hLocs (hSt 12)).length + (hCells (hSt 12)).length) true) ::
  (nat_lit 119, hFun (hSt 12) "gmp.limbs" 187 118) ::
  (nat_lit 125, hCode (hSt 13) 120 338 ((hLocs (hSt 13)).length + (hCells (hSt 13)).length) true) ::
  (nat_lit 126, hFun (hSt 13) "gmp.limbs" 187 125) ::
  (nat_lit 132, hCode (hSt 14) 127 353 ((hLocs (hSt 14)).length + (hCells (hSt 14)).length) true) ::
  (nat_lit 133, hFun (hSt 14) "gmp.limbs" 187 132) ::
  (nat_lit 139, hCode (hSt 15) 134 368 ((hLocs (hSt 15)).length + (hCells (hSt 15)).length) true) ::
  (nat_lit 140, hFun (hSt 15) "gmp.limbs" 187 139) ::
  (nat_lit 146, hCode (hSt 16) 141 376 ((hLocs (hSt 16)).length + (hCells (hSt 16)).length) true) ::
  (nat_lit 147, hFun (hSt 16) "gmp.limbs" 187 146) ::
  (nat_lit 153, hCode (hSt 17) 148 385 ((hLocs (hSt 17)).length + (hCells (hSt 17)).length) true) ::
  (nat_lit 154, hFun (hSt 17) "gmp.limbs" 187 153) ::
  (nat_lit 160, hCode (hSt 18) 155 396 ((hLocs (hSt 18)).length + (hCells (hSt 18)).length) true) ::
  (nat_lit 161, hFun (hSt 18) "gmp.limbs" 187 160) ::
  (nat_lit 167, hCode (hSt 19) 162 405 ((hLocs (hSt 19)).length + (hCells (hSt 19)).length) true) ::
  (nat_lit 168, hFun (hSt 19) "gmp.limbs" 187 167) ::
  (nat_lit 174, hCode (hSt 21) 169 417 ((hLocs (hSt 21)).length + (hCells (hSt 21)).length) true) ::
  (nat_lit 175, hFun (hSt 21) "gmp.hensel" 415 174) ::
  (nat_lit 181, hCode (hSt 22) 176 428 ((hLocs (hSt 22)).length + (hCells (hSt 22)).length) true) ::
  (nat_lit 182, hFun (hSt 22) "gmp.hensel" 415 181) ::
  (nat_lit 186, hCode (hSt 23) 183 436 0 false) ::
  (nat_lit 187, hFun (hSt 23) "gmp.hensel" 415 186) ::
  (nat_lit 193, hCode (hSt 24) 188 442 ((hLocs (hSt 24)).length + (hCells (hSt 24)).length) true) ::
  (nat_lit 194, hFun (hSt 24) "gmp.hensel" 415 193) ::
  (nat_lit 200, hCode (hSt 26) 195 458 ((hLocs (hSt 26)).length + (hCells (hSt 26)).length) true) ::
  (nat_lit 201, hFun (hSt 26) "gmp.reduce" 456 200) ::
  (nat_lit 207, hCode (hSt 27) 202 467 ((hLocs (hSt 27)).length + (hCells (hSt 27)).length) true) ::
  (nat_lit 208, hFun (hSt 27) "gmp.reduce" 456 207) ::
  (nat_lit 214, hCode (hSt 28) 209 482 ((hLocs (hSt 28)).length + (hCells (hSt 28)).length) true) ::
  (nat_lit 215, hFun (hSt 28) "gmp.reduce" 456 214) ::
  (nat_lit 221, hCode (hSt 29) 216 497 ((hLocs (hSt 29)).length + (hCells (hSt 29)).length) true) ::
  (nat_lit 222, hFun (hSt 29) "gmp.reduce" 456 221) ::
  (nat_lit 249, hCode (hSt 31) 244 542 ((hLocs (hSt 31)).length + (hCells (hSt 31)).length) true) ::
  (nat_lit 250, hFun (hSt 31) "gmp.reduce" 456 249) ::
  (nat_lit 256, hCode (hSt 32) 251 552 ((hLocs (hSt 32)).length + (hCells (hSt 32)).length) true) ::
  (nat_lit 257, hFun (hSt 32) "gmp.reduce" 456 256) ::
  (nat_lit 263, hCode (hSt 33) 258 563 ((hLocs (hSt 33)).length + (hCells (hSt 33)).length) true) ::
  (nat_lit 264, hFun (hSt 33) "gmp.reduce" 456 263) ::
  (nat_lit 270, hCode (hSt 34) 265 577 ((hLocs (hSt 34)).length + (hCells (hSt 34)).length) true) ::
  (nat_lit 271, hFun (hSt 34) "gmp.reduce" 456 270) ::
  (nat_lit 277, hCode (hSt 35) 272 586 ((hLocs (hSt 35)).length + (hCells (hSt 35)).length) true) ::
  (nat_lit 278, hFun (hSt 35) "gmp.reduce" 456 277) ::
  (nat_lit 284, hCode (hSt 36) 279 600 ((hLocs (hSt 36)).length + (hCells (hSt 36)).length) true) ::
  (nat_lit 285, hFun (hSt 36) "gmp.reduce" 456 284) ::
  (nat_lit 291, hCode (hSt 37) 286 610 ((hLocs (hSt 37)).length + (hCells (hSt 37)).length) true) ::
  (nat_lit 292, hFun (hSt 37) "gmp.reduce" 456 291) ::
  (nat_lit 298, hCode (hSt 38) 293 619 ((hLocs (hSt 38)).length + (hCells (hSt 38)).length) true) ::
  (nat_lit 299, hFun (hSt 38) "gmp.reduce" 456 298) ::
  (nat_lit 305, hCode (hSt 40) 300 632 ((hLocs (hSt 40)).length + (hCells (hSt 40)).length) true) ::
  (nat_lit 306, hFun (hSt 40) "gmp.powers" 630 305) ::
  (nat_lit 312, hCode (hSt 41) 307 644 ((hLocs (hSt 41)).length + (hCells (hSt 41)).length) true) ::
  (nat_lit 313, hFun (hSt 41) "gmp.powers" 630 312) ::
  (nat_lit 319, hCode (hSt 42) 314 657 ((hLocs (hSt 42)).length + (hCells (hSt 42)).length) true) ::
  (nat_lit 320, hFun (hSt 42) "gmp.powers" 630 319) ::
  (nat_lit 326, hCode (hSt 43) 321 675 ((hLocs (hSt 43)).length + (hCells (hSt 43)).length) true) ::
  (nat_lit 327, hFun (hSt 43) "gmp.powers" 630 326) ::
  (nat_lit 333, hCode (hSt 44) 328 682 ((hLocs (hSt 44)).length + (hCells (hSt 44)).length) true) ::
  (nat_lit 334, hFun (hSt 44) "gmp.powers" 630 333) ::
  (nat_lit 340, hCode (hSt 45) 335 689 ((hLocs (hSt 45)).length + (hCells (hSt 45)).length) true) ::
  (nat_lit 341, hFun (hSt 45) "gmp.powers" 630 340) ::
  (nat_lit 347, hCode (hSt 46) 342 704 ((hLocs (hSt 46)).length + (hCells (hSt 46)).length) true) ::
  (nat_lit 348, hFun (hSt 46) "gmp.powers" 630 347) ::
  (nat_lit 354, hCode (hSt 47) 349 717 ((hLocs (hSt 47)).length + (hCells (hSt 47)).length) true) ::
  (nat_lit 355, hFun (hSt 47) "gmp.powers" 630 354) ::
  (nat_lit 361, hCode (hSt 48) 356 730 ((hLocs (hSt 48)).length + (hCells (hSt 48)).length) true) ::
  (nat_lit 362, hFun (hSt 48) "gmp.powers" 630 361) ::
  (nat_lit 368, hCode (hSt 49) 363 743 ((hLocs (hSt 49)).length + (hCells (hSt 49)).length) true) ::
  (nat_lit 369, hFun (hSt 49) "gmp.powers" 630 368) ::
  (nat_lit 375, hCode (hSt 50) 370 757 ((hLocs (hSt 50)).length + (hCells (hSt 50)).length) true) ::
  (nat_lit 376, hFun (hSt 50) "gmp.powers" 630 375) ::
  (nat_lit 382, hCode (hSt 51) 377 772 ((hLocs (hSt 51)).length + (hCells (hSt 51)).length) true) ::
  (nat_lit 383, hFun (hSt 51) "gmp.powers" 630 382) ::
  (nat_lit 389, hCode (hSt 52) 384 788 ((hLocs (hSt 52)).length + (hCells (hSt 52)).length) true) ::
  (nat_lit 390, hFun (hSt 52) "gmp.powers" 630 389) ::
  (nat_lit 396, hCode (hSt 53) 391 801 ((hLocs (hSt 53)).length + (hCells (hSt 53)).length) true) ::
  (nat_lit 397, hFun (hSt 53) "gmp.powers" 630 396) ::
  (nat_lit 403, hCode (hSt 54) 398 821 ((hLocs (hSt 54)).length + (hCells (hSt 54)).length) true) ::
  (nat_lit 404, hFun (hSt 54) "gmp.powers" 630 403) ::
  (nat_lit 410, hCode (hSt 55) 405 837 ((hLocs (hSt 55)).length + (hCells (hSt 55)).length) true) ::
  (nat_lit 411, hFun (hSt 55) "gmp.powers" 630 410) ::
  (nat_lit 417, hCode (hSt 56) 412 857 ((hLocs (hSt 56)).length + (hCells (hSt 56)).length) true) ::
  (nat_lit 418, hFun (hSt 56) "gmp.powers" 630 417) ::
  (nat_lit 424, hCode (hSt 57) 419 865 ((hLocs (hSt 57)).length + (hCells (hSt 57)).length) true) ::
  (nat_lit 425, hFun (hSt 57) "gmp.powers" 630 424) ::
  (nat_lit 429, hCode (hSt 58) 426 878 0 false) ::
  (nat_lit 430, hFun (hSt 58) "gmp.powers" 630 429) ::
  (nat_lit 436, hCode (hSt 60) 431 886 ((hLocs (hSt 60)).length + (hCells (hSt 60)).length) true) ::
  (nat_lit 437, hFun (hSt 60) "gmp.school" 884 436) ::
  (nat_lit 443, hCode (hSt 61) 438 902 ((hLocs (hSt 61)).length + (hCells (hSt 61)).length) true) ::
  (nat_lit 444, hFun (hSt 61) "gmp.school" 884 443) ::
  (nat_lit 450, hCode (hSt 62) 445 913 ((hLocs (hSt 62)).length + (hCells (hSt 62)).length) true) ::
  (nat_lit 451, hFun (hSt 62) "gmp.school" 884 450) ::
  (nat_lit 457, hCode (hSt 63) 452 927 ((hLocs (hSt 63)).length + (hCells (hSt 63)).length) true) ::
  (nat_lit 458, hFun (hSt 63) "gmp.school" 884 457) ::
  (nat_lit 464, hCode (hSt 64) 459 943 ((hLocs (hSt 64)).length + (hCells (hSt 64)).length) true) ::
  (nat_lit 465, hFun (hSt 64) "gmp.school" 884 464) ::
  (nat_lit 471, hCode (hSt 65) 466 957 ((hLocs (hSt 65)).length + (hCells (hSt 65)).length) true) ::
  (nat_lit 472, hFun (hSt 65) "gmp.school" 884 471) ::
  (nat_lit 478, hCode (hSt 66) 473 970 ((hLocs (hSt 66)).length + (hCells (hSt 66)).length) true) ::
  (nat_lit 479, hFun (hSt 66) "gmp.school" 884 478) ::
  (nat_lit 485, hCode (hSt 68) 480 985 ((hLocs (hSt 68)).length + (hCells (hSt 68)).length) true) ::
  (nat_lit 486, hFun (hSt 68) "law_sa0351_01" 983 485) ::
  (nat_lit 492, hCode (hSt 69) 487 993 ((hLocs (hSt 69)).length + (hCells (hSt 69)).length) true) ::
  (nat_lit 493, hFun (hSt 69) "law_sa0351_01" 983 492) ::
  (nat_lit 497, hCode (hSt 70) 494 1002 0 false) ::
  (nat_lit 498, hFun (hSt 70) "law_sa0351_01" 983 497) ::
  (nat_lit 502, hCode (hSt 71) 499 1008 0 false) ::
  (nat_lit 503, hFun (hSt 71) "law_sa0351_01" 983 502) ::
  (nat_lit 235, hM235 P) ::
  (nat_lit 236, hM236 P) ::
  (nat_lit 237, hM237 P) ::
  (nat_lit 238, hM238 P) ::
  (nat_lit 239, hM239 P) ::
  (nat_lit 240, hM240 P) ::
  (nat_lit 241, hM241 P) :: []
noncomputable def hKa : List Addr := [3, 69, 70, 76, 77, 83, 84, 90, 91, 97, 98, 104, 105, 111, 112, 118, 119, 125, 126, 132, 133, 139, 140, 146, 147, 153, 154, 160, 161, 167, 168, 174, 175, 181, 182, 186, 187, 193, 194, 200, 201, 207, 208, 214, 215, 221, 222, 249, 250, 256, 257, 263, 264, 270, 271, 277, 278, 284, 285, 291, 292, 298, 299, 305, 306, 312, 313, 319, 320, 326, 327, 333, 334, 340, 341, 347, 348, 354, 355, 361, 362, 368, 369, 375, 376, 382, 383, 389, 390, 396, 397, 403, 404, 410, 411, 417, 418, 424, 425, 429, 430, 436, 437, 443, 444, 450, 451, 457, 458, 464, 465, 471, 472, 478, 479, 485, 486, 492, 493, 497, 498, 502, 503, 235, 236, 237, 238, 239, 240, 241]
noncomputable def hIsDef : Stmt → Bool
  | .FunctionDef .. => true
  | .ClassDef .. => true
  | _ => false
noncomputable def hQ : Program := { PW with main := { PW.main with body := PW.main.body.filter hIsDef } }
theorem hKe (P : Params) : hKa = (hK P).map (·.1) := by kernel_rfl
noncomputable abbrev hHk : Hook := kmHook hK hKa hKe [357, 350, 343, 336]
theorem h_all (w : World) (os : OsState) : topRun treeTable PW w 11 (some (.ref 6)) (12 + (1 + (845 + (426 + (572 + (656 + (669 + (2)))))))) (hS_ boot_heap boot_toks w os) (topStub PW) = some (hS_ hH72 1014 w os) := by
  refine go_top (h_pre w os) (piece_block (h_block w os) ?_)
  rw [h_body]
  exact piece_app (h_run5 w os) (piece_app (h_run18 w os) (piece_app (h_run31 w os) (piece_app (h_run51 w os) (piece_app (h_run72 w os) (piece_nil (h_fin w os))))))
theorem h_size (w : World) : ((boot_heap w.params).isNs mainGlobals && (Array.mk ([] : List GenState)).size == 0, (boot_heap w.params).objs.size, (boot_heap w.params).nsMap mainGlobals "__annotations__") = (true, 11, some (.ref 6)) := by kernel_rfl
theorem h_open (w : World) : (fencedOpening treeTable PW w 6452).map (fun s => (s.heap, s.gens, s.drawn, s.toks)) = some (boot_heap w.params, Array.mk [], boot_drawn, boot_toks) :=
  boot_open (by kernel_rfl) (by kernel_rfl) (fun s => by kernel_rfl) w
noncomputable abbrev hX (s : Shared) : Bool := xlAt hQ [] s && recOk [] s
theorem h_look0 (w : World) (os : OsState) : (staticsOk (importedModules PW.main.body) (boot_heap w.params) (hH72 w.params) && namesBound PW (hH72 w.params) && gensDone (hS_ hH72 1014 w os) && laidKept (boot_heap w.params) (hH72 w.params)) = true := by kernel_rfl
theorem h_look1 (w : World) (os : OsState) : openSeen hQ [] (importedModules PW.main.body) hX true (hS_ hH72 1014 w os) = openGood hQ [] := by kernel_rfl
theorem h_look2 (w : World) (os : OsState) : hHk.obs (hS_ hH72 1014 w os) = hHk.val w := by kernel_rfl
theorem h_left : LeftO PW hQ [] hX hHk.obs hHk.val 6452 :=
  LeftO.of_pieces h_open h_size h_all (by kernel_rfl) fun w => funext fun os => looks_pair (h_look0 w os) (looks_pair (h_look1 w os) (h_look2 w os))
theorem hFill (w : World) (h : Heap) : (hK w.params).In h → PySem.Challenge.rw_sa0351_01 = PySem.Challenge.rw_sa0351_01 := by
  k_fill
  exact fun _ => rfl
theorem hSaid : PySem.Challenge.rw_sa0351_01.wellSaid = true := by kernel_rfl
theorem hOk : (chainsOk hQ && opensWell PySem.Challenge.rw_sa0351_01.row.prog && (frees PySem.Challenge.rw_sa0351_01.row.toRowW && PySem.Challenge.rw_sa0351_01.row.within.isEmpty)) = true := by kernel_rfl
abbrev PR := PySem.Challenge.rw_sa0351_01.row.prog
-- part Vc
theorem len0 {α : Type} {l : List α} (h : l.length = 0) : l = [] := List.eq_nil_of_length_eq_zero h
theorem lenS {α : Type} {n : Nat} {l : List α} (h : l.length = n + 1) : ∃ a r, l = a :: r ∧ r.length = n := by
  cases l with
  | nil => cases h
  | cons a r => exact ⟨a, r, rfl, Nat.succ.inj h⟩
theorem len1 {α : Type} {l : List α} (h : l.length = 1) : ∃ a, l = [a] := by
  obtain ⟨a, r, rfl, hr⟩ := lenS h
  exact ⟨a, by rw [len0 hr]⟩
theorem len2 {α : Type} {l : List α} (h : l.length = 2) : ∃ a a0, l = [a, a0] := by
  obtain ⟨a, r, rfl, hr⟩ := lenS h
  obtain ⟨a0, rfl⟩ := len1 hr
  exact ⟨a, a0, rfl⟩
theorem len3 {α : Type} {l : List α} (h : l.length = 3) : ∃ a a0 a1, l = [a, a0, a1] := by
  obtain ⟨a, r, rfl, hr⟩ := lenS h
  obtain ⟨a0, a1, rfl⟩ := len2 hr
  exact ⟨a, a0, a1, rfl⟩
theorem len4 {α : Type} {l : List α} (h : l.length = 4) : ∃ a a0 a1 a2, l = [a, a0, a1, a2] := by
  obtain ⟨a, r, rfl, hr⟩ := lenS h
  obtain ⟨a0, a1, a2, rfl⟩ := len3 hr
  exact ⟨a, a0, a1, a2, rfl⟩
theorem len5 {α : Type} {l : List α} (h : l.length = 5) : ∃ a a0 a1 a2 a3, l = [a, a0, a1, a2, a3] := by
  obtain ⟨a, r, rfl, hr⟩ := lenS h
  obtain ⟨a0, a1, a2, a3, rfl⟩ := len4 hr
  exact ⟨a, a0, a1, a2, a3, rfl⟩
theorem len6 {α : Type} {l : List α} (h : l.length = 6) : ∃ a a0 a1 a2 a3 a4, l = [a, a0, a1, a2, a3, a4] := by
  obtain ⟨a, r, rfl, hr⟩ := lenS h
  obtain ⟨a0, a1, a2, a3, a4, rfl⟩ := len5 hr
  exact ⟨a, a0, a1, a2, a3, a4, rfl⟩
theorem len7 {α : Type} {l : List α} (h : l.length = 7) : ∃ a a0 a1 a2 a3 a4 a5, l = [a, a0, a1, a2, a3, a4, a5] := by
  obtain ⟨a, r, rfl, hr⟩ := lenS h
  obtain ⟨a0, a1, a2, a3, a4, a5, rfl⟩ := len6 hr
  exact ⟨a, a0, a1, a2, a3, a4, a5, rfl⟩
theorem len8 {α : Type} {l : List α} (h : l.length = 8) : ∃ a a0 a1 a2 a3 a4 a5 a6, l = [a, a0, a1, a2, a3, a4, a5, a6] := by
  obtain ⟨a, r, rfl, hr⟩ := lenS h
  obtain ⟨a0, a1, a2, a3, a4, a5, a6, rfl⟩ := len7 hr
  exact ⟨a, a0, a1, a2, a3, a4, a5, a6, rfl⟩
inductive MV where
  | undef | int (i : Int) | bool (b : Bool) | none | ref (a : Addr) | bi (n : String) | ty (n : String)

inductive Rep : MV → Value → Prop
  | int (i : Int) (t : Tok) : Rep (.int i) (.int i t)
  | bool (b : Bool) : Rep (.bool b) (.bool b)
  | none : Rep .none .none
  | ref (a : Addr) : Rep (.ref a) (.ref a)
  | bi (n : String) : Rep (.bi n) (.builtin n)
  | ty (n : String) : Rep (.ty n) (.type n)

inductive Reps : List MV → List Value → Prop
  | nil : Reps [] []
  | cons {x v xs vs} : Rep x v → Reps xs vs → Reps (x :: xs) (v :: vs)

theorem Reps.length {xs : List MV} {vs : List Value} (h : Reps xs vs) : vs.length = xs.length := by
  induction h with
  | nil => rfl
  | cons _ _ ih => simp [ih]
theorem Reps.get {xs : List MV} {vs : List Value} (h : Reps xs vs) : ∀ {i : Nat} {x : MV}, xs[i]? = some x → ∃ v, vs[i]? = some v ∧ Rep x v := by
  induction h with
  | nil => intro i x e; simp at e
  | cons r _ ih =>
    intro i x e
    cases i with
    | zero => simp at e; subst e; exact ⟨_, rfl, r⟩
    | succ i => simpa using ih (by simpa using e)
theorem Reps.append {xs ys : List MV} {vs us : List Value} (h : Reps xs vs) (k : Reps ys us) : Reps (xs ++ ys) (vs ++ us) := by
  induction h with
  | nil => exact k
  | cons r _ ih => exact .cons r ih
theorem Reps.set {xs : List MV} {vs : List Value} (h : Reps xs vs) {x : MV} {v : Value} (r : Rep x v) : ∀ i, Reps (xs.set i x) (vs.set i v) := by
  induction h with
  | nil => intro i; exact .nil
  | cons r' h' ih =>
    intro i
    cases i with
    | zero => exact .cons r h'
    | succ i => exact .cons r' (ih i)
theorem Reps.take {xs : List MV} {vs : List Value} (h : Reps xs vs) : ∀ n, Reps (xs.take n) (vs.take n) := by
  induction h with
  | nil => intro n; simp; exact .nil
  | cons r _ ih =>
    intro n
    cases n with
    | zero => exact .nil
    | succ n => exact .cons r (ih n)
theorem Reps.drop {xs : List MV} {vs : List Value} (h : Reps xs vs) : ∀ n, Reps (xs.drop n) (vs.drop n) := by
  induction h with
  | nil => intro n; simp; exact .nil
  | cons r h' ih =>
    intro n
    cases n with
    | zero => exact .cons r h'
    | succ n => exact ih n

def nums (ns : List Int) : List MV := ns.map .int
theorem Reps.nums {ns : List Int} : ∀ {vs : List Value}, Reps (nums ns) vs → IntsAre vs ns := by
  induction ns with
  | nil => intro vs h; cases h; exact .nil
  | cons n r ih => intro vs h; cases h with | cons a b => cases a; exact .cons _ _ (ih b)

inductive MO where
  | list (xs : List MV) | tup (xs : List MV) | cell (v : MV)

inductive Is : MO → Obj → Prop
  | list {xs vs} (n : Nat) : Reps xs vs → Is (.list xs) (listOf vs.toArray n)
  | tup {xs vs} (n : Nat) : Reps xs vs → Is (.tup xs) { cls := .type "tuple", data := .seq vs.toArray n }
  | cell {v x o} : Rep x v → o.data = .cell (some v) → Is (.cell x) o

abbrev Gl := List (Addr × Obj)
abbrev Loc := List (Str × MV)

inductive UpdG (a : Addr) (x x' : Obj) : Gl → Gl → Prop
  | head {r} : UpdG a x x' ((a, x) :: r) ((a, x') :: r)
  | tail {p r r'} : UpdG a x x' r r' → UpdG a x x' (p :: r) (p :: r')
inductive SetL (x : Str) (v : MV) : Loc → Loc → Prop
  | head {u r} : SetL x v ((x, u) :: r) ((x, v) :: r)
  | tail {p r r'} : SetL x v r r' → SetL x v (p :: r) (p :: r')

structure Fm where
  prog : Program
  w : World
  K : Frag
  A : Around
  cn : Str
  cs : Scope
  L : Addr
  a : Addr
  ccd : Value
  cl : List (Str × Addr)
  h₀ : Heap
  k : Nat
abbrev Fm.env (Γ : Fm) : Env := envX Γ.cn Γ.cs Γ.L Γ.a Γ.ccd Γ.cl
/-- the makers' code records and their tables -/
def makerTabs : List (Addr × Addr) := [(361, 357), (354, 350), (347, 343), (340, 336)]
structure Fm.Ok (Γ : Fm) : Prop where
  below : ∃ A₀ base outer, Below A₀ base outer Γ.h₀ ∧ Γ.A.frames = some (Γ.env :: outer)
  K : Γ.K.In Γ.h₀
  top : ∃ p loose mean mg mb, Top p loose mean mg mb Γ.h₀
  kf : Γ.cs.kind = .function
  hh : Γ.A.handled = none
  dep : Γ.A.depth + Γ.k < recursionLimit
  un : Γ.A.units + 8 * Γ.k + 70 < cLine
  codes : ∀ q ∈ makerTabs, CodeHd Γ.h₀ q.1 q.2

def RepL (Γ : Fm) (loc : Loc) (m : Str → Option Value) : Prop :=
  (loc.map (·.1)).Nodup ∧ ∀ x v, (x, v) ∈ loc → Γ.cs.names.lookup x = some .local ∧ (v ≠ .undef → ∃ v', m x = some v' ∧ Rep v v')
structure St (Γ : Fm) (m : Str → Option Value) (h : Heap) (X : List (Addr × Obj)) (g : Gl) : Prop where
  fr : Fr Γ.h₀ Γ.L h m
  news : News Γ.h₀ Γ.L h (X ++ g)
  nodup : ((X ++ g).map (·.1)).Nodup

def TR (Γ : Fm) {α β : Type} (rep : β → α → Prop) (t : Sem α) (loc : Loc) (g : Gl) (Q : β → Loc → Gl → Prop) : Prop :=
  Γ.Ok → ∀ m s X (Post : α → Shared → Prop), RepL Γ loc m → St Γ m s.heap X g →
    (∀ b a loc' m' g' h' tk', Q b loc' g' → rep b a → RepL Γ loc' m' → St Γ m' h' X g' → Post a { s with heap := h', toks := tk' }) →
    wpAny (model Γ.prog Γ.w) Γ.A t Post (fun _ _ => False) s

section
variable {Γ : Fm} {α β γ δ : Type} {rep : β → α → Prop} {rep' : δ → γ → Prop} {loc : Loc} {g : Gl}

theorem TR.mono {t : Sem α} {Q Q' : β → Loc → Gl → Prop} (h : TR Γ rep t loc g Q) (k : ∀ b l g, Q b l g → Q' b l g) : TR Γ rep t loc g Q' :=
  fun ok m s X P RL S hp => h ok m s X P RL S fun b a l' m' g' h' tk' q r rl st => hp b a l' m' g' h' tk' (k _ _ _ q) r rl st

/-- chain: run t, then the rest is any wpAny goal -/
theorem TR.go {t : Sem α} {Q : β → Loc → Gl → Prop} (h : TR Γ rep t loc g Q) (ok : Γ.Ok) {m : Str → Option Value} {s : Shared} {X : List (Addr × Obj)} {Post : α → Shared → Prop} (RL : RepL Γ loc m) (S : St Γ m s.heap X g)
    (k : ∀ b a loc' m' g' h' tk', Q b loc' g' → rep b a → RepL Γ loc' m' → St Γ m' h' X g' → Post a { s with heap := h', toks := tk' }) : wpAny (model Γ.prog Γ.w) Γ.A t Post (fun _ _ => False) s := h ok m s X Post RL S k

theorem TR.pure {b : β} {a : α} {Q : β → Loc → Gl → Prop} (r : rep b a) (q : Q b loc g) : TR Γ rep (pure a) loc g Q :=
  fun _ m s _ _ RL S hp => wpAny_pure (by simpa using hp b a loc m g s.heap s.toks q r RL S)

theorem St.obj {m : Str → Option Value} {h : Heap} {X : List (Addr × Obj)} (S : St Γ m h X g) {a : Addr} {o : Obj} (hm : (a, o) ∈ g) : h.get? a = some o ∧ a ≠ Γ.L ∧ Γ.h₀.get? a = none := S.news _ (List.mem_append_right _ hm)
theorem St.isList {m : Str → Option Value} {h : Heap} {X : List (Addr × Obj)} (S : St Γ m h X g) {a : Addr} {o : Obj} {xs : List MV} (hm : (a, o) ∈ g) (hi : Is (.list xs) o) : ∃ vs, Reps xs vs ∧ h.IsList a vs.toArray := by
  cases hi with
  | list n r => exact ⟨_, r, _, (S.obj hm).1, rfl, n, rfl⟩
theorem St.isTup {m : Str → Option Value} {h : Heap} {X : List (Addr × Obj)} (S : St Γ m h X g) {a : Addr} {o : Obj} {xs : List MV} (hm : (a, o) ∈ g) (hi : Is (.tup xs) o) : ∃ vs, Reps xs vs ∧ IsTup h a vs.toArray := by
  cases hi with
  | tup n r => exact ⟨_, r, _, (S.obj hm).1, rfl, n, rfl⟩
theorem St.same {m : Str → Option Value} {h : Heap} {X : List (Addr × Obj)} (S : St Γ m h X g) {m' : Str → Option Value} {h' : Heap} (F : Fr Γ.h₀ Γ.L h' m') (W : News Γ.h₀ Γ.L h' (X ++ g)) : St Γ m' h' X g := ⟨F, W, S.nodup⟩
theorem nodup_mid {X N : List (Addr × Obj)} {a : Addr} {o : Obj} (D : ((X ++ N).map (·.1)).Nodup) (hf : ∀ p ∈ X ++ N, p.1 ≠ a) : ((X ++ (a, o) :: N).map (·.1)).Nodup := by
  rw [List.map_append, List.map_cons]
  rw [List.map_append] at D
  have D' := List.nodup_append.mp D
  refine List.nodup_append.mpr ⟨D'.1, List.nodup_cons.mpr ⟨?_, D'.2.1⟩, ?_⟩
  · intro hm
    obtain ⟨p, hp, e⟩ := List.mem_map.mp hm
    exact hf p (List.mem_append_right _ hp) e
  · intro x hx y hy e
    rcases List.mem_cons.mp hy with q | q
    · obtain ⟨p, hp, e'⟩ := List.mem_map.mp hx
      exact hf p (List.mem_append_left _ hp) (by rw [e', e, q])
    · exact D'.2.2 x hx y q e
theorem St.push {m m' : Str → Option Value} {h h' : Heap} {X : List (Addr × Obj)} (S : St Γ m h X g) {a : Addr} {o : Obj} (F : Fr Γ.h₀ Γ.L h' m') (W : News Γ.h₀ Γ.L h' ((a, o) :: (X ++ g)))
    (hf : ∀ p ∈ X ++ g, p.1 ≠ a) : St Γ m' h' X ((a, o) :: g) := by
  refine ⟨F, fun p hp => ?_, nodup_mid S.nodup hf⟩
  rcases List.mem_append.mp hp with q | q
  · exact W p (.tail _ (List.mem_append_left _ q))
  · rcases List.mem_cons.mp q with q | q
    · exact W p (q ▸ .head _)
    · exact W p (.tail _ (List.mem_append_right _ q))
theorem news_lt {h₀ h : Heap} {L : Addr} {l : List (Addr × Obj)} (W : News h₀ L h l) : ∀ p ∈ l, p.1 < h.objs.size := fun p hp => Heap.lt_size (W p hp).1
theorem news_ne {h₀ h : Heap} {L : Addr} {l : List (Addr × Obj)} (W : News h₀ L h l) : ∀ p ∈ l, p.1 ≠ h.objs.size := fun p hp => Nat.ne_of_lt (news_lt W p hp)
end
-- part VcA
inductive E1 {α : Type} (p : α → Prop) : Prop
  | mk (x0 : α) (h : p x0) : E1 p
inductive E2 {α β : Type} (p : α → β → Prop) : Prop
  | mk (x0 : α) (x1 : β) (h : p x0 x1) : E2 p
inductive E3 {α β γ : Type} (p : α → β → γ → Prop) : Prop
  | mk (x0 : α) (x1 : β) (x2 : γ) (h : p x0 x1 x2) : E3 p
inductive E4 {α β γ δ : Type} (p : α → β → γ → δ → Prop) : Prop
  | mk (x0 : α) (x1 : β) (x2 : γ) (x3 : δ) (h : p x0 x1 x2 x3) : E4 p
inductive E5 {α β γ δ ε : Type} (p : α → β → γ → δ → ε → Prop) : Prop
  | mk (x0 : α) (x1 : β) (x2 : γ) (x3 : δ) (x4 : ε) (h : p x0 x1 x2 x3 x4) : E5 p
inductive E6 {α β γ δ ε ζ : Type} (p : α → β → γ → δ → ε → ζ → Prop) : Prop
  | mk (x0 : α) (x1 : β) (x2 : γ) (x3 : δ) (x4 : ε) (x5 : ζ) (h : p x0 x1 x2 x3 x4 x5) : E6 p
inductive E7 {α β γ δ ε ζ η : Type} (p : α → β → γ → δ → ε → ζ → η → Prop) : Prop
  | mk (x0 : α) (x1 : β) (x2 : γ) (x3 : δ) (x4 : ε) (x5 : ζ) (x6 : η) (h : p x0 x1 x2 x3 x4 x5 x6) : E7 p
inductive E8 {α β γ δ ε ζ η θ : Type} (p : α → β → γ → δ → ε → ζ → η → θ → Prop) : Prop
  | mk (x0 : α) (x1 : β) (x2 : γ) (x3 : δ) (x4 : ε) (x5 : ζ) (x6 : η) (x7 : θ) (h : p x0 x1 x2 x3 x4 x5 x6 x7) : E8 p
inductive E9 {α β γ δ ε ζ η θ ι : Type} (p : α → β → γ → δ → ε → ζ → η → θ → ι → Prop) : Prop
  | mk (x0 : α) (x1 : β) (x2 : γ) (x3 : δ) (x4 : ε) (x5 : ζ) (x6 : η) (x7 : θ) (x8 : ι) (h : p x0 x1 x2 x3 x4 x5 x6 x7 x8) : E9 p
inductive A2 (a0 a1 : Prop) : Prop
  | mk (h0 : a0) (h1 : a1) : A2 a0 a1
inductive A3 (a0 a1 a2 : Prop) : Prop
  | mk (h0 : a0) (h1 : a1) (h2 : a2) : A3 a0 a1 a2
inductive A4 (a0 a1 a2 a3 : Prop) : Prop
  | mk (h0 : a0) (h1 : a1) (h2 : a2) (h3 : a3) : A4 a0 a1 a2 a3
inductive A5 (a0 a1 a2 a3 a4 : Prop) : Prop
  | mk (h0 : a0) (h1 : a1) (h2 : a2) (h3 : a3) (h4 : a4) : A5 a0 a1 a2 a3 a4
inductive A6 (a0 a1 a2 a3 a4 a5 : Prop) : Prop
  | mk (h0 : a0) (h1 : a1) (h2 : a2) (h3 : a3) (h4 : a4) (h5 : a5) : A6 a0 a1 a2 a3 a4 a5
inductive A7 (a0 a1 a2 a3 a4 a5 a6 : Prop) : Prop
  | mk (h0 : a0) (h1 : a1) (h2 : a2) (h3 : a3) (h4 : a4) (h5 : a5) (h6 : a6) : A7 a0 a1 a2 a3 a4 a5 a6
inductive A8 (a0 a1 a2 a3 a4 a5 a6 a7 : Prop) : Prop
  | mk (h0 : a0) (h1 : a1) (h2 : a2) (h3 : a3) (h4 : a4) (h5 : a5) (h6 : a6) (h7 : a7) : A8 a0 a1 a2 a3 a4 a5 a6 a7
inductive A9 (a0 a1 a2 a3 a4 a5 a6 a7 a8 : Prop) : Prop
  | mk (h0 : a0) (h1 : a1) (h2 : a2) (h3 : a3) (h4 : a4) (h5 : a5) (h6 : a6) (h7 : a7) (h8 : a8) : A9 a0 a1 a2 a3 a4 a5 a6 a7 a8
inductive A10 (a0 a1 a2 a3 a4 a5 a6 a7 a8 a9 : Prop) : Prop
  | mk (h0 : a0) (h1 : a1) (h2 : a2) (h3 : a3) (h4 : a4) (h5 : a5) (h6 : a6) (h7 : a7) (h8 : a8) (h9 : a9) : A10 a0 a1 a2 a3 a4 a5 a6 a7 a8 a9
inductive A11 (a0 a1 a2 a3 a4 a5 a6 a7 a8 a9 a10 : Prop) : Prop
  | mk (h0 : a0) (h1 : a1) (h2 : a2) (h3 : a3) (h4 : a4) (h5 : a5) (h6 : a6) (h7 : a7) (h8 : a8) (h9 : a9) (h10 : a10) : A11 a0 a1 a2 a3 a4 a5 a6 a7 a8 a9 a10
inductive A12 (a0 a1 a2 a3 a4 a5 a6 a7 a8 a9 a10 a11 : Prop) : Prop
  | mk (h0 : a0) (h1 : a1) (h2 : a2) (h3 : a3) (h4 : a4) (h5 : a5) (h6 : a6) (h7 : a7) (h8 : a8) (h9 : a9) (h10 : a10) (h11 : a11) : A12 a0 a1 a2 a3 a4 a5 a6 a7 a8 a9 a10 a11
inductive A13 (a0 a1 a2 a3 a4 a5 a6 a7 a8 a9 a10 a11 a12 : Prop) : Prop
  | mk (h0 : a0) (h1 : a1) (h2 : a2) (h3 : a3) (h4 : a4) (h5 : a5) (h6 : a6) (h7 : a7) (h8 : a8) (h9 : a9) (h10 : a10) (h11 : a11) (h12 : a12) : A13 a0 a1 a2 a3 a4 a5 a6 a7 a8 a9 a10 a11 a12
inductive A14 (a0 a1 a2 a3 a4 a5 a6 a7 a8 a9 a10 a11 a12 a13 : Prop) : Prop
  | mk (h0 : a0) (h1 : a1) (h2 : a2) (h3 : a3) (h4 : a4) (h5 : a5) (h6 : a6) (h7 : a7) (h8 : a8) (h9 : a9) (h10 : a10) (h11 : a11) (h12 : a12) (h13 : a13) : A14 a0 a1 a2 a3 a4 a5 a6 a7 a8 a9 a10 a11 a12 a13
inductive A15 (a0 a1 a2 a3 a4 a5 a6 a7 a8 a9 a10 a11 a12 a13 a14 : Prop) : Prop
  | mk (h0 : a0) (h1 : a1) (h2 : a2) (h3 : a3) (h4 : a4) (h5 : a5) (h6 : a6) (h7 : a7) (h8 : a8) (h9 : a9) (h10 : a10) (h11 : a11) (h12 : a12) (h13 : a13) (h14 : a14) : A15 a0 a1 a2 a3 a4 a5 a6 a7 a8 a9 a10 a11 a12 a13 a14
inductive A16 (a0 a1 a2 a3 a4 a5 a6 a7 a8 a9 a10 a11 a12 a13 a14 a15 : Prop) : Prop
  | mk (h0 : a0) (h1 : a1) (h2 : a2) (h3 : a3) (h4 : a4) (h5 : a5) (h6 : a6) (h7 : a7) (h8 : a8) (h9 : a9) (h10 : a10) (h11 : a11) (h12 : a12) (h13 : a13) (h14 : a14) (h15 : a15) : A16 a0 a1 a2 a3 a4 a5 a6 a7 a8 a9 a10 a11 a12 a13 a14 a15
inductive A17 (a0 a1 a2 a3 a4 a5 a6 a7 a8 a9 a10 a11 a12 a13 a14 a15 a16 : Prop) : Prop
  | mk (h0 : a0) (h1 : a1) (h2 : a2) (h3 : a3) (h4 : a4) (h5 : a5) (h6 : a6) (h7 : a7) (h8 : a8) (h9 : a9) (h10 : a10) (h11 : a11) (h12 : a12) (h13 : a13) (h14 : a14) (h15 : a15) (h16 : a16) : A17 a0 a1 a2 a3 a4 a5 a6 a7 a8 a9 a10 a11 a12 a13 a14 a15 a16
inductive A18 (a0 a1 a2 a3 a4 a5 a6 a7 a8 a9 a10 a11 a12 a13 a14 a15 a16 a17 : Prop) : Prop
  | mk (h0 : a0) (h1 : a1) (h2 : a2) (h3 : a3) (h4 : a4) (h5 : a5) (h6 : a6) (h7 : a7) (h8 : a8) (h9 : a9) (h10 : a10) (h11 : a11) (h12 : a12) (h13 : a13) (h14 : a14) (h15 : a15) (h16 : a16) (h17 : a17) : A18 a0 a1 a2 a3 a4 a5 a6 a7 a8 a9 a10 a11 a12 a13 a14 a15 a16 a17
-- part Vc2
abbrev EV (Γ : Fm) (e : Expr) (loc : Loc) (g : Gl) (Q : MV → Loc → Gl → Prop) : Prop := TR Γ Rep (eval e Γ.env) loc g Q
abbrev EVS (Γ : Fm) (pos : Pos) (es : List Expr) (loc : Loc) (g : Gl) (Q : List MV → Loc → Gl → Prop) : Prop := TR Γ Reps (spliced (backTo pos (starEach es Γ.env))) loc g Q
def BINOP (Γ : Fm) (op : Operator) (a b : MV) (loc : Loc) (g : Gl) (Q : MV → Loc → Gl → Prop) : Prop :=
  ∀ a' b', Rep a a' → Rep b b' → TR Γ Rep (binaryOp op a' b') loc g Q
def IOP (Γ : Fm) (op : Operator) (a b : MV) (loc : Loc) (g : Gl) (Q : MV → Loc → Gl → Prop) : Prop :=
  ∀ a' b', Rep a a' → Rep b b' → TR Γ Rep (inplaceOp op a' b') loc g Q
def CMP (Γ : Fm) (op : CmpOp) (a b : MV) (loc : Loc) (g : Gl) (Q : MV → Loc → Gl → Prop) : Prop :=
  ∀ a' b', Rep a a' → Rep b b' → TR Γ Rep (compareOp op a' b') loc g Q
def UNOP (Γ : Fm) (op : UnaryOp) (a : MV) (loc : Loc) (g : Gl) (Q : MV → Loc → Gl → Prop) : Prop :=
  ∀ a', Rep a a' → TR Γ Rep (unaryOp op a') loc g Q
def TST (Γ : Fm) (e : Expr) (loc : Loc) (g : Gl) (Q : Bool → Loc → Gl → Prop) : Prop := TR Γ (fun b a => a = b) (isTrue e Γ.env (eval e Γ.env)) loc g Q
def TRU (Γ : Fm) (a : MV) (loc : Loc) (g : Gl) (Q : Bool → Loc → Gl → Prop) : Prop :=
  ∀ a', Rep a a' → TR Γ (fun b a => a = b) (truthy a') loc g Q
def ITEM (Γ : Fm) (v s : Expr) (o i : MV) (loc : Loc) (g : Gl) (Q : MV → Loc → Gl → Prop) : Prop :=
  ∀ o' i', Rep o o' → Rep i i' → TR Γ Rep (subscriptTail v s o' i') loc g Q
def CALL (Γ : Fm) (f : MV) (as : List MV) (loc : Loc) (g : Gl) (Q : MV → Loc → Gl → Prop) : Prop :=
  ∀ f' as', Rep f f' → Reps as as' → TR Γ Rep (call f' as') loc g Q

section
variable {Γ : Fm} {loc : Loc} {g : Gl} {Q : MV → Loc → Gl → Prop}

theorem EV_int {i : Int} {k : Nat} {pos : Pos} (h : Q (.int i) loc g) : EV Γ (.Constant (.int i) k pos) loc g Q :=
  fun _ m s _ _ RL S hp => wpAny_Constant_int (hp _ _ _ _ _ _ _ h (.int i _) RL S)
theorem EV_bool {b : Bool} {k : Nat} {pos : Pos} (h : Q (.bool b) loc g) : EV Γ (.Constant (.bool b) k pos) loc g Q :=
  fun _ m s _ _ RL S hp => Constant_bool (hp _ _ _ _ _ _ s.toks h (.bool b) RL S)
theorem EV_none {k : Nat} {pos : Pos} (h : Q .none loc g) : EV Γ (.Constant .none k pos) loc g Q :=
  fun _ m s _ _ RL S hp => Constant_none (hp _ _ _ _ _ _ s.toks h .none RL S)

theorem EV_name {x : Str} {pos : Pos} {v : MV} (hx : (x, v) ∈ loc) (hu : v ≠ .undef) (h : Q v loc g) (hd : (x == ("__debug__" : Str)) = false := by decide) : EV Γ (.Name x pos) loc g Q :=
  fun ok m s _ _ RL S hp => by
    obtain ⟨hk, hv⟩ := RL.2 x v hx
    obtain ⟨v', e, r⟩ := hv hu
    exact nameX_L S.fr e (hp v v' loc m g s.heap s.toks h r RL S) ok.kf hk hd
theorem EV_cell {x : Str} {pos : Pos} {v : MV} {c : Addr} {o : Obj} (hc : Γ.cl.lookup x = some c) (hm : (c, o) ∈ g) (hi : Is (.cell v) o) (h : Q v loc g) (hk : Γ.cs.names.lookup x = some .cell ∨ Γ.cs.names.lookup x = some .free)
    (hd : (x == ("__debug__" : Str)) = false := by decide) (hn : (x == ("__classdict__" : Str)) = false := by decide) : EV Γ (.Name x pos) loc g Q :=
  fun ok m s _ _ RL S hp => by
    have e := (S.obj hm).1
    cases hi with
    | cell rv hd' =>
      rcases hk with hk | hk
      · exact wpAny_Name (wpAny_loadName_cell (env := Γ.env) ok.kf hk hc ⟨o, e, hd'⟩ (hp _ _ loc m g s.heap s.toks h rv RL S)) hd
      · exact wpAny_Name (wpAny_loadName_free (env := Γ.env) ok.kf hk hc ⟨o, e, hd'⟩ (hp _ _ loc m g s.heap s.toks h rv RL S) hn) hd
theorem EV_glob {x : Str} {pos : Pos} {f : Addr} (e : nsIn Γ.K mainGlobals x = some (some (.ref f))) (hk : Γ.cs.names.lookup x = some .globalImplicit) (h : Q (.ref f) loc g)
    (hd : (x == ("__debug__" : Str)) = false := by decide) : EV Γ (.Name x pos) loc g Q :=
  fun ok m s _ _ RL S hp => by
    obtain ⟨p, loose, mean, mg, mb, T⟩ := ok.top
    exact nameX_K S.fr ok.K (topRead_of T) e (hp _ _ loc m g s.heap s.toks h (.ref f) RL S) ok.kf hk hd
theorem EV_boot {x : Str} {pos : Pos} {v : MV} {v' : Value} (e : nsIn Γ.K mainGlobals x = some none) (hv : bootBuiltins x = some v') (r : Rep v v') (hk : Γ.cs.names.lookup x = some .globalImplicit) (h : Q v loc g)
    (hn : x ≠ "__name__" := by decide) (hd : (x == ("__debug__" : Str)) = false := by decide) : EV Γ (.Name x pos) loc g Q :=
  fun ok m s _ _ RL S hp => by
    obtain ⟨p, loose, mean, mg, mb, T⟩ := ok.top
    exact nameX_B S.fr ok.K (topRead_of T) e hv hn (hp _ _ loc m g s.heap s.toks h r RL S) ok.kf hk hd

theorem EV_bin {l r : Expr} {op : Operator} {pos : Pos} (h : EV Γ l loc g fun a loc g => EV Γ r loc g fun b loc g => BINOP Γ op a b loc g Q) : EV Γ (.BinOp l op r pos) loc g Q :=
  fun ok m s X _ RL S hp => wpAny_BinOp (h.go ok RL S fun a a' _ _ _ _ _ h1 r1 RL S => h1.go ok RL S fun b b' _ _ _ _ _ h2 r2 RL S => (h2 a' b' r1 r2).go ok RL S fun b a loc' m' g' h' tk' q r RL S => hp b a loc' m' g' h' tk' q r RL S)
theorem EV_un {x : Expr} {op : UnaryOp} {pos : Pos} (h : EV Γ x loc g fun a loc g => UNOP Γ op a loc g Q) : EV Γ (.UnaryOp op x pos) loc g Q :=
  fun ok m s X _ RL S hp => UnaryOp_ (h.go ok RL S fun a a' _ _ _ _ _ h1 r1 RL S => (h1 a' r1).go ok RL S fun b a loc' m' g' h' tk' q r RL S => hp b a loc' m' g' h' tk' q r RL S)
theorem EV_cmp {l r : Expr} {op : CmpOp} {pos : Pos} (h : EV Γ l loc g fun a loc g => EV Γ r loc g fun b loc g => CMP Γ op a b loc g Q) (hm : behindInMarks op r = false := by with_unfolding_all rfl) : EV Γ (.Compare l [op] [r] pos) loc g Q :=
  fun ok m s X _ RL S hp => wpAny_Compare1 (h.go ok RL S fun a a' _ _ _ _ _ h1 r1 RL S => h1.go ok RL S fun b b' _ _ _ _ _ h2 r2 RL S => (h2 a' b' r1 r2).go ok RL S fun b a loc' m' g' h' tk' q r RL S => hp b a loc' m' g' h' tk' q r RL S) hm
theorem EV_ife {t b o : Expr} {pos : Pos} (h : TST Γ t loc g fun c loc g => (c = true → EV Γ b loc g Q) ∧ (c = false → EV Γ o loc g Q)) : EV Γ (.IfExp t b o pos) loc g Q :=
  fun ok m s X _ RL S hp => IfExp_ (h.go ok RL S fun c c' _ _ _ _ _ h1 r1 RL S => by
    subst r1
    cases c' with
    | true => exact (h1.1 rfl).go ok RL S fun b a loc' m' g' h' tk' q r RL S => hp b a loc' m' g' h' tk' q r RL S
    | false => exact (h1.2 rfl).go ok RL S fun b a loc' m' g' h' tk' q r RL S => hp b a loc' m' g' h' tk' q r RL S)
theorem EV_and {e₁ e₂ : Expr} {pos : Pos} (h : EV Γ e₁ loc g fun a loc g => TRU Γ a loc g fun c loc g => (c = true → EV Γ e₂ loc g Q) ∧ (c = false → Q a loc g)) : EV Γ (.BoolOp .And [e₁, e₂] pos) loc g Q :=
  fun ok m s X _ RL S hp => BoolOp_and (h.go ok RL S fun a a' _ _ _ _ _ h1 r1 RL S => (h1 a' r1).go ok RL S fun c c' _ _ _ _ _ h2 r2 RL S => by
    subst r2
    cases c' with
    | true => exact BoolOp_one ((h2.1 rfl).go ok RL S fun b a loc' m' g' h' tk' q r RL S => hp b a loc' m' g' h' tk' q r RL S)
    | false => exact hp a a' _ _ _ _ _ (h2.2 rfl) r1 RL S)
theorem EV_or {e₁ e₂ : Expr} {pos : Pos} (h : EV Γ e₁ loc g fun a loc g => TRU Γ a loc g fun c loc g => (c = false → EV Γ e₂ loc g Q) ∧ (c = true → Q a loc g)) : EV Γ (.BoolOp .Or [e₁, e₂] pos) loc g Q :=
  fun ok m s X _ RL S hp => BoolOp_or (h.go ok RL S fun a a' _ _ _ _ _ h1 r1 RL S => (h1 a' r1).go ok RL S fun c c' _ _ _ _ _ h2 r2 RL S => by
    subst r2
    cases c' with
    | false => exact BoolOp_one ((h2.1 rfl).go ok RL S fun b a loc' m' g' h' tk' q r RL S => hp b a loc' m' g' h' tk' q r RL S)
    | true => exact hp a a' _ _ _ _ _ (h2.2 rfl) r1 RL S)

-- argument lists
theorem EVS_nil {pos : Pos} {Q : List MV → Loc → Gl → Prop} (h : Q [] loc g) : EVS Γ pos [] loc g Q :=
  fun ok m s X _ RL S hp => args_nil (hp _ _ loc m g s.heap s.toks h .nil RL S)
theorem EVS_cons {pos : Pos} {e : Expr} {es : List Expr} {Q : List MV → Loc → Gl → Prop} (h : EV Γ e loc g fun v loc g => EVS Γ pos es loc g fun vs loc g => Q (v :: vs) loc g)
    (he : starEach (e :: es) Γ.env = (false, eval e Γ.env) :: starEach es Γ.env := by exact rfl) : EVS Γ pos (e :: es) loc g Q :=
  fun ok m s X _ RL S hp => args_cons (h.go ok RL S fun a a' _ _ _ _ _ h1 r1 RL S => h1.go ok RL S fun as as' loc' m' g' h' tk' q r RL S => hp (a :: as) (a' :: as') loc' m' g' h' tk' q (.cons r1 r) RL S) he
theorem EV_list {es : List Expr} {pos : Pos} (h : EVS Γ pos es loc g fun vs loc g => vs.length ≤ 1000 ∧ ∀ r o, Is (.list vs) o → Q (.ref r) loc ((r, o) :: g)) : EV Γ (.List es pos) loc g Q :=
  fun ok m s X _ RL S hp => List_ (h.go ok RL S fun vs vs' loc' m' g' h' tk' q r RL S => by
    refine newList_K S.fr S.news (fun l h1 F1 W1 hl => ?_) (by rw [sizeLine_eq, r.length]; omega)
    exact hp _ _ loc' m' _ h1 tk' (q.2 l _ (.list 0 r)) (.ref l) RL (S.push F1 W1 (fun p hp => Nat.ne_of_lt (hl p hp))))
theorem EV_tup {es : List Expr} {k : Nat} {pos : Pos} (h : EVS Γ pos es loc g fun vs loc g => vs.length ≤ 1000 ∧ ∀ r o, Is (.tup vs) o → Q (.ref r) loc ((r, o) :: g)) : EV Γ (.Tuple es k pos) loc g Q :=
  fun ok m s X _ RL S hp => wpAny_Tuple (h.go ok RL S fun vs vs' loc' m' g' h' tk' q r RL S => by
    refine ⟨by rw [sizeLine_eq, r.length]; omega, ?_⟩
    exact hp _ _ loc' m' _ _ tk' (q.2 _ _ (.tup 0 r)) (.ref _) RL (S.push (S.fr.push _) (S.news.push S.fr _) (news_ne S.news)))

-- subscripts
theorem EV_sub {v s : Expr} {pos : Pos} (h : EV Γ v loc g fun o loc g => EV Γ s loc g fun i loc g => ITEM Γ v s o i loc g Q) : EV Γ (.Subscript v s pos) loc g Q :=
  fun ok m st X _ RL S hp => Subscript_ (h.go ok RL S fun a a' _ _ _ _ _ h1 r1 RL S => h1.go ok RL S fun b b' _ _ _ _ _ h2 r2 RL S => (h2 a' b' r1 r2).go ok RL S fun b a loc' m' g' h' tk' q r RL S => hp b a loc' m' g' h' tk' q r RL S)
theorem seqIndex_pos {k : Int} {n : Nat} (h0 : 0 ≤ k) (h1 : k < n) : seqIndex? k n = some k.toNat := by
  unfold seqIndex?
  simp only [if_neg (Int.not_lt.mpr h0)]
  simp [h0, h1]
theorem ITEM_list {v s : Expr} {l : Addr} {k : Int} {xs : List MV} {x : MV} {ob : Obj} (hm : (l, ob) ∈ g) (hi : Is (.list xs) ob) (h0 : 0 ≤ k) (hx : xs[k.toNat]? = some x) (hz : k < 2 ^ 63) (h : Q x loc g)
    (hs : ∀ o i, subscripted s false o i = operate [o, i] (getItem o i) := by intro _ _; exact rfl) : ITEM Γ v s (.ref l) (.int k) loc g Q := by
  intro o' i' r1 r2 ok m st X P RL S hp
  cases r1; cases r2
  obtain ⟨vs, r, hl⟩ := S.isList hm hi
  obtain ⟨y, e, ry⟩ := r.get hx
  exact tail_any hl.typeIs slot_list_getitem.lookup (wpAny_getItem_list hl h0 hz (by simpa using e) (hp x y loc m g st.heap st.toks h ry RL S)) (hs _ _)
theorem ITEM_neg {v s : Expr} {l : Addr} {k : Int} {xs : List MV} {x : MV} {ob : Obj} (hm : (l, ob) ∈ g) (hi : Is (.list xs) ob) (h0 : k < 0) (h1 : -(xs.length : Int) ≤ k) (hx : xs[(k + xs.length).toNat]? = some x) (hz : -(2 ^ 63) ≤ k) (h : Q x loc g)
    (hs : ∀ o i, subscripted s false o i = operate [o, i] (getItem o i) := by intro _ _; exact rfl) : ITEM Γ v s (.ref l) (.int k) loc g Q := by
  intro o' i' r1 r2 ok m st X P RL S hp
  cases r1; cases r2
  obtain ⟨vs, r, hl⟩ := S.isList hm hi
  obtain ⟨y, e, ry⟩ := r.get hx
  exact tail_any hl.typeIs slot_list_getitem.lookup (wpAny_getItem_list_neg hl h0 (by simpa [r.length] using h1) hz (by simpa [r.length] using e) (hp x y loc m g st.heap st.toks h ry RL S)) (hs _ _)
theorem ITEM_tup {v s : Expr} {l : Addr} {k : Int} {xs : List MV} {x : MV} {ob : Obj} (hm : (l, ob) ∈ g) (hi : Is (.tup xs) ob) (h0 : 0 ≤ k) (hx : xs[k.toNat]? = some x) (hz : k < 2 ^ 63) (h : Q x loc g)
    (hs : ∀ o i, subscripted s false o i = operate [o, i] (getItem o i) := by intro _ _; exact rfl) : ITEM Γ v s (.ref l) (.int k) loc g Q := by
  intro o' i' r1 r2 ok m st X P RL S hp
  cases r1; cases r2
  obtain ⟨vs, r, hl⟩ := S.isTup hm hi
  obtain ⟨y, e, ry⟩ := r.get hx
  have hlt : k.toNat < vs.length := (List.getElem?_eq_some_iff.mp e).1
  exact item_tupleT hl (by omega) hz (seqIndex_pos h0 (by omega)) e (hp x y loc m g st.heap st.toks h ry RL S) (hs _ _)

inductive PartIs : MV → Option Int → Prop
  | none : PartIs .none none
  | int (i : Int) : PartIs (.int i) (some i)
theorem PartIs.is {v : MV} {v' : Value} {k : Option Int} (p : PartIs v k) (r : Rep v v') : IsPart v' k := by
  cases p <;> cases r <;> constructor
def EVP (Γ : Fm) (e : Option Expr) (loc : Loc) (g : Gl) (Q : MV → Loc → Gl → Prop) : Prop := TR Γ Rep (evalPart e Γ.env) loc g Q
theorem EVP_none (h : Q .none loc g) : EVP Γ none loc g Q := fun ok m s X _ RL S hp => evalPart_none_step (hp _ _ loc m g s.heap s.toks h .none RL S)
theorem EVP_some {e : Expr} (h : EV Γ e loc g Q) : EVP Γ (some e) loc g Q := h
def pickL (xs : List MV) (lo hi : Option Int) : List MV := (xs.drop (lo.elim 0 (clipAt xs.length))).take (hi.elim xs.length (clipAt xs.length) - lo.elim 0 (clipAt xs.length))
theorem pickL_reps {xs : List MV} {vs : List Value} (r : Reps xs vs) (lo hi : Option Int) : Reps (pickL xs lo hi) (slicePick vs.toArray lo hi none).toList := by
  rw [slicePick_plain]
  have : vs.toArray.size = xs.length := by simp [r.length]
  rw [this]
  exact (r.drop _).take _
theorem EV_slice {v : Expr} {lo hi : Option Expr} {p pos : Pos} (h : EV Γ v loc g fun o loc g => EVP Γ lo loc g fun a loc g => EVP Γ hi loc g fun b loc g =>
      ∃ l ob xs ka kb, o = .ref l ∧ (l, ob) ∈ g ∧ Is (.list xs) ob ∧ xs.length ≤ 1000 ∧ PartIs a ka ∧ PartIs b kb ∧ ∀ r o, Is (.list (pickL xs ka kb)) o → Q (.ref r) loc ((r, o) :: g)) : EV Γ (.Subscript v (.Slice lo hi none p) pos) loc g Q :=
  fun ok m s X _ RL S hp => Subscript_ (h.go ok RL S fun o o' _ _ _ _ _ h1 r1 RL S => wpAny_Slice (h1.go ok RL S fun a a' _ _ _ _ _ h2 r2 RL S => h2.go ok RL S fun b b' loc' m' g' hh tk q r3 RL S => evalPart_none_step (by
    obtain ⟨l, ob, xs, ka, kb, rfl, hm, hi, hz, pa, pb, q⟩ := q
    cases r1
    obtain ⟨vs, rv, hl⟩ := S.isList hm hi
    have F1 := S.fr.push { cls := .type "slice", data := .fields #[a', b', .none] }
    have W1 : News Γ.h₀ Γ.L (hh.push { cls := .type "slice", data := .fields #[a', b', .none] }) (X ++ g') := S.news.grown fun _ _ e => Heap.get?_push_of_some _ e
    refine tail_any (Heap.IsList.typeIs (s := { s with heap := hh.push { cls := .type "slice", data := .fields #[a', b', .none] }, toks := tk }) (hl.push _)) list_getitem_lookup
      (wpAny_getItem_list_slice (hl.push _) (Heap.IsSliceOf.new ..) (pa.is r2) (pb.is r3) .none (by simp) ?_ (by rw [sizeLine_eq]; simp [rv.length]; omega)) rfl
    have := pickL_reps rv ka kb
    have e : slicePick vs.toArray ka kb none = (slicePick vs.toArray ka kb none).toList.toArray := by simp
    refine hp _ _ loc' m' _ _ tk (q _ _ ?_) (.ref _) RL (S.push (F1.push _) (W1.push F1 _) ?_)
    · rw [e]; exact .list 0 this
    · intro p hp; exact news_ne W1 p hp)))
end
-- part Vc3
theorem Reps.none {vs : List Value} (h : Reps [] vs) : vs = [] := by cases h; rfl
theorem Reps.one {x : MV} {xs : List MV} {vs : List Value} (h : Reps (x :: xs) vs) : ∃ v us, vs = v :: us ∧ Rep x v ∧ Reps xs us := by
  cases h with
  | cons a b => exact ⟨_, _, rfl, a, b⟩
section
variable {Γ : Fm} {loc : Loc} {g : Gl} {Q : MV → Loc → Gl → Prop} {i j : Int}
theorem BIN_add (h : Q (.int (i + j)) loc g) : BINOP Γ .Add (.int i) (.int j) loc g Q := by
  intro a b r1 r2 ok m s X P RL S hp; cases r1; cases r2
  exact PyProof.Rows.add_int (hp _ _ loc m g s.heap _ h (.int _ _) RL S)
theorem BIN_sub (h : Q (.int (i - j)) loc g) : BINOP Γ .Sub (.int i) (.int j) loc g Q := by
  intro a b r1 r2 ok m s X P RL S hp; cases r1; cases r2
  exact PyProof.Rows.sub_int (hp _ _ loc m g s.heap _ h (.int _ _) RL S)
theorem BIN_mul (h1 : -(2 ^ 64) < i) (h2 : i < 2 ^ 64) (h : Q (.int (i * j)) loc g) : BINOP Γ .Mult (.int i) (.int j) loc g Q := by
  intro a b r1 r2 ok m s X P RL S hp; cases r1; cases r2
  exact PyProof.Rows.mul_int (hp _ _ loc m g s.heap _ h (.int _ _) RL S) (IntMulOk.of_left (intBits_le_64 h1 h2))
theorem BIN_div (hj : 0 < j) (hj2 : j < 1073741824) (h : Q (.int (i / j)) loc g) : BINOP Γ .FloorDiv (.int i) (.int j) loc g Q := by
  intro a b r1 r2 ok m s X P RL S hp; cases r1; cases r2
  refine PyProof.Rows.floordiv_int (by omega) ?_ (.inl (PyProof.noPylong_small (by omega)))
  rw [Int.fdiv_eq_ediv_of_nonneg _ (by omega)]
  exact hp _ _ loc m g s.heap _ h (.int _ _) RL S
theorem BIN_mod (hj : 0 < j) (h : Q (.int (i % j)) loc g) : BINOP Γ .Mod (.int i) (.int j) loc g Q := by
  intro a b r1 r2 ok m s X P RL S hp; cases r1; cases r2
  refine PyProof.Rows.mod_int' (by omega) ?_
  rw [Int.fmod_eq_emod_of_nonneg _ (by omega)]
  exact hp _ _ loc m g s.heap _ h (.int _ _) RL S
theorem BIN_and (h : Q (.int (Builtin.bitAnd i j)) loc g) : BINOP Γ .BitAnd (.int i) (.int j) loc g Q := by
  intro a b r1 r2 ok m s X P RL S hp; cases r1; cases r2
  exact PyProof.Rows.and_int (hp _ _ loc m g s.heap _ h (.int _ _) RL S)
theorem BIN_or (h : Q (.int (Builtin.bitOr i j)) loc g) : BINOP Γ .BitOr (.int i) (.int j) loc g Q := by
  intro a b r1 r2 ok m s X P RL S hp; cases r1; cases r2
  exact PyProof.Rows.or_int (hp _ _ loc m g s.heap _ h (.int _ _) RL S)
theorem BIN_shr (hj : 0 ≤ j) (h : Q (.int (i / 2 ^ j.toNat)) loc g) : BINOP Γ .RShift (.int i) (.int j) loc g Q := by
  intro a b r1 r2 ok m s X P RL S hp; cases r1; cases r2
  refine PyProof.Rows.rshift_int hj ?_
  rw [Int.fdiv_eq_ediv_of_nonneg _ (Int.le_of_lt (Int.pow_pos (by decide)))]
  exact hp _ _ loc m g s.heap _ h (.int _ _) RL S
theorem BIN_shl (hj : 0 ≤ j) (hj2 : j ≤ 1000000) (hi : i.natAbs < 2 ^ 64) (h : Q (.int (i * 2 ^ j.toNat)) loc g) : BINOP Γ .LShift (.int i) (.int j) loc g Q := by
  intro a b r1 r2 ok m s X P RL S hp; cases r1; cases r2
  exact PyProof.Rows.lshift_int_small hj hj2 hi (hp _ _ loc m g s.heap _ h (.int _ _) RL S)
theorem BIN_pow (hj : 0 ≤ j) (hj2 : j ≤ 1000000) (hi : i.natAbs < 2 ^ 64) (h : Q (.int (i ^ j.toNat)) loc g) : BINOP Γ .Pow (.int i) (.int j) loc g Q := by
  intro a b r1 r2 ok m s X P RL S hp; cases r1; cases r2
  exact PyProof.Rows.pow_int_small hj hj2 hi (hp _ _ loc m g s.heap _ h (.int _ _) RL S)
theorem IOP_add (h : Q (.int (i + j)) loc g) : IOP Γ .Add (.int i) (.int j) loc g Q := by
  intro a b r1 r2 ok m s X P RL S hp; cases r1; cases r2
  exact PyProof.Rows.iadd_int (hp _ _ loc m g s.heap _ h (.int _ _) RL S)
theorem IOP_sub (h : Q (.int (i - j)) loc g) : IOP Γ .Sub (.int i) (.int j) loc g Q := by
  intro a b r1 r2 ok m s X P RL S hp; cases r1; cases r2
  exact PyProof.Rows.isub_int (hp _ _ loc m g s.heap _ h (.int _ _) RL S)
theorem IOP_shr (hj : 0 ≤ j) (h : Q (.int (i / 2 ^ j.toNat)) loc g) : IOP Γ .RShift (.int i) (.int j) loc g Q := by
  intro a b r1 r2 ok m s X P RL S hp; cases r1; cases r2
  refine PyProof.Rows.irshift_int hj ?_
  rw [Int.fdiv_eq_ediv_of_nonneg _ (Int.le_of_lt (Int.pow_pos (by decide)))]
  exact hp _ _ loc m g s.heap _ h (.int _ _) RL S
theorem IOP_or (h : Q (.int (Builtin.bitOr i j)) loc g) : IOP Γ .BitOr (.int i) (.int j) loc g Q := by
  intro a b r1 r2 ok m s X P RL S hp; cases r1; cases r2
  exact PyProof.Rows.ior_int (hp _ _ loc m g s.heap _ h (.int _ _) RL S)
theorem IOP_mod (hj : 0 < j) (h : Q (.int (i % j)) loc g) : IOP Γ .Mod (.int i) (.int j) loc g Q := by
  intro a b r1 r2 ok m s X P RL S hp; cases r1; cases r2
  refine PyProof.Rows.imod_int (by omega) ?_
  rw [Int.fmod_eq_emod_of_nonneg _ (by omega)]
  exact hp _ _ loc m g s.heap _ h (.int _ _) RL S
theorem UN_neg (h : Q (.int (-i)) loc g) : UNOP Γ .USub (.int i) loc g Q := by
  intro a r1 ok m s X P RL S hp; cases r1
  exact PyProof.Rows.neg_int (hp _ _ loc m g s.heap _ h (.int _ _) RL S)

theorem BIN_cat {l l' : Addr} {xs ys : List MV} {o o' : Obj} (h1 : (l, o) ∈ g) (i1 : Is (.list xs) o) (h2 : (l', o') ∈ g) (i2 : Is (.list ys) o') (hz : xs.length + ys.length ≤ 1000) (h : ∀ r o, Is (.list (xs ++ ys)) o → Q (.ref r) loc ((r, o) :: g)) : BINOP Γ .Add (.ref l) (.ref l') loc g Q := by
  intro a b r1 r2 ok m s X P RL S hp; cases r1; cases r2
  obtain ⟨vs, rv, hl⟩ := S.isList h1 i1
  obtain ⟨us, ru, hl'⟩ := S.isList h2 i2
  refine kmk_add_lit S.fr S.news hl hl' rfl (fun d h1 F1 W1 hd => ?_) (by rw [sizeLine_eq]; simp [rv.length, ru.length]; omega)
  refine hp _ _ loc m _ h1 s.toks (h d _ ?_) (.ref d) RL (S.push F1 W1 (fun p hp => Nat.ne_of_lt (hd p hp)))
  simpa using Is.list 0 (rv.append ru)
theorem Reps.rep {xs : List MV} {vs : List Value} (h : Reps xs vs) : ∀ n, Reps (List.replicate n xs).flatten (List.replicate n vs).flatten
  | 0 => by simp; exact .nil
  | n + 1 => by simp only [List.replicate_succ, List.flatten_cons]; exact h.append (Reps.rep h n)
theorem BIN_rep {l : Addr} {xs : List MV} {k : Int} {o : Obj} (h1 : (l, o) ∈ g) (i1 : Is (.list xs) o) (hk : -(2 ^ 63) ≤ k) (hk2 : k < 2 ^ 63) (hz : xs.length * k.toNat ≤ 256) (h : ∀ r o, Is (.list (List.replicate k.toNat xs).flatten) o → Q (.ref r) loc ((r, o) :: g)) : BINOP Γ .Mult (.ref l) (.int k) loc g Q := by
  intro a b r1 r2 ok m s X P RL S hp; cases r1; cases r2
  obtain ⟨vs, rv, hl⟩ := S.isList h1 i1
  refine KMa.mul S.fr S.news hl hk hk2 (by rw [rv.length]; exact hz) rfl (fun d h1 F1 W1 hd => ?_)
  exact hp _ _ loc m _ h1 s.toks (h d _ (.list 0 (rv.rep _))) (.ref d) RL (S.push F1 W1 (fun p hp => Nat.ne_of_lt (hd p hp)))

-- comparisons
theorem CMP_eq (h : Q (.bool (decide (i = j))) loc g) : CMP Γ .Eq (.int i) (.int j) loc g Q := by
  intro a b r1 r2 ok m s X P RL S hp; cases r1; cases r2
  exact PyProof.Rows.eq_int (hp _ _ loc m g s.heap s.toks h (by rw [show (i == j) = decide (i = j) from rfl]; exact .bool _) RL S)
theorem CMP_ne (h : Q (.bool (decide (i ≠ j))) loc g) : CMP Γ .NotEq (.int i) (.int j) loc g Q := by
  intro a b r1 r2 ok m s X P RL S hp; cases r1; cases r2
  exact PyProof.Rows.ne_int (hp _ _ loc m g s.heap s.toks h (by rw [show (i != j) = decide (i ≠ j) by by_cases q : i = j <;> simp [q]]; exact .bool _) RL S)
theorem CMP_lt (h : Q (.bool (decide (i < j))) loc g) : CMP Γ .Lt (.int i) (.int j) loc g Q := by
  intro a b r1 r2 ok m s X P RL S hp; cases r1; cases r2
  exact PyProof.Rows.lt_int (hp _ _ loc m g s.heap s.toks h (.bool _) RL S)
theorem CMP_gt (h : Q (.bool (decide (j < i))) loc g) : CMP Γ .Gt (.int i) (.int j) loc g Q := by
  intro a b r1 r2 ok m s X P RL S hp; cases r1; cases r2
  exact PyProof.Rows.gt_int (hp _ _ loc m g s.heap s.toks h (.bool _) RL S)
theorem CMP_le (h : Q (.bool (decide (i ≤ j))) loc g) : CMP Γ .LtE (.int i) (.int j) loc g Q := by
  intro a b r1 r2 ok m s X P RL S hp; cases r1; cases r2
  exact PyProof.Rows.le_int (hp _ _ loc m g s.heap s.toks h (.bool _) RL S)
theorem CMP_ge (h : Q (.bool (decide (j ≤ i))) loc g) : CMP Γ .GtE (.int i) (.int j) loc g Q := by
  intro a b r1 r2 ok m s X P RL S hp; cases r1; cases r2
  exact PyProof.Rows.ge_int (hp _ _ loc m g s.heap s.toks h (.bool _) RL S)
theorem CMP_list {l l' : Addr} {ns ms : List Int} {o o' : Obj} (h1 : (l, o) ∈ g) (i1 : Is (.list (nums ns)) o) (h2 : (l', o') ∈ g) (i2 : Is (.list (nums ms)) o') (h : Q (.bool (decide (ns = ms))) loc g) : CMP Γ .Eq (.ref l) (.ref l') loc g Q := by
  intro a b r1 r2 ok m s X P RL S hp; cases r1; cases r2
  obtain ⟨vs, rv, hl⟩ := S.isList h1 i1
  obtain ⟨us, ru, hl'⟩ := S.isList h2 i2
  exact eq_intsK hl rv.nums hl' ru.nums (by have := ok.un; omega) (hp _ _ loc m g s.heap s.toks h (.bool _) RL S)
theorem CMP_isn {a : MV} (hu : a ≠ .none) (h : Q (.bool false) loc g) : CMP Γ .Is a .none loc g Q := by
  intro a b r1 r2 ok m s X P RL S hp; cases r2
  refine is_none_ne (fun e => ?_) (hp _ _ loc m g s.heap s.toks h (.bool _) RL S)
  subst e; cases r1; exact hu rfl
theorem CMP_isnn (h : Q (.bool true) loc g) : CMP Γ .Is .none .none loc g Q := by
  intro a b r1 r2 ok m s X P RL S hp; cases r1; cases r2
  exact PyProof.Rows.is_none_none (hp _ _ loc m g s.heap s.toks h (.bool _) RL S)

-- truth
theorem TRU_bool {b : Bool} {Q : Bool → Loc → Gl → Prop} (h : Q b loc g) : TRU Γ (.bool b) loc g Q := by
  intro a r1 ok m s X P RL S hp; cases r1
  exact wpAny_truthy_bool (hp _ _ loc m g s.heap s.toks h rfl RL S)
theorem TST_cmp {l r : Expr} {op : CmpOp} {pos : Pos} {Q : Bool → Loc → Gl → Prop} (h : EV Γ l loc g fun a loc g => EV Γ r loc g fun b loc g => CMP Γ op a b loc g fun c loc g => TRU Γ c loc g Q)
    (hm : behindInMarks op r = false := by with_unfolding_all rfl) : TST Γ (.Compare l [op] [r] pos) loc g Q :=
  fun ok m s X _ RL S hp => wpAny_isTrue_Compare1 (h.go ok RL S fun a a' _ _ _ _ _ h1 r1 RL S => h1.go ok RL S fun b b' _ _ _ _ _ h2 r2 RL S => (h2 a' b' r1 r2).go ok RL S fun c c' _ _ _ _ _ h3 r3 RL S => (h3 c' r3).go ok RL S fun b a loc' m' g' h' tk' q r RL S => hp b a loc' m' g' h' tk' q r RL S) hm
theorem TST_and {e₁ e₂ : Expr} {pos : Pos} {Q : Bool → Loc → Gl → Prop} (h : TST Γ e₁ loc g fun c loc g => (c = true → TST Γ e₂ loc g Q) ∧ (c = false → Q false loc g)) : TST Γ (.BoolOp .And [e₁, e₂] pos) loc g Q :=
  fun ok m s X _ RL S hp => isTrue_and (h.go ok RL S fun c c' _ _ _ _ _ h1 r1 RL S => by
    subst r1
    cases c' with
    | false => exact hp false false _ _ _ _ _ (h1.2 rfl) rfl RL S
    | true => exact isTrue_and ((h1.1 rfl).go ok RL S fun c c' _ _ _ _ _ h1 r1 RL S => by
        subst r1
        cases c' with
        | false => exact hp false false _ _ _ _ _ h1 rfl RL S
        | true => exact isTrue_and_nil (hp true true _ _ _ _ _ h1 rfl RL S)))
theorem TST_or {e₁ e₂ : Expr} {pos : Pos} {Q : Bool → Loc → Gl → Prop} (h : TST Γ e₁ loc g fun c loc g => (c = false → TST Γ e₂ loc g Q) ∧ (c = true → Q true loc g)) : TST Γ (.BoolOp .Or [e₁, e₂] pos) loc g Q :=
  fun ok m s X _ RL S hp => isTrue_or (h.go ok RL S fun c c' _ _ _ _ _ h1 r1 RL S => by
    subst r1
    cases c' with
    | true => exact hp true true _ _ _ _ _ (h1.2 rfl) rfl RL S
    | false => exact isTrue_or ((h1.1 rfl).go ok RL S fun c c' _ _ _ _ _ h1 r1 RL S => by
        subst r1
        cases c' with
        | true => exact hp true true _ _ _ _ _ h1 rfl RL S
        | false => exact isTrue_or_nil (hp false false _ _ _ _ _ h1 rfl RL S)))
theorem TST_or3 {e₁ e₂ e₃ : Expr} {pos : Pos} {Q : Bool → Loc → Gl → Prop} (h : TST Γ e₁ loc g fun c loc g => (c = false → TST Γ e₂ loc g fun c loc g => (c = false → TST Γ e₃ loc g Q) ∧ (c = true → Q true loc g)) ∧ (c = true → Q true loc g)) : TST Γ (.BoolOp .Or [e₁, e₂, e₃] pos) loc g Q :=
  fun ok m s X _ RL S hp => isTrue_or (h.go ok RL S fun c c' _ _ _ _ _ h1 r1 RL S => by
    subst r1
    cases c' with
    | true => exact hp true true _ _ _ _ _ (h1.2 rfl) rfl RL S
    | false => exact TST_or (pos := pos) (h1.1 rfl) ok _ _ _ _ RL S (fun b a loc' m' g' h' tk' q r RL S => hp b a loc' m' g' h' tk' q r RL S))
theorem TST_or4 {e₁ e₂ e₃ e₄ : Expr} {pos : Pos} {Q : Bool → Loc → Gl → Prop} (h : TST Γ e₁ loc g fun c loc g => (c = false → TST Γ e₂ loc g fun c loc g => (c = false → TST Γ e₃ loc g fun c loc g => (c = false → TST Γ e₄ loc g Q) ∧ (c = true → Q true loc g)) ∧ (c = true → Q true loc g)) ∧ (c = true → Q true loc g)) : TST Γ (.BoolOp .Or [e₁, e₂, e₃, e₄] pos) loc g Q :=
  fun ok m s X _ RL S hp => isTrue_or (h.go ok RL S fun c c' _ _ _ _ _ h1 r1 RL S => by
    subst r1
    cases c' with
    | true => exact hp true true _ _ _ _ _ (h1.2 rfl) rfl RL S
    | false => exact TST_or3 (pos := pos) (h1.1 rfl) ok _ _ _ _ RL S (fun b a loc' m' g' h' tk' q r RL S => hp b a loc' m' g' h' tk' q r RL S))
theorem TST_plain {e : Expr} {Q : Bool → Loc → Gl → Prop} (h : EV Γ e loc g fun a loc g => TRU Γ a loc g Q)
    (he : isTrue e Γ.env (eval e Γ.env) = (do let v ← eval e Γ.env; standAt e.pos; holding [v] (truthy v)) := by exact rfl) : TST Γ e loc g Q :=
  fun ok m s X _ RL S hp => isTrue_plain (h.go ok RL S fun a a' _ _ _ _ _ h1 r1 RL S => (h1 a' r1).go ok RL S fun b a loc' m' g' h' tk' q r RL S => hp b a loc' m' g' h' tk' q r RL S) he

-- calls
inductive Keep (Γ : Fm) (g : Gl) : MV → Prop
  | bi (n : String) : Keep Γ g (.bi n)
  | ty (n : String) : Keep Γ g (.ty n)
  | glob {a : Addr} : keepIn Γ.K (.ref a) = true → Keep Γ g (.ref a)
  | made {a : Addr} {o : Obj} {fd : FuncData} : (a, o) ∈ g → o.data = .func fd → Keep Γ g (.ref a)
theorem EV_call {f e : Expr} {es : List Expr} {pos : Pos} (h : EV Γ f loc g fun fv loc g => EVS Γ pos (e :: es) loc g fun vs loc g => Keep Γ g fv ∧ CALL Γ fv vs loc g Q)
    (he : eval (.Call f (e :: es) [] pos) Γ.env = (do callWith pos (← eval f Γ.env) [] (backTo pos (starEach (e :: es) Γ.env)) (backToKw pos (keywordEach [] Γ.env))) := by exact rfl)
    (hs : starEach (e :: es) Γ.env = (false, eval e Γ.env) :: starEach es Γ.env := by exact rfl) (hplain : (backTo pos (starEach es Γ.env)).any (·.1) = false := by exact rfl) : EV Γ (.Call f (e :: es) [] pos) loc g Q :=
  fun ok m s X _ RL S hp => Call_ (h.go ok RL S fun fv fv' _ _ _ _ _ h1 r1 RL S => by
    refine callWith_of (P := fun h' => ∃ k, (k = Keeper.frame ∨ k = Keeper.machine ∨ k = Keeper.boundFrame) ∧ Looks (model Γ.prog Γ.w) h' (keeperOf fv') k)
      (by rw [hs]; show ((false || (backTo pos (starEach es Γ.env)).any (·.1)) || false) = false; rw [hplain]; rfl) (fun h' p => p) ?_
    have h1' : TR Γ Reps (spliced (backTo pos (starEach (e :: es) Γ.env))) _ _ _ := h1
    rw [hs] at h1' ⊢
    refine evalArgs_plain (TR.go h1' ok RL S fun vs vs' loc' m' g' h' tk' q r RL S => ?_)
    refine ⟨?_, (q.2 fv' vs' r1 r).go ok RL S fun b a loc' m' g' h' tk' q r RL S => hp b a loc' m' g' h' tk' q r RL S⟩
    cases q.1 with
    | bi n => cases r1; exact ⟨.machine, .inr (.inl rfl), Looks.of_pure rfl⟩
    | ty n => cases r1; exact ⟨.machine, .inr (.inl rfl), Looks.of_pure rfl⟩
    | glob hk => cases r1; exact keeps_K hk h' (ok.K.keeps S.fr.keep)
    | made hm hd =>
      cases r1
      have e := (S.obj hm).1
      exact ⟨.frame, .inl rfl, (Looks.ld (part := none) e).andThen (by rw [hd]; exact .now)⟩) he
theorem CALL_len {l : Addr} {xs : List MV} {o : Obj} (h1 : (l, o) ∈ g) (i1 : Is (.list xs) o) (hz : xs.length ≤ 1000) (h : Q (.int xs.length) loc g) : CALL Γ (.bi "len") [.ref l] loc g Q := by
  intro f' as' r1 r2 ok m s X P RL S hp
  cases r1
  obtain ⟨_, _, rfl, a, b⟩ := r2.one; cases a; obtain rfl := b.none
  obtain ⟨vs, rv, hl⟩ := S.isList h1 i1
  refine call_len_list hl (by simp [rv.length]; omega) ?_
  have e : (vs.toArray.size : Int) = (xs.length : Int) := by simp [rv.length]
  rw [e]
  exact hp _ _ loc m g s.heap _ h (.int _ _) RL S
theorem CALL_max (h : Q (.int (if j > i then j else i)) loc g) : CALL Γ (.bi "max") [.int i, .int j] loc g Q := by
  intro f' as' r1 r2 ok m s X P RL S hp
  cases r1
  obtain ⟨_, _, rfl, a, b⟩ := r2.one; cases a
  obtain ⟨_, _, rfl, a', b'⟩ := b.one; cases a'; obtain rfl := b'.none
  refine max_two_N ok.hh S.fr S.news fun h1 tk F1 W1 => ?_
  exact hp _ _ loc m g h1 tk h (by by_cases q : j > i <;> simp only [q, if_true, if_false] <;> exact .int _ _) RL (S.same F1 W1)

-- methods
theorem upd_mid {d : Addr} {o o' : Obj} {post : List (Addr × Obj)} (h2 : ∀ p ∈ post, p.1 ≠ d) : ∀ {pre : List (Addr × Obj)}, (∀ p ∈ pre, p.1 ≠ d) → Upd d o o' (pre ++ (d, o) :: post) (pre ++ (d, o') :: post)
  | [], _ => .head h2
  | p :: r, h1 => .tail (h1 p (.head _)) (upd_mid h2 fun q hq => h1 q (.tail _ hq))
theorem UpdG.split {a : Addr} {x x' : Obj} {g g' : Gl} (u : UpdG a x x' g g') : ∃ pre post, g = pre ++ (a, x) :: post ∧ g' = pre ++ (a, x') :: post := by
  induction u with
  | head => exact ⟨[], _, rfl, rfl⟩
  | tail _ ih => obtain ⟨pre, post, e, e'⟩ := ih; exact ⟨_ :: pre, post, by rw [e]; rfl, by rw [e']; rfl⟩
theorem UpdG.mem {a : Addr} {x x' : Obj} {g g' : Gl} (u : UpdG a x x' g g') : (a, x) ∈ g := by
  obtain ⟨pre, post, e, _⟩ := u.split; rw [e]; simp
theorem nodup_apart {X : List (Addr × Obj)} {a : Addr} {o : Obj} {pre post : List (Addr × Obj)} (D : ((X ++ (pre ++ (a, o) :: post)).map (·.1)).Nodup) : (∀ p ∈ X ++ pre, p.1 ≠ a) ∧ ∀ p ∈ post, p.1 ≠ a := by
  rw [← List.append_assoc, List.map_append, List.map_cons] at D
  have D' := List.nodup_append.mp D
  refine ⟨fun p hp e => ?_, fun p hp e => ?_⟩
  · exact D'.2.2 p.1 (List.mem_map_of_mem hp) a (List.mem_cons_self ..) e
  · exact (List.nodup_cons.mp D'.2.1).1 (List.mem_map.mpr ⟨p, hp, e⟩)
theorem St.upd {m : Str → Option Value} {h : Heap} {X : List (Addr × Obj)} (S : St Γ m h X g) {a : Addr} {o o' : Obj} {g' : Gl} (u : UpdG a o o' g g') :
    Upd a o o' (X ++ g) (X ++ g') ∧ ∀ m' h', Fr Γ.h₀ Γ.L h' m' → News Γ.h₀ Γ.L h' (X ++ g') → St Γ m' h' X g' := by
  have D := S.nodup
  obtain ⟨pre, post, rfl, rfl⟩ := u.split
  refine ⟨?_, fun m' h' F' W' => ⟨F', W', ?_⟩⟩
  · obtain ⟨d1, d2⟩ := nodup_apart D
    have := upd_mid (o := o) (o' := o') d2 d1
    simpa using this
  · simpa using D
theorem EV_append {o e : Expr} {pos apos : Pos} {pl : Sem Bool} (h : EV Γ o loc g fun ov loc g => ∃ l o₀ xs₀, ov = .ref l ∧ (l, o₀) ∈ g ∧ Is (.list xs₀) o₀ ∧ EV Γ e loc g fun v loc g => ∃ o xs, Is (.list xs) o ∧ xs.length ≤ 1000 ∧ ∀ o', Is (.list (xs ++ [v])) o' → ∃ g', UpdG l o o' g g' ∧ Q .none loc g')
    (hs : starEach [e] Γ.env = (false, eval e Γ.env) :: starEach [] Γ.env := by exact rfl)
    (he : eval (.Call (.Attribute o (Str.ofString "append") apos) [e] [] pos) Γ.env = (do
      let ov ← eval o Γ.env
      standAt apos.atName
      let (f, first) ← holding [ov] (getMethod ov (Str.ofString "append") pl)
      callWith pos f first (backTo pos (starEach [e] Γ.env)) []) := by exact rfl) : EV Γ (.Call (.Attribute o (Str.ofString "append") apos) [e] [] pos) loc g Q :=
  fun ok m s X _ RL S hp => MethodCall_ (pl := pl) (h.go ok RL S fun ov ov' _ _ _ _ _ h1 r1 RL S => by
    obtain ⟨l, o₀, xs₀, rfl, hm, hi, h1⟩ := h1
    cases r1
    cases hi with
    | list n rv =>
      refine listMethod_K S.news (List.mem_append_right _ hm) PySem.F.slot_list_append PySem.F.type_list_append ?_
      refine callWith_method1 (args_cons (h1.go ok RL S fun v v' loc' m' g' h' tk' q r RL S => args_nil ?_) hs) hs
      obtain ⟨o, xs, hi, hz, q⟩ := q
      cases hi with
      | list n rv =>
        obtain ⟨g'', u, q⟩ := q (listOf ((_ : Array Value).push v') (n + 1)) (by
          have := Is.list (n + 1) (rv.append (.cons r .nil))
          rw [← List.push_toArray] at this
          exact this)
        obtain ⟨U, back⟩ := S.upd u
        exact append_K S.fr S.news U (fun h1 F1 W1 => hp _ _ loc' m' g'' h1 tk' q .none RL (back _ _ F1 W1)) (by rw [sizeLine_eq]; simp [rv.length]; omega)) he
theorem EV_bits {o : Expr} {pos apos : Pos} {pl : Sem Bool} (h : EV Γ o loc g fun ov loc g => ∃ i, ov = .int i ∧ Q (.int (Builtin.Int.intBits i)) loc g)
    (he : eval (.Call (.Attribute o (Str.ofString "bit_length") apos) [] [] pos) Γ.env = (do
      let ov ← eval o Γ.env
      standAt apos.atName
      let (f, first) ← holding [ov] (getMethod ov (Str.ofString "bit_length") pl)
      callWith pos f first (backTo pos (starEach [] Γ.env)) []) := by exact rfl) : EV Γ (.Call (.Attribute o (Str.ofString "bit_length") apos) [] [] pos) loc g Q :=
  fun ok m s X _ RL S hp => MethodCall_ (pl := pl) (h.go ok RL S fun ov ov' loc' m' g' h' tk' h1 r1 RL S => by
    obtain ⟨i, rfl, q⟩ := h1
    cases r1
    exact PyProof.Rows.getMethod_int_bit_length (callWith_method0 (PyProof.Rows.call_int_bit_length (hp _ _ loc' m' g' h' _ q (.int _ _) RL S)))) he
end
-- part VcP
def defd : MV → Option MV
  | .undef => none
  | v => some v
def lookU (x : Str) : Loc → Option MV
  | [] => none
  | (y, v) :: r => match x == y with
    | true => defd v
    | false => lookU x r
def evP : Nat → Loc → Expr → Option MV
  | 0, _, _ => none
  | n + 1, loc, .Name x _ => match x == ("__debug__" : Str) with
    | true => none
    | false => lookU x loc
  | n + 1, loc, .Constant (.int i) _ _ => some (.int i)
  | n + 1, loc, .BinOp l op r _ => match evP n loc l, evP n loc r with
    | some (.int i), some (.int j) => match op with
      | .Add => some (.int (i + j))
      | .Sub => some (.int (i - j))
      | _ => none
    | _, _ => none
  | _, _, _ => none
def evPs : Loc → List Expr → Option (List MV)
  | _, [] => some []
  | loc, e :: es => match evP 3 loc e, evPs loc es with
    | some v, some vs => some (v :: vs)
    | _, _ => none
theorem lookU_mem {x : Str} {v : MV} : ∀ {loc : Loc}, lookU x loc = some v → (x, v) ∈ loc ∧ v ≠ .undef
  | (y, u) :: r, h => by
    unfold lookU at h
    split at h
    · next e =>
      cases eq_of_beq e
      cases u <;> simp [defd] at h <;> subst h <;> exact ⟨List.mem_cons_self .., by simp⟩
    · have := lookU_mem h; exact ⟨List.mem_cons_of_mem _ this.1, this.2⟩
theorem EV_pure {Γ : Fm} {loc : Loc} {g : Gl} {e : Expr} {v : MV} : ∀ {n : Nat} {Q : MV → Loc → Gl → Prop}, evP n loc e = some v → Q v loc g → EV Γ e loc g Q := by
  intro n
  induction n generalizing e v with
  | zero => intro Q h; simp [evP] at h
  | succ n ih =>
    intro Q h q
    cases e with
    | Name x p =>
      simp only [evP] at h
      split at h
      · cases h
      · next hd => have := lookU_mem h; exact EV_name this.1 this.2 q hd
    | Constant c k p =>
      cases c <;> simp only [evP] at h <;> first | (cases h; exact EV_int q) | cases h
    | BinOp l op r p =>
      simp only [evP] at h
      split at h
      · next i j h1 h2 =>
        refine EV_bin (ih h1 (ih h2 ?_))
        cases op <;> simp only at h <;> first | (cases h; first | exact BIN_add q | exact BIN_sub q) | cases h
      · cases h
    | _ => simp [evP] at h
theorem EVS_pure {Γ : Fm} {pos : Pos} {loc : Loc} {g : Gl} : ∀ {es : List Expr} {vs : List MV} {Q : List MV → Loc → Gl → Prop}, evPs loc es = some vs → Q vs loc g → EVS Γ pos es loc g Q
  | [], _, Q, h, q => by cases h; exact EVS_nil q
  | e :: es, vs, Q, h, q => by
    simp only [evPs] at h
    split at h
    · next v vs' h1 h2 =>
      cases h
      refine EVS_cons (EV_pure h1 (EVS_pure h2 q)) ?_
      cases e <;> first | rfl | (simp [evP] at h1)
    · cases h
-- part Vc4
inductive AF where
  | next | cont | brk | ret (v : MV)
inductive RepF : AF → Flow → Prop
  | next : RepF .next .next
  | cont : RepF .cont .cont
  | brk : RepF .brk .brk
  | ret {x v} : Rep x v → RepF (.ret x) (.ret v)
abbrev EX (Γ : Fm) (st : Stmt) (loc : Loc) (g : Gl) (K : AF → Loc → Gl → Prop) : Prop := TR Γ RepF (exec st Γ.env) loc g K
abbrev EXS (Γ : Fm) (st : List Stmt) (loc : Loc) (g : Gl) (K : AF → Loc → Gl → Prop) : Prop := TR Γ RepF (execs st Γ.env) loc g K
inductive SetLs : List Str → List MV → Loc → Loc → Prop
  | nil {l} : SetLs [] [] l l
  | cons {x v xs vs l l1 l2} : SetL x v l l1 → SetLs xs vs l1 l2 → SetLs (x :: xs) (v :: vs) l l2
inductive TgtN : List Expr → List Str → Prop
  | nil : TgtN [] []
  | cons {x p es xs} : TgtN es xs → TgtN (.Name x p :: es) (x :: xs)

theorem SetL.keys {x : Str} {v : MV} {l l' : Loc} (h : SetL x v l l') : l'.map (·.1) = l.map (·.1) := by
  induction h with
  | head => rfl
  | tail _ ih => simp [ih]
theorem SetL.was {x : Str} {v : MV} {l l' : Loc} (h : SetL x v l l') : ∃ u, (x, u) ∈ l := by
  induction h with
  | head => exact ⟨_, .head _⟩
  | tail _ ih => obtain ⟨u, hu⟩ := ih; exact ⟨u, .tail _ hu⟩
theorem SetL.now {x : Str} {v : MV} {l l' : Loc} (h : SetL x v l l') (D : (l.map (·.1)).Nodup) : ∀ y u, (y, u) ∈ l' → (y = x ∧ u = v) ∨ (y ≠ x ∧ (y, u) ∈ l) := by
  induction h with
  | head =>
    intro y u hm
    have hn := (List.nodup_cons.mp D).1
    rcases List.mem_cons.mp hm with e | hm
    · cases e; exact .inl ⟨rfl, rfl⟩
    · exact .inr ⟨fun e => hn (e ▸ List.mem_map_of_mem (f := (·.1)) hm), .tail _ hm⟩
  | @tail p r r' h ih =>
    intro y u hm
    have D' := List.nodup_cons.mp D
    rcases List.mem_cons.mp hm with e | hm
    · subst e
      refine .inr ⟨fun e => ?_, .head _⟩
      obtain ⟨w, hw⟩ := h.was
      exact D'.1 (e ▸ List.mem_map_of_mem (f := (·.1)) hw)
    · rcases ih D'.2 y u hm with q | q
      · exact .inl q
      · exact .inr ⟨q.1, .tail _ q.2⟩

section
variable {Γ : Fm} {loc : Loc} {g : Gl} {K : AF → Loc → Gl → Prop}
theorem RepL.set {m : Str → Option Value} {loc' : Loc} {x : Str} {v : MV} {v' : Value} (RL : RepL Γ loc m) (h : SetL x v loc loc') (r : Rep v v') : RepL Γ loc' (fun y => if y = x then some v' else m y) := by
  refine ⟨by rw [h.keys]; exact RL.1, fun y u hm => ?_⟩
  rcases h.now RL.1 y u hm with ⟨rfl, rfl⟩ | ⟨hy, hm⟩
  · obtain ⟨w, hw⟩ := h.was
    exact ⟨(RL.2 _ _ hw).1, fun _ => ⟨v', by simp, r⟩⟩
  · obtain ⟨a, b⟩ := RL.2 _ _ hm
    exact ⟨a, fun hu => by obtain ⟨w, e, rw'⟩ := b hu; exact ⟨w, by simp [hy, e], rw'⟩⟩
theorem store_go (ok : Γ.Ok) {m : Str → Option Value} {s : Shared} {X : List (Addr × Obj)} {loc' : Loc} {x : Str} {v : MV} {v' : Value} {Post : Unit → Shared → Prop} (RL : RepL Γ loc m) (S : St Γ m s.heap X g) (h : SetL x v loc loc') (r : Rep v v')
    (k : ∀ m' h' tk', RepL Γ loc' m' → St Γ m' h' X g → Post () { s with heap := h', toks := tk' }) : wpAny (model Γ.prog Γ.w) Γ.A (storeName Γ.env x v') Post (fun _ _ => False) s := by
  obtain ⟨u, hu⟩ := h.was
  exact storeX_L S.fr S.news (fun h' F' W' => k _ h' _ (RL.set h r) ⟨F', W', S.nodup⟩) ok.kf (RL.2 _ _ hu).1
theorem asg_go (ok : Γ.Ok) {X : List (Addr × Obj)} {es : List Expr} {xs : List Str} (t : TgtN es xs) : ∀ {ms : List MV} {vs : List Value} {loc loc' : Loc} {m : Str → Option Value} {s : Shared} {Post : Unit → Shared → Prop}, Reps ms vs → SetLs xs ms loc loc' → RepL Γ loc m → St Γ m s.heap X g →
    (∀ m' h' tk', RepL Γ loc' m' → St Γ m' h' X g → Post () { s with heap := h', toks := tk' }) → wpAny (model Γ.prog Γ.w) Γ.A (assignInOrder ((assignEach es Γ.env).map (·.2)) vs) Post (fun _ _ => False) s := by
  induction t with
  | nil =>
    intro ms vs loc loc' m s Post R H RL S k
    cases H; cases R
    exact wpAny_pure (k m s.heap s.toks RL S)
  | cons t ih =>
    intro ms vs loc loc' m s Post R H RL S k
    cases H with
    | cons h H =>
      cases R with
      | cons r R =>
        show wpAny _ _ (do holding _ (assign (.Name _ _) Γ.env _); assignInOrder _ _) _ _ _
        refine wpAny_bind (wpAny_holding (PyProof.Rows.assign_Name (store_go ok RL S h r fun m' h' tk' RL S => ?_)))
        exact ih R H RL S fun m' h' tk' RL S => k m' h' tk' RL S
theorem ord_go (ok : Γ.Ok) {X : List (Addr × Obj)} : ∀ {xs : List Str} {ms : List MV} {vs : List Value} {loc loc' : Loc} {m : Str → Option Value} {s : Shared} {Post : Unit → Shared → Prop}, Reps ms vs → SetLs xs ms loc loc' → RepL Γ loc m → St Γ m s.heap X g →
    (∀ m' h' tk', RepL Γ loc' m' → St Γ m' h' X g → Post () { s with heap := h', toks := tk' }) → wpAny (model Γ.prog Γ.w) Γ.A (assignInOrder (xs.map fun n => bindName Γ.env n) vs) Post (fun _ _ => False) s := by
  intro xs
  induction xs with
  | nil =>
    intro ms vs loc loc' m s Post R H RL S k
    cases H; cases R
    exact wpAny_pure (k m s.heap s.toks RL S)
  | cons x xs ih =>
    intro ms vs loc loc' m s Post R H RL S k
    cases H with
    | cons h H =>
      cases R with
      | cons r R =>
        show wpAny _ _ (do holding _ (bindName Γ.env x _); assignInOrder _ _) _ _ _
        refine wpAny_bind (wpAny_holding (wpAny_bindName (store_go ok RL S h r fun m' h' tk' RL S => ?_)))
        exact ih R H RL S fun m' h' tk' RL S => k m' h' tk' RL S

theorem Reps.rev {xs : List MV} {vs : List Value} (h : Reps xs vs) : Reps xs.reverse vs.reverse := by
  induction h with
  | nil => exact .nil
  | cons r _ ih => simp only [List.reverse_cons]; exact ih.append (.cons r .nil)
theorem EXS_nil (h : K .next loc g) : EXS Γ [] loc g K := fun ok m s X _ RL S hp => wpAny_execs_nil (hp _ _ loc m g s.heap s.toks h .next RL S)
def seqK (Γ : Fm) (rest : List Stmt) (K : AF → Loc → Gl → Prop) : AF → Loc → Gl → Prop
  | .next, loc, g => EXS Γ rest loc g K
  | f, loc, g => K f loc g
theorem EXS_cons {st : Stmt} {rest : List Stmt} (h : EX Γ st loc g (seqK Γ rest K)) : EXS Γ (st :: rest) loc g K :=
  fun ok m s X _ RL S hp => wpAny_execs_cons (h.go ok RL S fun f f' loc' m' g' h' tk' q r RL S => by
    cases r with
    | next => exact TR.go (t := execs rest Γ.env) (q : EXS Γ rest loc' g' K) ok RL S fun b a loc' m' g' h' tk' q r RL S => hp b a loc' m' g' h' tk' q r RL S
    | cont => exact hp .cont _ loc' m' g' h' tk' q .cont RL S
    | brk => exact hp .brk _ loc' m' g' h' tk' q .brk RL S
    | ret r => exact hp (.ret _) _ loc' m' g' h' tk' q (.ret r) RL S)
theorem EX_assign {x : Str} {p pos : Pos} {e : Expr} (h : EV Γ e loc g fun v loc g => ∃ loc', SetL x v loc loc' ∧ K .next loc' g) (hs : swapsWith e (some (.Name x p)) pos.line Γ.env = pure false := by exact rfl) : EX Γ (.Assign [.Name x p] e pos) loc g K :=
  fun ok m s X _ RL S hp => wpAny_Assign_Name (h.go ok RL S fun v v' _ _ g' _ _ q r RL S => by
    obtain ⟨loc', hset, q⟩ := q
    exact store_go ok RL S hset r fun m' h' tk' RL S => hp .next _ loc' m' g' h' tk' q .next RL S) hs
theorem EX_aug {x : Str} {p pos : Pos} {op : Operator} {e : Expr} {v : MV} (hx : (x, v) ∈ loc) (hu : v ≠ .undef) (h : EV Γ e loc g fun u loc g => IOP Γ op v u loc g fun r loc g => ∃ loc', SetL x r loc loc' ∧ K .next loc' g) : EX Γ (.AugAssign (.Name x p) op e pos) loc g K :=
  fun ok m s X _ RL S hp => by
    obtain ⟨hk, hv⟩ := RL.2 x v hx
    obtain ⟨v', e', r⟩ := hv hu
    exact wpAny_AugAssign_Name (wpAny_loadName_local (env := Γ.env) ok.kf hk S.fr.ns e' (h.go ok RL S fun u u' _ _ _ _ _ q r2 RL S => (q v' u' r r2).go ok RL S fun w w' _ _ g' _ _ q r RL S => by
      obtain ⟨loc', hset, q⟩ := q
      exact store_go ok RL S hset r fun m' h' tk' RL S => hp .next _ loc' m' g' h' tk' q .next RL S))
theorem tgt_each {Γ : Fm} {es : List Expr} {xs : List Str} (t : TgtN es xs) : (assignEach es Γ.env).length = xs.length ∧ (assignEach es Γ.env).findIdx? (·.1) = none := by
  induction t with
  | nil => exact ⟨rfl, rfl⟩
  | @cons x p es xs t ih =>
    have e : assignEach (.Name x p :: es) Γ.env = (false, fun v => assign (.Name x p) Γ.env v) :: assignEach es Γ.env := rfl
    rw [e]
    refine ⟨by simp [ih.1], ?_⟩
    rw [List.findIdx?_cons]
    simp [ih.2]
theorem SetLs.len {xs : List Str} {ms : List MV} {l l' : Loc} (h : SetLs xs ms l l') : xs.length = ms.length := by
  induction h with
  | nil => rfl
  | cons _ _ ih => simp [ih]
theorem EX_tup {es : List Expr} {k : Nat} {tp pos : Pos} {e : Expr} {xs : List Str} (t : TgtN es xs) (h : EV Γ e loc g fun v loc g => ∃ l o ms loc', v = .ref l ∧ (l, o) ∈ g ∧ Is (.tup ms) o ∧ SetLs xs ms loc loc' ∧ K .next loc' g)
    (hs : swapsWithSole [.Tuple es k tp] e pos.line Γ.env = pure false := by exact rfl) (hw : swappedStores [.Tuple es k tp] e Γ.env = pure none := by exact rfl) : EX Γ (.Assign [.Tuple es k tp] e pos) loc g K :=
  fun ok m s X _ RL S hp => Assign_Tuple (h.go ok RL S fun v v' _ _ g' hh tk q r RL S => by
    obtain ⟨l, o, ms, loc', rfl, hm, hi, H, q⟩ := q
    cases r
    obtain ⟨vs, rv, ht⟩ := S.isTup hm hi
    refine assign_Tuple_tuple ok.hh ht (by rw [(tgt_each t).1, H.len]; simp [rv.length]) (tgt_each t).2 fun h' he => ?_
    have S' : St Γ _ h' X g' := S.same (S.fr.extBut he (Nat.le_refl _)) (fun p hp => ⟨he _ _ (news_ne S.news p hp) (S.news p hp).1, (S.news p hp).2⟩)
    exact asg_go ok t rv H RL S' fun m' h' tk' RL S => hp .next _ loc' m' g' h' tk' q .next RL S) hs hw
theorem EX_swap {es : List Expr} {k : Nat} {tp pos : Pos} {e : Expr} {xs : List Str} (h : EV Γ e loc g fun v loc g => ∃ l o ms loc', v = .ref l ∧ (l, o) ∈ g ∧ Is (.tup ms) o ∧ SetLs xs.reverse ms.reverse loc loc' ∧ K .next loc' g)
    (hs : swapsWithSole [.Tuple es k tp] e pos.line Γ.env = pure false := by exact rfl) (hw : swappedStores [.Tuple es k tp] e Γ.env = pure (some xs) := by exact rfl) : EX Γ (.Assign [.Tuple es k tp] e pos) loc g K :=
  fun ok m s X _ RL S hp => Assign_Tuple_swapped (names := xs) (h.go ok RL S fun v v' _ _ g' hh tk q r RL S => by
    obtain ⟨l, o, ms, loc', rfl, hm, hi, H, q⟩ := q
    cases r
    obtain ⟨vs, rv, ht⟩ := S.isTup hm hi
    have hl := H.len
    rw [List.length_reverse, List.length_reverse] at hl
    have hn : xs.length = vs.toArray.size := by simp [rv.length, hl]
    rw [hn]
    refine unpackItems_tuple ok.hh ht fun h' he => ?_
    have S' : St Γ _ h' X g' := S.same (S.fr.extBut he (Nat.le_refl _)) (fun p hp => ⟨he _ _ (news_ne S.news p hp) (S.news p hp).1, (S.news p hp).2⟩)
    exact ord_go ok (Reps.rev rv) H RL S' fun m' h' tk' RL S => hp .next _ loc' m' g' h' tk' q .next RL S) hs hw
theorem EX_setitem {o i e : Expr} {p pos : Pos} (h : EV Γ e loc g fun v loc g => EV Γ o loc g fun ov loc g => EV Γ i loc g fun iv loc g =>
      ∃ l k ob xs, ov = .ref l ∧ iv = .int k ∧ Is (.list xs) ob ∧ 0 ≤ k ∧ k < xs.length ∧ k < 2 ^ 63 ∧ ∀ ob', Is (.list (xs.set k.toNat v)) ob' → ∃ g', UpdG l ob ob' g g' ∧ K .next loc g')
    (hs : swapsWith e (some (.Subscript o i p)) pos.line Γ.env = pure false := by exact rfl) : EX Γ (.Assign [.Subscript o i p] e pos) loc g K :=
  fun ok m s X _ RL S hp => wpAny_Assign_Subscript (h.go ok RL S fun v v' _ _ _ _ _ q r RL S => q.go ok RL S fun ov ov' _ _ _ _ _ q r1 RL S => q.go ok RL S fun iv iv' loc' m' g' hh tk q r2 RL S => by
    obtain ⟨l, k, ob, xs, rfl, rfl, hi, h0, h1, hz, q⟩ := q
    cases r1; cases r2
    cases hi with
    | @list _ vs n rv =>
      obtain ⟨g'', u, q⟩ := q (listOf (vs.set k.toNat v').toArray n) (.list n (rv.set r _))
      have z := S.obj u.mem
      obtain ⟨U, back⟩ := S.upd u
      obtain ⟨pre, post, e1, e2, d1, d2⟩ := U.split
      have W := S.news
      rw [e1] at W
      have W' := ki_turn (n' := n) (fun a => a.setIfInBounds k.toNat v') W d1 d2 (its' := (vs.set k.toNat v').toArray) (by apply Array.toList_inj.mp; simp) (by simp)
      rw [← e2] at W'
      exact ki_setAt z.1 h0 hz (by simp [rv.length]; omega) (hp .next _ loc' m' g'' _ tk q .next RL (back _ _ (S.fr.change (Heap.SameBut.update ..) z.2.1 z.2.2) W'))) hs
end
-- part Vc5
section
variable {Γ : Fm} {loc : Loc} {g : Gl} {K : AF → Loc → Gl → Prop}
theorem EX_if {t : Expr} {b o : List Stmt} {pos : Pos} (h : TST Γ t loc g fun c loc g => (c = true → EXS Γ b loc g K) ∧ (c = false → EXS Γ o loc g K)) : EX Γ (.If t b o pos) loc g K :=
  fun ok m s X _ RL S hp => wpAny_If (h.go ok RL S fun c c' _ _ _ _ _ q r RL S => by
    subst r
    cases c' with
    | true => exact (q.1 rfl).go ok RL S fun b a loc' m' g' h' tk' q r RL S => hp b a loc' m' g' h' tk' q r RL S
    | false => exact (q.2 rfl).go ok RL S fun b a loc' m' g' h' tk' q r RL S => hp b a loc' m' g' h' tk' q r RL S)
theorem EX_ret {e : Expr} {pos : Pos} (h : EV Γ e loc g fun v loc g => K (.ret v) loc g) : EX Γ (.Return (some e) pos) loc g K :=
  fun ok m s X _ RL S hp => wpAny_Return_some (h.go ok RL S fun v v' loc' m' g' h' tk' q r RL S => hp (.ret v) _ loc' m' g' h' tk' q (.ret r) RL S)
theorem EX_cont {pos : Pos} (h : K .cont loc g) : EX Γ (.Continue pos) loc g K :=
  fun ok m s X _ RL S hp => wpAny_Continue (hp .cont _ loc m g s.heap s.toks h .cont RL S)
theorem EX_expr {e : Expr} {pos : Pos} (h : EV Γ e loc g fun _ loc g => K .next loc g) (hs : swapsWith e none pos.line Γ.env = pure false := by exact rfl) : EX Γ (.Expr e pos) loc g K :=
  fun ok m s X _ RL S hp => wpAny_Expr_any (h.go ok RL S fun v v' loc' m' g' h' tk' q r RL S => hp .next _ loc' m' g' h' tk' q .next RL S) (by show (Γ.cs.kind == .module && _) = false; rw [ok.kf]; rfl) hs

def turnK (K : AF → Loc → Gl → Prop) (nx : Loc → Gl → Prop) : AF → Loc → Gl → Prop
  | .next, loc, g => nx loc g
  | .cont, loc, g => nx loc g
  | .brk, loc, g => K .next loc g
  | .ret v, loc, g => K (.ret v) loc g
def WHL (Γ : Fm) (t : Expr) (b : List Stmt) (K : AF → Loc → Gl → Prop) : Nat → Loc → Gl → Prop
  | 0, _, _ => False
  | n + 1, loc, g => TST Γ t loc g fun c loc g => (c = true → EXS Γ b loc g (turnK K fun loc g => WHL Γ t b K n loc g)) ∧ (c = false → K .next loc g)
theorem EX_while {t : Expr} {b : List Stmt} {pos : Pos} (n : Nat) (h : WHL Γ t b K n loc g) : EX Γ (.While t b [] pos) loc g K :=
  fun ok m s X P RL S hp => wpAny_While (codeAny_whileLoop (fun n s' => ∃ loc m g h tk, s' = { s with heap := h, toks := tk } ∧ WHL Γ t b K n loc g ∧ RepL Γ loc m ∧ St Γ m h X g) (fun n s' hI => by
    obtain ⟨loc, m, g, h, tk, rfl, W, RL, S⟩ := hI
    cases n with
    | zero => exact W.elim
    | succ n =>
      refine wpAny_mono (TR.go (W : TST Γ t loc g _) ok RL S (s := { s with heap := h, toks := tk }) (Post := fun b₁ s₂ => if b₁ = true then wpAny (model Γ.prog Γ.w) Γ.A (execs b Γ.env) (fun f s₃ => match f with
            | .next | .cont => ∃ m, m < n + 1 ∧ ∃ loc m' g h tk, s₃ = { s with heap := h, toks := tk } ∧ WHL Γ t b K m loc g ∧ RepL Γ loc m' ∧ St Γ m' h X g
            | .brk => P .next s₃
            | .ret v => P (.ret v) s₃) (fun _ _ => False) s₂ else P .next s₂) fun c c' loc' m' g' h' tk' q r RL S => ?_) (fun b₁ s₂ h₂ => ?_) fun _ _ e => e.elim
      · subst r
        cases c' with
        | true =>
          refine TR.go (t := execs b Γ.env) (q.1 rfl) ok RL S fun f f' loc' m' g' h' tk' q r RL S => ?_
          cases r with
          | next => exact ⟨n, Nat.lt_succ_self _, loc', m', g', h', tk', rfl, q, RL, S⟩
          | cont => exact ⟨n, Nat.lt_succ_self _, loc', m', g', h', tk', rfl, q, RL, S⟩
          | brk => exact hp .next _ loc' m' g' h' tk' q .next RL S
          | ret r => exact hp (.ret _) _ loc' m' g' h' tk' q (.ret r) RL S
        | false => exact hp .next _ loc' m' g' h' tk' (q.2 rfl) .next RL S
      · cases b₁ with
        | true => exact wpAny_mono h₂ (fun f s₃ h₃ => by cases f <;> exact h₃) fun _ _ e => e.elim
        | false => exact wpAny_execs_nil h₂) n ⟨loc, m, g, s.heap, s.toks, rfl, h, RL, S⟩)

inductive It where
  | val (v : MV) | pair (n : Int) (v : MV)
inductive Bind : Expr → It → Loc → Loc → Prop
  | name {x p v l l'} : SetL x v l l' → Bind (.Name x p) (.val v) l l'
  | pair {x p y q n v k r l l1 l2} : SetL x (.int n) l l1 → SetL y v l1 l2 → Bind (.Tuple [.Name x p, .Name y q] k r) (.pair n v) l l2
def FORB (Γ : Fm) (tg : Expr) (b : List Stmt) (keep : Gl → Prop) (K : AF → Loc → Gl → Prop) : List It → Loc → Gl → Prop
  | [], loc, g => K .next loc g
  | i :: r, loc, g => ∃ loc', Bind tg i loc loc' ∧ EXS Γ b loc' g (turnK K fun loc g => keep g ∧ FORB Γ tg b keep K r loc g)
inductive ItIs : It → Itm → Prop
  | val {x v} : Rep x v → ItIs (.val x) (.val v)
  | tok {n} : ItIs (.val (.int n)) (.tok fun t => .int n t)
  | pair {n x v} : Rep x v → ItIs (.pair n x) (.pair (fun t => .int n t) v)
inductive ItsAre : List It → List Itm → Prop
  | nil : ItsAre [] []
  | cons {i j r q} : ItIs i j → ItsAre r q → ItsAre (i :: r) (j :: q)
theorem bind_go (ok : Γ.Ok) {tg : Expr} {i : It} {j : Itm} {loc' : Loc} {m : Str → Option Value} {s : Shared} {X : List (Addr × Obj)} {v : Value} {P : Unit → Shared → Prop} (b : Bind tg i loc loc') (ij : ItIs i j) (hv : j.Is v s.heap) (RL : RepL Γ loc m) (S : St Γ m s.heap X g)
    (k : ∀ m' h' tk', RepL Γ loc' m' → St Γ m' h' X g → P () { s with heap := h', toks := tk' }) : wpAny (model Γ.prog Γ.w) Γ.A (assign tg Γ.env v) P (fun _ _ => False) s := by
  cases b with
  | name h =>
    cases ij with
    | val r =>
      have e : v = _ := hv
      subst e
      exact PyProof.Rows.assign_Name (store_go ok RL S h r k)
    | tok =>
      obtain ⟨t, e⟩ := hv
      subst e
      exact PyProof.Rows.assign_Name (store_go ok RL S h (.int _ _) k)
  | pair h1 h2 =>
    cases ij with
    | pair r =>
      obtain ⟨T, t, rfl, ht⟩ := hv
      refine assign_Tuple_tuple ok.hh ht rfl rfl fun h' he => ?_
      have S' : St Γ m h' X g := S.same (S.fr.extBut he (Nat.le_refl _)) (fun p hp => ⟨he _ _ (news_ne S.news p hp) (S.news p hp).1, (S.news p hp).2⟩)
      exact asg_go ok (.cons (.cons .nil)) (.cons (.int _ t) (.cons r .nil)) (.cons h1 (.cons h2 .nil)) RL S' k
theorem allObj_of {ws : List (Addr × String)} {k : List (Addr × Obj) → Prop} (h : ∀ its, Objs ws its → k its) : AllObj ws k := by
  induction ws generalizing k with
  | nil => exact h [] trivial
  | cons w r ih => exact fun o ho => ih fun its hi => h _ ⟨⟨rfl, ho⟩, hi⟩
theorem subL_of : ∀ {l all : List (Addr × Obj)}, (∀ p ∈ l, p ∈ all) → SubL l all
  | [], _, _ => trivial
  | p :: r, _, h => ⟨h p (.head _), subL_of fun q hq => h q (.tail _ hq)⟩
theorem forb_go (ok : Γ.Ok) {tg : Expr} {b : List Stmt} {kp : List (Addr × Obj)} {s : Shared} {X : List (Addr × Obj)} {P : Flow → Shared → Prop} {ws : List (Addr × String)} (hw : (ws.map (·.1)).Nodup)
    (hp : ∀ (b : AF) a loc' m' g' h' tk', K b loc' g' → RepF b a → RepL Γ loc' m' → St Γ m' h' X g' → P a { s with heap := h', toks := tk' }) :
    ∀ {is : List It} {js : List Itm}, ItsAre is js → ∀ {loc : Loc} {g : Gl} {m : Str → Option Value}, FORB Γ tg b (fun g => ∀ p ∈ kp, p ∈ g) K is loc g → RepL Γ loc m → ((X ++ g).map (·.1)).Nodup → (∀ p ∈ X ++ g, ∀ q ∈ ws, p.1 ≠ q.1) → (∀ p ∈ kp, p ∈ g) →
      ItemsRest Γ.prog Γ.w Γ.A (fun _ _ => False) Γ.h₀ Γ.env tg b P s ws kp js m (X ++ g) := by
  intro is js H
  induction H with
  | nil => intro loc g m F RL D A kk; exact ItemsRest.zero fun h tk Fh N => hp .next _ loc m g h tk F .next RL ⟨Fh, N, D⟩
  | @cons i j r q ij H ih =>
    intro loc g m F RL D A kk v h tk hv Fh
    refine allObj_of fun its hits N => ?_
    have hmap := hits.map
    obtain ⟨loc', hb, F⟩ := F
    have S : St Γ m h (its ++ X) g := ⟨Fh, by rw [List.append_assoc]; exact N, by
      rw [List.append_assoc, List.map_append, hmap]
      refine List.nodup_append.mpr ⟨hw, D, fun a ha b hb e => ?_⟩
      obtain ⟨p, hp, rfl⟩ := List.mem_map.mp hb
      obtain ⟨q, hq, rfl⟩ := List.mem_map.mp ha
      exact A p hp q hq e.symm⟩
    have back : ∀ {m' : Str → Option Value} {h' : Heap} {g' : Gl}, St Γ m' h' (its ++ X) g' → St Γ m' h' X g' := fun {m' h' g'} S => ⟨S.fr, fun p hp => S.news p (by rw [List.append_assoc]; exact List.mem_append_right _ hp), by
      have D := S.nodup
      rw [List.append_assoc, List.map_append] at D
      exact (List.nodup_append.mp D).2.1⟩
    refine bind_go ok (s := { s with heap := h, toks := tk }) hb ij hv RL S fun m' h' tk' RL S => ?_
    refine TR.go (t := execs b Γ.env) F ok (s := { s with heap := h', toks := tk' }) RL S fun f f' loc' m' g' h' tk' q r RL S => ?_
    have fin : (∀ p ∈ kp, p ∈ g') ∧ FORB Γ tg b (fun g => ∀ p ∈ kp, p ∈ g) K _ loc' g' → UnrEndW Γ.h₀ Γ.env.locals { s with heap := h, toks := tk } its (fun m' n' => SubL kp n' ∧ ItemsRest Γ.prog Γ.w Γ.A (fun _ _ => False) Γ.h₀ Γ.env tg b P s ws kp _ m' n') { s with heap := h', toks := tk' } := fun q => by
      have D := S.nodup
      rw [List.append_assoc, List.map_append] at D
      have D' := List.nodup_append.mp D
      refine ⟨h', tk', m', X ++ g', rfl, S.fr, by have N := S.news; rw [List.append_assoc] at N; exact N, fun p hp q hq e => ?_, subL_of fun p hp => List.mem_append_right _ (q.1 p hp), ih q.2 RL D'.2.1 (fun p hp q hq e => ?_) q.1⟩
      · exact D'.2.2 q.1 (List.mem_map_of_mem hq) p.1 (List.mem_map_of_mem hp) e.symm
      · have hq' : q.1 ∈ its.map (·.1) := by rw [hmap]; exact List.mem_map_of_mem hq
        exact D'.2.2 q.1 hq' p.1 (List.mem_map_of_mem hp) e.symm
    cases r with
    | next => exact fin q
    | cont => exact fin q
    | brk => exact hp .next _ loc' m' g' h' tk' q .next RL (back S)
    | ret r => exact hp (.ret _) _ loc' m' g' h' tk' q (.ret r) RL (back S)
theorem itsAre_val : ∀ {xs : List MV} {vs : List Value}, Reps xs vs → ItsAre (xs.map .val) (vs.map .val)
  | _, _, .nil => .nil
  | _, _, .cons r h => .cons (.val r) (itsAre_val h)
def enumL : Nat → List MV → List It
  | _, [] => []
  | i, v :: r => .pair (i : Int) v :: enumL (i + 1) r
theorem itsAre_enum : ∀ {xs : List MV} {vs : List Value}, Reps xs vs → ∀ i, ItsAre (enumL i xs) (enumItems i vs)
  | _, _, .nil, _ => .nil
  | _, _, .cons r h, i => .cons (.pair r) (itsAre_enum h (i + 1))
theorem EX_forlist {tg it : Expr} {b : List Stmt} {pos : Pos} (h : EV Γ it loc g fun v loc g => ∃ l o xs, v = .ref l ∧ (l, o) ∈ g ∧ Is (.list xs) o ∧ FORB Γ tg b (fun g => ∀ p ∈ [(l, o)], p ∈ g) K (xs.map .val) loc g)
    (hs : ∀ x, foldedSetIterable it Γ.env x = pure x := by intro _; exact rfl) : EX Γ (.For tg it b [] pos) loc g K :=
  fun ok m s X P RL S hp => For_turns S.fr (h.go ok RL S fun v v' loc' m' g' h' tk' q r RL S => by
    obtain ⟨l, o, xs, rfl, hm, hi, F⟩ := q
    cases r
    cases hi with
    | list n rv =>
      refine iter_listTurns (s := { s with heap := h', toks := tk' }) ok.hh S.fr S.news (List.mem_append_right _ hm) rfl rfl fun I hI => ?_
      exact forb_go (s := { s with heap := h', toks := tk' }) (ws := [(I, "list_iterator")]) ok (by simp) (fun b a loc' m' g' h' tk' q r RL S => hp b a loc' m' g' h' tk' q r RL S) (itsAre_val rv) F RL S.nodup (fun p hp q hq => by rw [List.mem_singleton.mp hq]; exact Nat.ne_of_lt (hI p hp)) (fun p hp => by rw [List.mem_singleton.mp hp]; exact hm)) hs PassesOwn.never
theorem letGo_rangeiter {prog : Program} {w : World} {A : Around} {E : Value → Shared → Prop} {target : Expr} {I : Addr} {x l c : Int} {v : Value} {Q' : Unit → Shared → Prop} {s' : Shared} (hit : IsRangeIter s'.heap I x l c) (h : Q' () s') :
    wpAny (model prog w) A (letOwnedTupleGo target (.ref I) v) Q' E s' := by
  have hit' : s'.heap.get? I = some _ := hit
  unfold letOwnedTupleGo
  cases target <;> first
    | exact wpAny_pure h
    | (cases v <;> first
        | exact wpAny_pure h
        | (refine wpAny_bind (wpAny_load hit' ?_)
           exact wpAny_pure h))
def rng (c : Int) : Int → Nat → List It
  | _, 0 => []
  | a, n + 1 => .val (.int a) :: rng c (a + c) n
def rngJ (c : Int) : Int → Nat → List Itm
  | _, 0 => []
  | a, n + 1 => .tok (fun t => .int a t) :: rngJ c (a + c) n
theorem itsAre_rng (c : Int) : ∀ (n : Nat) (a : Int), ItsAre (rng c a n) (rngJ c a n)
  | 0, _ => .nil
  | n + 1, a => .cons .tok (itsAre_rng c n (a + c))
theorem rngJ_len (c : Int) : ∀ (n : Nat) (a : Int), (rngJ c a n).length = n
  | 0, _ => rfl
  | n + 1, a => congrArg (· + 1) (rngJ_len c n (a + c))
theorem rngJ_get (c : Int) : ∀ (n : Nat) (a : Int) (i : Nat), i < n → (rngJ c a n)[i]? = some (.tok fun t => .int (a + i * c) t)
  | 0, _, _, h => absurd h (Nat.not_lt_zero _)
  | n + 1, a, 0, _ => by simp [rngJ]
  | n + 1, a, i + 1, h => by
    show (rngJ c (a + c) n)[i]? = _
    rw [rngJ_get c n (a + c) i (by omega)]
    have : a + c + (i : Int) * c = a + ((i + 1 : Nat) : Int) * c := by push_cast; rw [Int.add_mul, Int.one_mul]; omega
    rw [this]
theorem range_go (ok : Γ.Ok) {tg : Expr} {b : List Stmt} {a z c : Int} {r : Addr} {t u v : Tok} {m : Str → Option Value} {s : Shared} {X : List (Addr × Obj)} {P : Flow → Shared → Prop} (hr : IsRange s.heap r a z c t u v) (hs : Builtin.Range.small a z c = true) (h0 : 0 ≤ Builtin.Range.rangeSize a z c)
    (S : St Γ m s.heap X g) (RL : RepL Γ loc m) (F : FORB Γ tg b (fun g => ∀ p ∈ ([] : Gl), p ∈ g) K (rng c a (Builtin.Range.rangeSize a z c).toNat) loc g)
    (hp : ∀ (b : AF) a loc' m' g' h' tk', K b loc' g' → RepF b a → RepL Γ loc' m' → St Γ m' h' X g' → P a { s with heap := h', toks := tk' }) :
    wpAny (model Γ.prog Γ.w) Γ.A (pyIter (.ref r)) (fun it s₂ => TurnsAt Γ.prog Γ.w Γ.A Γ.h₀ Γ.env tg b P (fun _ _ => False) it s₂) (fun _ _ => False) s := by
  refine wpAny_pyIter_range hr hs ?_
  obtain ⟨n, hn⟩ := Int.eq_ofNat_of_zero_le h0
  rw [hn] at F ⊢
  have hsz : ∀ p ∈ X ++ g, p.1 < s.heap.objs.size := news_lt S.news
  refine ktu_core (tk0 := s.toks) (ws := [(s.heap.objs.size, "range_iterator")]) (keep := []) (xs := rngJ c a n) (KTurns.ofWalks (Walks.range ok.hh s.heap.objs.size a c n).bound fun i v s Q E st q => letGo_rangeiter st q) (by rw [rngJ_len]) (fun i v h hp => ?_) (fun i h st => ?_) (fun b hb => ?_) (fun b hb => by simpa using hb) (fun b hb => ?_) ?_ (fun p hp hI => ?_) ?_ (S.fr.push _) (fun p hp => ⟨Heap.get?_push_of_some _ (S.news p hp).1, (S.news p hp).2⟩) trivial ?_
  · obtain ⟨hi, t, rfl⟩ := hp
    exact ⟨_, rngJ_get c n a i hi, t, rfl⟩
  · have st' : h.get? s.heap.objs.size = some _ := st
    exact ⟨[(s.heap.objs.size, _)], ⟨⟨rfl, rfl⟩, trivial⟩, fun p hp => by rw [List.mem_singleton.mp hp]; exact st'⟩
  · have hb' : b = s.heap.objs.size := by simpa using hb
    rw [hb']
    exact ⟨List.mem_cons_self .., next_is_new S.fr⟩
  · exact .inl (by simpa using hb)
  · intro hI
    exact absurd S.fr.ns.lt ((List.mem_singleton.mp hI) ▸ Nat.lt_irrefl _)
  · exact absurd (hsz p hp) ((List.mem_singleton.mp hI) ▸ Nat.lt_irrefl _)
  · show IsRangeIter _ _ _ _ _
    simpa using Heap.get?_push_size _ rfl
  · exact forb_go ok (by simp) hp (itsAre_rng c n a) F RL S.nodup (fun p hp q hq => by rw [List.mem_singleton.mp hq]; exact Nat.ne_of_lt (hsz p hp)) (fun p hp => nomatch hp)
inductive RA : List MV → Int → Int → Int → Prop
  | one (b : Int) : RA [.int b] 0 b 1
  | two (a b : Int) : RA [.int a, .int b] a b 1
  | three (a b c : Int) : RA [.int a, .int b, .int c] a b c
theorem size_up (a z : Int) : (Builtin.Range.rangeSize a z 1).toNat = (z - a).toNat := by
  unfold Builtin.Range.rangeSize
  simp only [show (1 : Int) > 0 by decide, if_true]
  by_cases h : a < z
  · simp only [h, if_true, Int.ediv_one]; omega
  · simp only [h, if_false]; omega
theorem size_down (a z : Int) : (Builtin.Range.rangeSize a z (-1)).toNat = (a - z).toNat := by
  unfold Builtin.Range.rangeSize
  simp only [show ¬ ((-1 : Int) > 0) by decide, if_false]
  by_cases h : a > z
  · simp only [h, if_true, show -(-1 : Int) = 1 by decide, Int.ediv_one]; omega
  · simp only [h, if_false]; omega
theorem EX_range {tg : Expr} {x : Str} {px p2 : Pos} {e : Expr} {es : List Expr} {b : List Stmt} {pos : Pos} (hn : nsIn Γ.K mainGlobals x = some none) (hv : bootBuiltins x = some (.type "range")) (hk : Γ.cs.names.lookup x = some .globalImplicit)
    (h : EVS Γ p2 (e :: es) loc g fun vs loc g => ∃ a z c, RA vs a z c ∧ (c = 1 ∨ c = -1) ∧ (-1000000 ≤ a ∧ a ≤ 1000000 ∧ -1000000 ≤ z ∧ z ≤ 1000000) ∧ FORB Γ tg b (fun g => ∀ p ∈ ([] : Gl), p ∈ g) K (rng c a (if c = 1 then z - a else a - z).toNat) loc g)
    (hs : ∀ y, foldedSetIterable (.Call (.Name x px) (e :: es) [] p2) Γ.env y = pure y := by intro _; exact rfl)
    (hst : starEach (e :: es) Γ.env = (false, eval e Γ.env) :: starEach es Γ.env := by exact rfl) (hplain : (backTo p2 (starEach es Γ.env)).any (·.1) = false := by exact rfl) (hne : x ≠ "__name__" := by decide) (hd : (x == ("__debug__" : Str)) = false := by decide) :
    EX Γ (.For tg (.Call (.Name x px) (e :: es) [] p2) b [] pos) loc g K :=
  fun ok m s X P RL S hp => For_turns S.fr (Call_ (EV_boot (Q := fun v l' g' => v = .ty "range" ∧ l' = loc ∧ g' = g) hn hv (.ty _) hk ⟨rfl, rfl, rfl⟩ hne hd ok m s X _ RL S fun fv fv' l' m' g' h' tk' q r RL1 S1 => by
    obtain ⟨rfl, rfl, rfl⟩ := q
    cases r
    refine PyProof.Rows.callWith_type1 (h.go ok RL1 S1 fun vs vs' loc' m' g' h' tk' q r RL S => ?_) hst hplain
    obtain ⟨a, z, c, ra, hc, ⟨h1, h2, h3, h4⟩, F⟩ := q
    have hz : (Builtin.Range.rangeSize a z c).toNat = (if c = 1 then z - a else a - z).toNat ∧ 0 ≤ Builtin.Range.rangeSize a z c ∧ Builtin.Range.rangeSize a z c ≤ 2000000 := by
      have hb : ∀ k : Int, k = 1 → 0 ≤ Builtin.Range.rangeSize a z k ∧ Builtin.Range.rangeSize a z k ≤ 2000000 := fun k hk => by
        subst hk
        unfold Builtin.Range.rangeSize
        simp only [show (1 : Int) > 0 by decide, if_true, Int.ediv_one]
        split <;> omega
      have hb2 : ∀ k : Int, k = -1 → 0 ≤ Builtin.Range.rangeSize a z k ∧ Builtin.Range.rangeSize a z k ≤ 2000000 := fun k hk => by
        subst hk
        unfold Builtin.Range.rangeSize
        simp only [show ¬ ((-1 : Int) > 0) by decide, if_false, show -(-1 : Int) = 1 by decide, Int.ediv_one]
        split <;> omega
      rcases hc with rfl | rfl
      · exact ⟨size_up a z, hb 1 rfl⟩
      · exact ⟨size_down a z, hb2 (-1) rfl⟩
    have hsm : Builtin.Range.small a z c = true := by
      have h5 := hz.2
      unfold Builtin.Range.small Builtin.Range.rangeFitsLong
      generalize Builtin.Range.rangeSize a z c = n at h5
      rcases hc with rfl | rfl <;> simp <;> omega
    rw [← hz.1] at F
    have go : ∀ {r t u v h'' tk''}, IsRange h'' r a z c t u v → St Γ m' h'' X g' → wpAny (model Γ.prog Γ.w) Γ.A (pyIter (.ref r)) (fun it s₂ => TurnsAt Γ.prog Γ.w Γ.A Γ.h₀ Γ.env tg b P (fun _ _ => False) it s₂) (fun _ _ => False) { s with heap := h'', toks := tk'' } :=
      fun hr S => range_go (s := { s with heap := _, toks := _ }) ok hr hsm hz.2.1 S RL F (fun b a loc' m' g' h' tk' q r RL S => hp b a loc' m' g' h' tk' q r RL S)
    cases ra with
    | one =>
      obtain ⟨_, _, rfl, ra, rb⟩ := r.one; cases ra; obtain rfl := rb.none
      exact range1_rows S.fr S.news fun h'' tk'' t u v hr F' N' _ => go hr (S.same F' N')
    | two =>
      obtain ⟨_, _, rfl, ra, rb⟩ := r.one; cases ra
      obtain ⟨_, _, rfl, ra', rb'⟩ := rb.one; cases ra'; obtain rfl := rb'.none
      exact range2_rows S.fr S.news fun h'' tk'' t u v hr F' N' _ => go hr (S.same F' N')
    | three =>
      obtain ⟨_, _, rfl, ra, rb⟩ := r.one; cases ra
      obtain ⟨_, _, rfl, ra', rb'⟩ := rb.one; cases ra'
      obtain ⟨_, _, rfl, ra'', rb''⟩ := rb'.one; cases ra''; obtain rfl := rb''.none
      exact range3_rows S.fr S.news (by rcases hc with rfl | rfl <;> decide) (fun h'' tk'' t u v hr F' N' _ => go hr (S.same F' N')) (.inl (PyProof.noPylong_small (by rcases hc with rfl | rfl <;> decide)))) ) hs PassesOwn.never
theorem EX_forenum {es : List Expr} {k : Nat} {tp : Pos} {x : Str} {px p2 : Pos} {e : Expr} {b : List Stmt} {pos : Pos} (hn : nsIn Γ.K mainGlobals x = some none) (hv : bootBuiltins x = some (.type "enumerate")) (hk : Γ.cs.names.lookup x = some .globalImplicit)
    (h : EV Γ e loc g fun v loc g => ∃ l o xs, v = .ref l ∧ (l, o) ∈ g ∧ Is (.list xs) o ∧ FORB Γ (.Tuple es k tp) b (fun g => ∀ p ∈ [(l, o)], p ∈ g) K (enumL 0 xs) loc g)
    (hs : ∀ y, foldedSetIterable (.Call (.Name x px) [e] [] p2) Γ.env y = pure y := by intro _; exact rfl)
    (hst : starEach [e] Γ.env = (false, eval e Γ.env) :: starEach [] Γ.env := by exact rfl) (hne : x ≠ "__name__" := by decide) (hd : (x == ("__debug__" : Str)) = false := by decide) : EX Γ (.For (.Tuple es k tp) (.Call (.Name x px) [e] [] p2) b [] pos) loc g K :=
  fun ok m s X P RL S hp => For_turns S.fr (Call_ (EV_boot (Q := fun v l' g' => v = .ty "enumerate" ∧ l' = loc ∧ g' = g) hn hv (.ty _) hk ⟨rfl, rfl, rfl⟩ hne hd ok m s X _ RL S fun fv fv' l' m' g' h' tk' q r RL1 S1 => by
    obtain ⟨rfl, rfl, rfl⟩ := q
    cases r
    refine callWith_of (P := fun h' => ∃ k, (k = Keeper.frame ∨ k = Keeper.machine ∨ k = Keeper.boundFrame) ∧ Looks (model Γ.prog Γ.w) h' (keeperOf (.type "enumerate")) k)
      (by rw [hst]; rfl) (fun h' p => p) ?_
    rw [hst]
    refine evalArgs_plain (spliced_cons (h.go ok RL1 S1 fun v v' loc' m' g' h' tk' q r RL S => spliced_nil ⟨⟨.machine, .inr (.inl rfl), Looks.of_pure rfl⟩, ?_⟩))
    obtain ⟨l, o, xs, rfl, hm, hi, F⟩ := q
    cases r
    cases hi with
    | list n rv =>
      refine ktu_enum (s := { s with heap := h', toks := tk' }) ok.hh S.fr S.news (List.mem_append_right _ hm) rfl rfl rfl fun I hI => ?_
      exact forb_go (s := { s with heap := h', toks := tk' }) (ws := [(I + 1, "enumerate"), (I, "list_iterator")]) ok (by simp) (fun b a loc' m' g' h' tk' q r RL S => hp b a loc' m' g' h' tk' q r RL S) (itsAre_enum rv 0) F RL S.nodup (fun p hp q hq => by
        rcases List.mem_cons.mp hq with rfl | hq
        · exact Nat.ne_of_lt (Nat.lt_succ_of_lt (hI p hp))
        · rw [List.mem_singleton.mp hq]; exact Nat.ne_of_lt (hI p hp)) (fun p hp => by rw [List.mem_singleton.mp hp]; exact hm))) hs PassesOwn.never
end
-- part Vc6
abbrev Spc := List MV → Gl → (MV → Gl → Prop) → Prop
def SoundF (prog : Program) (w : World) (K : Frag) (k : Nat) (f : Addr) (sp : Spc) : Prop :=
  ∀ (A : Around) (cn : Str) (cs : Scope) (L a : Addr) (ccd : Value) (cl : List (Str × Addr)) (h₀ : Heap) (k' : Nat), k ≤ k' → ∀ vs loc g Q, sp vs g (fun v g => Q v loc g) → CALL ⟨prog, w, K, A, cn, cs, L, a, ccd, cl, h₀, k'⟩ (.ref f) vs loc g Q

theorem lookup_mem {v : Value} {x : Str} : ∀ {l : List (Str × Value)}, (l.map (·.1)).Nodup → (x, v) ∈ l → l.lookup x = some v
  | [], _, h => nomatch h
  | (y, u) :: r, D, h => by
    have D' := List.nodup_cons.mp D
    rw [List.lookup_cons]
    rcases List.mem_cons.mp h with e | h
    · cases e; simp
    · have : x ≠ y := fun e => D'.1 (e ▸ List.mem_map_of_mem (f := (·.1)) h)
      rw [show (x == y) = false from beq_eq_false_iff_ne.mpr this]
      exact lookup_mem D'.2 h
theorem zip_mem {x : Str} {v : MV} : ∀ {ns : List Str} {vs : List MV} {us : List Value}, Reps vs us → (x, v) ∈ ns.zip vs → ∃ u, (x, u) ∈ ns.zip us ∧ Rep v u
  | [], _, _, _, h => by simp at h
  | n :: ns, _, _, .nil, h => by simp at h
  | n :: ns, _, _, .cons r R, h => by
    rcases List.mem_cons.mp h with e | h
    · cases e; exact ⟨_, .head _, r⟩
    · obtain ⟨u, hu, ru⟩ := zip_mem R h; exact ⟨u, .tail _ hu, ru⟩
theorem zip_keys {α : Type} : ∀ {ns : List Str} {us : List α}, us.length = ns.length → (ns.zip us).map (·.1) = ns
  | [], _, _ => by simp
  | n :: ns, [], h => by simp at h
  | n :: ns, u :: us, h => by simp [zip_keys (ns := ns) (us := us) (by simpa using h)]
def endK (Q : MV → Gl → Prop) : AF → Loc → Gl → Prop
  | .ret v, _, g => ∃ g', g'.Sublist g ∧ Q v g'
  | .next, _, g => ∃ g', g'.Sublist g ∧ Q .none g'
  | _, _, _ => False
theorem soundF {prog : Program} {w : World} {K : Frag} {k : Nat} {f : Addr} {sp : Spc} {name qual : Str} {params : Arguments} {body : List Stmt} {scope : Scope} {dV kV doc pm cdv ct oc : Value} {an od : Option Addr} {osl : Array (Option Value)}
    (ho : K.lookup f = some ⟨oc, od, .func (fnOf name qual params body scope dV kV doc pm an cdv ct), osl⟩) (hcd : codeIn K cdv qual = true) (ns ls : List Str)
    (hb : ∀ (s : Shared) vals, vals.length = ns.length → BindsTo s (fnOf name qual params body scope dV kV doc pm an cdv ct) ⟨vals, []⟩ (ns.zip vals))
    (hkl : ((ns ++ ls).all fun x => decide (scope.names.lookup x = some .local)) = true) (hnd : (ns ++ ls).Nodup) (hco : scope.isCoroutine = false) (hgen : scope.isGenerator = false) (hk : scope.kind = .function) (hcell : ∀ x ∈ scope.names, x.2 ≠ .cell)
    (hvc : ∀ A L h₀ vs g Q, sp vs g Q → vs.length = ns.length ∧ EXS ⟨prog, w, K, A, qual, scope, L, f, cdv, [], h₀, k⟩ body (ns.zip vs ++ ls.map fun x => (x, .undef)) g (endK Q)) : SoundF prog w K (k + 1) f sp := by
  intro A cn cs L a ccd cl h₀ k' hk' vs loc g Q hsp f' as' rf ras ok m s X P RL S hp
  cases rf
  obtain ⟨A₀, base, outer, B, hA⟩ := ok.below
  obtain ⟨p, loose, mean, mg, mb, T⟩ := ok.top
  have hlen : vs.length = ns.length := (hvc A L h₀ vs g _ hsp).1
  have hlen' : as'.length = ns.length := by rw [ras.length, hlen]
  have hns : ns.Nodup := (List.nodup_append.mp hnd).1
  have hkl' : ∀ x ∈ ns ++ ls, scope.names.lookup x = some .local := fun x hx => of_decide_eq_true (List.all_eq_true.mp hkl x hx)
  have hdep := ok.dep
  have hun := ok.un
  dsimp only at hdep hun hA
  refine wpAny_call (code_def B S.fr ok.K S.news T hA rfl ok.kf ho hcd (Nat.lt_of_le_of_lt (Nat.le_add_right _ _) hdep) (hb s as' hlen') (fun y hy => ?_) (fun g' L' h₁ FG F' N' B' X' T' => ?_) hco hgen hk hcell)
  · have : y.1 ∈ (ns.zip as').map (·.1) := List.mem_map_of_mem hy
    rw [zip_keys hlen'] at this
    exact hkl' _ (List.mem_append_left _ this)
  · let Γ' : Fm := ⟨prog, w, K, A.deeper (envOf qual scope L' f cdv), qual, scope, L', f, cdv, [], g', k⟩
    have ok' : Γ'.Ok := ⟨⟨A, base, _, B', Around.frames_deeper hA⟩, X', ⟨p, loose, mean, mg, mb, T'⟩, hk, ok.hh, by show A.depth + 1 + k < _; omega, by show A.units + 3 + 8 * k + 70 < _; omega, fun q hq => (ok.codes q hq).keeps FG.keep⟩
    refine wpAny_mono (TR.go (Γ := Γ') (hvc _ L' g' vs g _ hsp).2 ok' (s := { s with heap := h₁, toks := s.toks + (ns.zip as').length }) (m := fun y => (ns.zip as').reverse.lookup y) (X := X)
      (Post := fun fl s' => LeaveK h₀ L m g' (fun r s' => match r with | .ok (.ret v) => P v s' | .ok _ => False | .error e => False) (match fl with | .ret v => v | _ => .none) s') ⟨?_, fun x v hx => ?_⟩ ⟨F', N', S.nodup⟩ fun fl fl' loc' m' g'' h' tk' q r RL' S' => ?_) (fun _ _ x => x) fun _ _ e => e.elim
    · rw [List.map_append, zip_keys hlen, List.map_map, show ((fun x : Str × MV => x.1) ∘ fun x : Str => (x, MV.undef)) = id from rfl, List.map_id]
      exact hnd
    · rcases List.mem_append.mp hx with hx | hx
      · obtain ⟨u, hu, ru⟩ := zip_mem ras hx
        refine ⟨hkl' _ (List.mem_append_left _ ?_), fun _ => ⟨u, ?_, ru⟩⟩
        · have := List.mem_map_of_mem (f := (·.1)) hu
          rwa [zip_keys hlen'] at this
        · refine lookup_mem ?_ (List.mem_reverse.mpr hu)
          rw [List.map_reverse, zip_keys hlen']
          exact List.pairwise_reverse.mpr (List.Pairwise.imp (fun h => Ne.symm h) hns)
      · obtain ⟨y, hy, e⟩ := List.mem_map.mp hx
        cases e
        exact ⟨hkl' _ (List.mem_append_right _ hy), fun h => absurd rfl h⟩
    · refine leaveK_ S'.fr S'.news fun F1 W1 => ?_
      have D := S'.nodup
      have back : ∀ {g₂ : Gl}, g₂.Sublist g'' → St ⟨prog, w, K, A, cn, cs, L, a, ccd, cl, h₀, k'⟩ m h' X g₂ := fun {g₂} hs => by
        have hs' : (X ++ g₂).Sublist (X ++ g'') := (List.Sublist.refl X).append hs
        exact ⟨F1, fun p hp => W1 p (hs'.subset hp), (hs'.map _).nodup D⟩
      cases r with
      | ret r => obtain ⟨g₂, hs, q⟩ := q; exact hp _ _ loc m g₂ h' tk' q r RL (back hs)
      | next => obtain ⟨g₂, hs, q⟩ := q; exact hp .none _ loc m g₂ h' tk' q .none RL (back hs)
      | cont => exact q.elim
      | brk => exact q.elim
-- part Mth
/-- the value of a list of limbs of b bits -/
def vl (b : Nat) : List Int → Int
  | [] => 0
  | x :: r => x + 2 ^ b * vl b r
def Dg (b : Nat) (xs : List Int) : Prop := ∀ x ∈ xs, 0 ≤ x ∧ x < 2 ^ b
def Num (b n : Nat) (xs : List Int) : Prop := Dg b xs ∧ vl b xs = n ∧ xs.getLast? ≠ some 0

theorem pos2 (b : Nat) : (0 : Int) < 2 ^ b := Int.pow_pos (by decide)
theorem vl_app (b : Nat) (xs ys : List Int) : vl b (xs ++ ys) = vl b xs + 2 ^ (b * xs.length) * vl b ys := by
  induction xs with
  | nil => simp [vl]
  | cons x r ih =>
    simp only [List.cons_append, vl, ih, List.length_cons, Nat.mul_add, Nat.mul_one, Int.pow_add, Int.mul_add]
    rw [← Int.mul_assoc, Int.mul_comm (2 ^ b) (2 ^ (b * r.length))]
    omega
theorem Dg.app {b : Nat} {xs ys : List Int} (h : Dg b xs) (k : Dg b ys) : Dg b (xs ++ ys) := fun x hx => (List.mem_append.mp hx).elim (h x) (k x)
theorem Dg.left {b : Nat} {xs ys : List Int} (h : Dg b (xs ++ ys)) : Dg b xs := fun x hx => h x (List.mem_append_left _ hx)
theorem Dg.right {b : Nat} {xs ys : List Int} (h : Dg b (xs ++ ys)) : Dg b ys := fun x hx => h x (List.mem_append_right _ hx)
theorem Dg.take {b : Nat} {xs : List Int} (h : Dg b xs) (k : Nat) : Dg b (xs.take k) := fun x hx => h x (List.mem_of_mem_take hx)
theorem Dg.drop {b : Nat} {xs : List Int} (h : Dg b xs) (k : Nat) : Dg b (xs.drop k) := fun x hx => h x (List.mem_of_mem_drop hx)
theorem Dg.nil {b : Nat} : Dg b [] := fun x hx => nomatch hx
theorem Dg.one {b : Nat} {x : Int} (h : 0 ≤ x) (k : x < 2 ^ b) : Dg b [x] := fun y hy => by rw [List.mem_singleton.mp hy]; exact ⟨h, k⟩
theorem Dg.cons {b : Nat} {x : Int} {r : List Int} (h : Dg b (x :: r)) : (0 ≤ x ∧ x < 2 ^ b) ∧ Dg b r := ⟨h x (.head _), fun y hy => h y (.tail _ hy)⟩
theorem Dg.get {b : Nat} {xs : List Int} (h : Dg b xs) (k : Nat) : 0 ≤ xs.getD k 0 ∧ xs.getD k 0 < 2 ^ b := by
  by_cases hk : k < xs.length
  · have : xs.getD k 0 = xs[k] := by simp [hk]
    rw [this]; exact h _ (List.getElem_mem hk)
  · have : xs.getD k 0 = 0 := by simp [List.getElem?_eq_none (Nat.le_of_not_lt hk)]
    rw [this]; exact ⟨Int.le_refl _, pos2 b⟩
theorem vl_nonneg {b : Nat} {xs : List Int} (h : Dg b xs) : 0 ≤ vl b xs := by
  induction xs with
  | nil => exact Int.le_refl _
  | cons x r ih =>
    have := h.cons
    have := Int.mul_nonneg (Int.le_of_lt (pos2 b)) (ih this.2)
    simp only [vl]; omega
theorem vl_lt {b : Nat} {xs : List Int} (h : Dg b xs) : vl b xs < 2 ^ (b * xs.length) := by
  induction xs with
  | nil => simp [vl]
  | cons x r ih =>
    have h' := h.cons
    have i := ih h'.2
    simp only [vl, List.length_cons, Nat.mul_add, Nat.mul_one, Int.pow_add]
    have : 2 ^ b * (vl b r + 1) ≤ 2 ^ b * 2 ^ (b * r.length) := Int.mul_le_mul_of_nonneg_left (by omega) (Int.le_of_lt (pos2 b))
    rw [Int.mul_add, Int.mul_one] at this
    rw [Int.mul_comm (2 ^ (b * r.length))]
    omega
theorem vl_take_succ (b : Nat) (xs : List Int) (k : Nat) (hk : k < xs.length) : vl b (xs.take (k + 1)) = vl b (xs.take k) + 2 ^ (b * k) * xs.getD k 0 := by
  rw [List.take_add_one, vl_app]
  simp only [List.getElem?_eq_getElem hk, Option.toList, vl, List.length_take, Nat.min_eq_left (Nat.le_of_lt hk), Int.mul_zero, Int.add_zero]
  congr 2
  simp [hk]
theorem vl_zeros {b : Nat} {xs : List Int} (h : ∀ x ∈ xs, x = 0) : vl b xs = 0 := by
  induction xs with
  | nil => rfl
  | cons x r ih =>
    simp only [vl, ih fun y hy => h y (.tail _ hy), h x (.head _), Int.mul_zero, Int.add_zero]
theorem vl_rep (b n : Nat) : vl b (List.replicate n 0) = 0 := vl_zeros fun x hx => (List.mem_replicate.mp hx).2
theorem Dg.rep {b n : Nat} : Dg b (List.replicate n 0) := fun x hx => by rw [(List.mem_replicate.mp hx).2]; exact ⟨Int.le_refl _, pos2 b⟩

def stripN (xs : List Int) : Nat → Nat
  | 0 => 0
  | n + 1 => if xs.getD n 0 = 0 then stripN xs n else n + 1
def strip (xs : List Int) : List Int := xs.take (stripN xs xs.length)
theorem stripN_le (xs : List Int) : ∀ n, stripN xs n ≤ n
  | 0 => Nat.le_refl _
  | n + 1 => by
    unfold stripN
    split
    · have := stripN_le xs n; omega
    · exact Nat.le_refl _
theorem stripN_zero (xs : List Int) : ∀ n i, stripN xs n ≤ i → i < n → xs.getD i 0 = 0
  | 0, i, _, h => absurd h (Nat.not_lt_zero _)
  | n + 1, i, h, h' => by
    unfold stripN at h
    split at h
    · rename_i e
      by_cases q : i = n
      · rw [q]; exact e
      · exact stripN_zero xs n i h (by omega)
    · omega
theorem stripN_last (xs : List Int) : ∀ n k, stripN xs n = k + 1 → xs.getD k 0 ≠ 0
  | 0, k, h => by simp [stripN] at h
  | n + 1, k, h => by
    unfold stripN at h
    split at h
    · exact stripN_last xs n k h
    · rename_i e
      have : n = k := by omega
      rw [← this]; exact e
theorem strip_vl (b : Nat) (xs : List Int) : vl b (strip xs) = vl b xs := by
  unfold strip
  conv => rhs; rw [← List.take_append_drop (stripN xs xs.length) xs]
  rw [vl_app, vl_zeros (xs := xs.drop _), Int.mul_zero, Int.add_zero]
  intro x hx
  obtain ⟨i, hi, e⟩ := List.mem_iff_getElem.mp hx
  rw [List.length_drop] at hi
  rw [List.getElem_drop] at e
  have := stripN_zero xs xs.length (stripN xs xs.length + i) (Nat.le_add_right _ _) (by omega)
  rw [← e]
  simpa [show stripN xs xs.length + i < xs.length by omega] using this
theorem strip_num {b : Nat} {xs : List Int} {n : Nat} (h : Dg b xs) (e : vl b xs = n) : Num b n (strip xs) := by
  refine ⟨h.take _, by rw [strip_vl, e], fun q => ?_⟩
  unfold strip at q
  have hle := stripN_le xs xs.length
  rw [List.getLast?_eq_getElem?, List.length_take, Nat.min_eq_left hle] at q
  cases hs : stripN xs xs.length with
  | zero => rw [hs] at q; simp at q
  | succ k =>
    rw [hs] at q hle
    have := stripN_last xs xs.length k hs
    apply this
    have q' : (xs.take (k + 1))[k]? = some 0 := q
    rw [List.getElem?_take] at q'
    rw [if_pos (Nat.lt_succ_self k)] at q'
    simp [q']
theorem Num.nil {b : Nat} : Num b 0 [] := ⟨Dg.nil, rfl, by simp⟩
theorem Num.single {b n : Nat} (h : 0 < n) (k : n < 2 ^ b) : Num b n [(n : Int)] := by
  refine ⟨Dg.one (by omega) (by have : ((2 ^ b : Nat) : Int) = 2 ^ b := by push_cast; rfl
                                omega), by simp [vl], ?_⟩
  simp; omega
theorem Num.tail {b n : Nat} {x : Int} {r : List Int} (h : Num b n (x :: r)) (hr : r ≠ []) : r.getLast? ≠ some 0 := by
  have := h.2.2
  obtain ⟨y, q, rfl⟩ := List.exists_cons_of_ne_nil hr
  rwa [List.getLast?_cons_cons] at this
theorem last_ge {b : Nat} : ∀ {xs : List Int}, Dg b xs → xs.getLast? ≠ some 0 → xs ≠ [] → 2 ^ (b * (xs.length - 1)) ≤ vl b xs
  | [], _, _, h => absurd rfl h
  | [x], d, l, _ => by
    have := d.cons.1
    have hx : x ≠ 0 := by simpa using l
    simp [vl]; omega
  | x :: y :: r, d, l, _ => by
    have d' := d.cons
    have i := last_ge (xs := y :: r) d'.2 (by rwa [List.getLast?_cons_cons] at l) (by simp)
    have e : b * ((x :: y :: r).length - 1) = b + b * ((y :: r).length - 1) := by
      simp only [List.length_cons, Nat.add_sub_cancel, Nat.mul_add, Nat.mul_one]; omega
    rw [e, Int.pow_add]
    have := Int.mul_le_mul_of_nonneg_left i (Int.le_of_lt (pos2 b))
    show _ ≤ x + 2 ^ b * vl b (y :: r)
    omega
theorem Num.len_le {b n k : Nat} {xs : List Int} (h : Num b n xs) (hn : n < 2 ^ (b * k)) : xs.length ≤ k := by
  by_cases hx : xs = []
  · subst hx; exact Nat.zero_le _
  · refine Nat.le_of_not_lt fun hk => ?_
    have h1 := last_ge h.1 h.2.2 hx
    rw [h.2.1] at h1
    have h2 : (2 : Nat) ^ (b * k) ≤ 2 ^ (b * (xs.length - 1)) := Nat.pow_le_pow_right (by decide) (Nat.mul_le_mul_left _ (by omega))
    have h3 : ((2 ^ (b * (xs.length - 1)) : Nat) : Int) ≤ (n : Int) := by push_cast; exact h1
    omega
theorem Num.zero {b : Nat} {xs : List Int} (h : Num b 0 xs) : xs = [] := by
  have := h.len_le (k := 0) (by simp)
  exact List.eq_nil_of_length_eq_zero (by omega)
theorem Num.pos {b n : Nat} {xs : List Int} (h : Num b n xs) (hn : 0 < n) : 0 < xs.length := by
  cases xs with
  | nil => have := h.2.1; simp [vl] at this; omega
  | cons x r => simp
theorem Num.uniq {b : Nat} : ∀ {xs ys : List Int} {n : Nat}, Num b n xs → Num b n ys → xs = ys
  | [], ys, n, h, k => by
    have : n = 0 := by have := h.2.1; simp [vl] at this; omega
    subst this
    exact k.zero.symm
  | x :: r, [], n, h, k => by
    have : n = 0 := by have := k.2.1; simp [vl] at this; omega
    subst this
    exact h.zero
  | x :: r, y :: q, n, h, k => by
    have dx := h.1.cons
    have dy := k.1.cons
    have hv := h.2.1
    have kv := k.2.1
    simp only [vl] at hv kv
    have e1 : x = (n : Int) % 2 ^ b := by rw [← hv, Int.add_mul_emod_self_left, Int.emod_eq_of_lt dx.1.1 dx.1.2]
    have e2 : y = (n : Int) % 2 ^ b := by rw [← kv, Int.add_mul_emod_self_left, Int.emod_eq_of_lt dy.1.1 dy.1.2]
    have f1 : vl b r = (n : Int) / 2 ^ b := by rw [← hv, Int.add_mul_ediv_left _ _ (Int.ne_of_gt (pos2 b)), Int.ediv_eq_zero_of_lt dx.1.1 dx.1.2]; omega
    have f2 : vl b q = (n : Int) / 2 ^ b := by rw [← kv, Int.add_mul_ediv_left _ _ (Int.ne_of_gt (pos2 b)), Int.ediv_eq_zero_of_lt dy.1.1 dy.1.2]; omega
    have h0 := vl_nonneg dx.2
    obtain ⟨t, ht⟩ := Int.eq_ofNat_of_zero_le h0
    have hr : r.getLast? ≠ some 0 := by
      by_cases e : r = []
      · rw [e]; simp
      · exact h.tail e
    have hq : q.getLast? ≠ some 0 := by
      by_cases e : q = []
      · rw [e]; simp
      · exact k.tail e
    have := Num.uniq (n := t) (xs := r) (ys := q) ⟨dx.2, ht, hr⟩ ⟨dy.2, by rw [f2, ← f1, ht], hq⟩
    rw [this, e1, ← e2]
theorem Num.one_limb {b n : Nat} {xs : List Int} (h : Num b n xs) (hn : 0 < n) (hb : n < 2 ^ b) : xs = [(n : Int)] := h.uniq (Num.single hn hb)
theorem push_dg {b : Nat} {acc : List Int} {t : Int} (h : Dg b acc) : Dg b (acc ++ [t % 2 ^ b]) :=
  h.app (Dg.one (Int.emod_nonneg _ (Int.ne_of_gt (pos2 b))) (Int.emod_lt_of_pos _ (pos2 b)))
theorem push_vl {b : Nat} {acc : List Int} {t : Int} : vl b (acc ++ [t % 2 ^ b]) + 2 ^ (b * (acc.length + 1)) * (t / 2 ^ b) = vl b acc + 2 ^ (b * acc.length) * t := by
  rw [vl_app, Nat.mul_add, Nat.mul_one, Int.pow_add]
  simp only [vl, Int.mul_zero, Int.add_zero]
  have := Int.emod_add_mul_ediv t (2 ^ b)
  have e : (2 : Int) ^ (b * acc.length) * t = 2 ^ (b * acc.length) * (t % 2 ^ b) + 2 ^ (b * acc.length) * (2 ^ b * (t / 2 ^ b)) := by rw [← Int.mul_add, this]
  rw [e, ← Int.mul_assoc]
  omega
theorem div_le_one {b : Nat} {t : Int} (h0 : 0 ≤ t) (h : t < 2 * 2 ^ b) : 0 ≤ t / 2 ^ b ∧ t / 2 ^ b ≤ 1 := by
  refine ⟨Int.ediv_nonneg h0 (Int.le_of_lt (pos2 b)), ?_⟩
  have : t / 2 ^ b < 2 := Int.ediv_lt_of_lt_mul (pos2 b) h
  omega
/-- more limbs than the number of the last sum's larger part: the last limb is not nought -/
theorem last_of {b : Nat} {xs : List Int} (d : Dg b xs) (h : 2 ^ (b * (xs.length - 1)) ≤ vl b xs) : xs.getLast? ≠ some 0 := by
  intro e
  obtain ⟨ys, rfl⟩ := List.getLast?_eq_some_iff.mp e
  rw [vl_app] at h
  have h1 := vl_lt d.left
  simp [vl] at h
  omega
theorem pow_two_nat (k : Nat) : ((2 ^ k : Nat) : Int) = 2 ^ k := by push_cast; rfl
theorem B_rng {b : Nat} (hb : 6 ≤ b ∧ b ≤ 8) : 64 ≤ (2 : Int) ^ b ∧ (2 : Int) ^ b ≤ 256 := by
  rcases (by omega : b = 6 ∨ b = 7 ∨ b = 8) with rfl | rfl | rfl <;> decide
theorem BN_rng {b : Nat} (hb : 6 ≤ b ∧ b ≤ 8) : 64 ≤ 2 ^ b ∧ 2 ^ b ≤ 256 := by
  rcases (by omega : b = 6 ∨ b = 7 ∨ b = 8) with rfl | rfl | rfl <;> decide
theorem getD_out {xs : List Int} {i : Nat} (h : xs.length ≤ i) : xs.getD i 0 = 0 := by simp [List.getElem?_eq_none h]
theorem divmod_neg {t B : Int} (h0 : -B ≤ t) (h1 : t < 0) (hB : 0 < B) : t % B = t + B ∧ t / B = -1 := by
  have h : (t + B) % B = t + B := Int.emod_eq_of_lt (by omega) (by omega)
  have h' : (t + B) / B = 0 := Int.ediv_eq_zero_of_lt (by omega) (by omega)
  rw [Int.add_emod_right] at h
  rw [Int.add_ediv_of_dvd_right (Int.dvd_refl B), Int.ediv_self (by omega)] at h'
  exact ⟨h, by omega⟩
theorem divmod_pos {t B : Int} (h0 : 0 ≤ t) (h1 : t < B) : t % B = t ∧ t / B = 0 := ⟨Int.emod_eq_of_lt h0 h1, Int.ediv_eq_zero_of_lt h0 h1⟩
theorem vl_take_any (b : Nat) (xs : List Int) (k : Nat) : vl b (xs.take (k + 1)) = vl b (xs.take k) + 2 ^ (b * k) * xs.getD k 0 := by
  by_cases h : k < xs.length
  · exact vl_take_succ b xs k h
  · rw [List.take_of_length_le (by omega), List.take_of_length_le (by omega), getD_out (by omega), Int.mul_zero, Int.add_zero]
theorem Num.drop {b x : Nat} {xs : List Int} (h : Num b x xs) (s : Nat) : Num b (x / 2 ^ (b * s)) (xs.drop s) := by
  have e := List.take_append_drop s xs
  have h1 := vl_lt (h.1.take s)
  have h0 := vl_nonneg (h.1.take s)
  have h0' := vl_nonneg (h.1.drop s)
  have hp : (0 : Int) < 2 ^ (b * s) := pos2 _
  have hle : (2 : Int) ^ (b * (xs.take s).length) ≤ 2 ^ (b * s) := by
    have := Nat.pow_le_pow_right (n := 2) (by decide) (Nat.mul_le_mul_left b (show (xs.take s).length ≤ s by rw [List.length_take]; omega))
    rw [← pow_two_nat, ← pow_two_nat]
    exact_mod_cast this
  have hv : vl b xs = vl b (xs.take s) + 2 ^ (b * s) * vl b (xs.drop s) := by
    conv => lhs; rw [← e]
    rw [vl_app]
    by_cases hs : s ≤ xs.length
    · rw [List.length_take, Nat.min_eq_left hs]
    · rw [List.drop_of_length_le (by omega)]; simp [vl]
  refine ⟨h.1.drop s, ?_, ?_⟩
  · have : vl b (xs.drop s) = (x : Int) / 2 ^ (b * s) := by
      rw [← h.2.1, hv, Int.add_mul_ediv_left _ _ (by omega), Int.ediv_eq_zero_of_lt h0 (by omega)]; omega
    rw [this]; push_cast; rfl
  · by_cases hs : s < xs.length
    · rw [List.getLast?_drop, if_neg (by omega)]; exact h.2.2
    · rw [List.drop_of_length_le (by omega)]; simp
theorem vl_take_mod {b x : Nat} {xs : List Int} (h : Num b x xs) (s : Nat) : vl b (xs.take s) = ((x % 2 ^ (b * s) : Nat) : Int) := by
  have hd := h.drop s
  have e := List.take_append_drop s xs
  have hv : (x : Int) = vl b (xs.take s) + 2 ^ (b * s) * ((x / 2 ^ (b * s) : Nat) : Int) := by
    rw [← hd.2.1, ← h.2.1]
    conv => lhs; rw [← e]
    rw [vl_app]
    by_cases hs : s ≤ xs.length
    · rw [List.length_take, Nat.min_eq_left hs]
    · rw [List.drop_of_length_le (by omega)]; simp [vl]
  have := Nat.mod_add_div x (2 ^ (b * s))
  have h2 : (x : Int) = ((x % 2 ^ (b * s) : Nat) : Int) + 2 ^ (b * s) * ((x / 2 ^ (b * s) : Nat) : Int) := by
    rw [← pow_two_nat, ← Int.natCast_mul, ← Int.natCast_add, this]
  omega
theorem num_glue {b t z : Nat} {ts zs : List Int} (d : Dg b ts) (e : vl b ts = t) (h : Num b z zs) (hz : 0 < z) : Num b (t + z * 2 ^ (b * ts.length)) (ts ++ zs) := by
  refine ⟨d.app h.1, ?_, ?_⟩
  · rw [vl_app, e, h.2.1]
    push_cast
    rw [Int.mul_comm]
  · have hne := h.pos hz
    obtain ⟨y, q, rfl⟩ := List.exists_cons_of_ne_nil (l := zs) (by intro e; subst e; exact absurd hne (by simp))
    rw [List.getLast?_append, List.getLast?_cons]
    have := h.2.2
    rw [List.getLast?_cons] at this
    simpa using this
theorem drop_set {xs : List Int} {j : Nat} {q : Int} (h : j < xs.length) : (xs.set j q).drop j = q :: xs.drop (j + 1) := by
  rw [List.drop_eq_getElem_cons (by simpa using h)]
  simp [List.drop_set_of_lt]
theorem vl_drop_cons {b : Nat} {xs : List Int} {j : Nat} (h : j < xs.length) : vl b (xs.drop j) = xs.getD j 0 + 2 ^ b * vl b (xs.drop (j + 1)) := by
  rw [List.drop_eq_getElem_cons h]
  simp [vl, h]
def cmpN (xs ys : List Int) : Nat → Int
  | 0 => 0
  | n + 1 => if xs.getD n 0 ≠ ys.getD n 0 then (if xs.getD n 0 < ys.getD n 0 then -1 else 1) else cmpN xs ys n
def sgn (a b : Int) : Int := if a < b then -1 else if a = b then 0 else 1
theorem cmpN_sgn {b : Nat} {xs ys : List Int} (dx : Dg b xs) (dy : Dg b ys) (hl : xs.length = ys.length) : ∀ n, n ≤ xs.length → cmpN xs ys n = sgn (vl b (xs.take n)) (vl b (ys.take n))
  | 0, _ => by simp [cmpN, sgn]
  | n + 1, hn => by
    rw [vl_take_succ b xs n (by omega), vl_take_succ b ys n (by omega)]
    have ih := cmpN_sgn dx dy hl n (by omega)
    have hx := vl_lt (dx.take n)
    have hy := vl_lt (dy.take n)
    have hx0 := vl_nonneg (dx.take n)
    have hy0 := vl_nonneg (dy.take n)
    rw [List.length_take, Nat.min_eq_left (by omega)] at hx hy
    unfold cmpN
    have gx := dx.get n
    have gy := dy.get n
    generalize xs.getD n 0 = x at *
    generalize ys.getD n 0 = y at *
    have hp : (0 : Int) < 2 ^ (b * n) := pos2 _
    generalize (2 : Int) ^ (b * n) = P at *
    by_cases e : x = y
    · subst e
      rw [if_neg (by simp), ih]
      unfold sgn
      repeat' split
      all_goals omega
    · rw [if_pos e]
      unfold sgn
      by_cases h1 : x < y
      · have : P * (x + 1) ≤ P * y := Int.mul_le_mul_of_nonneg_left (by omega) (by omega)
        rw [Int.mul_add, Int.mul_one] at this
        repeat' split
        all_goals omega
      · have : P * (y + 1) ≤ P * x := Int.mul_le_mul_of_nonneg_left (by omega) (by omega)
        rw [Int.mul_add, Int.mul_one] at this
        repeat' split
        all_goals omega
theorem len_lt {b m n : Nat} {xs ys : List Int} (h : Num b m xs) (k : Num b n ys) (hl : xs.length < ys.length) : m < n := by
  have h1 := vl_lt h.1
  have h2 := last_ge k.1 k.2.2 (by intro e; rw [e] at hl; exact absurd hl (Nat.not_lt_zero _))
  rw [h.2.1] at h1
  rw [k.2.1] at h2
  have h3 : (2 : Int) ^ (b * xs.length) ≤ 2 ^ (b * (ys.length - 1)) := by
    have := Nat.pow_le_pow_right (n := 2) (by decide) (Nat.mul_le_mul_left b (show xs.length ≤ ys.length - 1 by omega))
    have h : ((2 ^ (b * xs.length) : Nat) : Int) ≤ ((2 ^ (b * (ys.length - 1)) : Nat) : Int) := by exact_mod_cast this
    push_cast at h
    exact h
  omega
-- part Bit
theorem and_mask (n : Nat) : ∀ x : Int, Builtin.bitAnd x (2 ^ n - 1) = x % 2 ^ n := by
  intro x
  have hp := pos2 n
  have hm : (2 ^ n - 1 : Int).toNat = 2 ^ n - 1 := by
    have : ((2 ^ n : Nat) : Int) = 2 ^ n := by push_cast; rfl
    omega
  unfold Builtin.bitAnd
  have h2 : decide ((0 : Int) ≤ 2 ^ n - 1) = true := decide_eq_true (by omega)
  rw [h2]
  by_cases h : 0 ≤ x
  · rw [decide_eq_true h]
    obtain ⟨k, rfl⟩ := Int.eq_ofNat_of_zero_le h
    simp only [Int.toNat_natCast, hm]
    rw [Nat.and_two_pow_sub_one_eq_mod]
    push_cast; rfl
  · rw [decide_eq_false h]
    show (2 ^ n - 1 : Int) - (((2 ^ n - 1 : Int).toNat &&& (Builtin.bitNot x).toNat : Nat) : Int) = x % 2 ^ n
    rw [hm]
    have hn : Builtin.bitNot x = -x - 1 := by unfold Builtin.bitNot; omega
    obtain ⟨k, hk⟩ := Int.eq_ofNat_of_zero_le (show 0 ≤ -x - 1 by omega)
    rw [hn, hk, Int.toNat_natCast, Nat.and_comm, Nat.and_two_pow_sub_one_eq_mod]
    have hx : x = -(k : Int) - 1 := by omega
    subst hx
    have hc : ((2 ^ n : Nat) : Int) = 2 ^ n := by push_cast; rfl
    have hd := Nat.mod_add_div k (2 ^ n)
    have hlt := Nat.mod_lt k (show 0 < 2 ^ n by omega)
    have e : -(k : Int) - 1 = (2 ^ n - 1 - ((k % 2 ^ n : Nat) : Int)) + 2 ^ n * (-((k / 2 ^ n : Nat) : Int) - 1) := by
      have hd' : (k : Int) = ((k % 2 ^ n : Nat) : Int) + 2 ^ n * ((k / 2 ^ n : Nat) : Int) := by
        rw [← hc, ← Int.natCast_mul, ← Int.natCast_add, hd]
      rw [Int.mul_sub, Int.mul_neg, Int.mul_one]
      omega
    rw [e, Int.add_mul_emod_self_left, Int.emod_eq_of_lt (by omega) (by omega)]
theorem bitOr_nat (x y : Nat) : Builtin.bitOr (x : Int) (y : Int) = ((x ||| y : Nat) : Int) := by
  unfold Builtin.bitOr
  have hx : Builtin.bitNot (x : Int) = -(x : Int) - 1 := by unfold Builtin.bitNot; omega
  have hy : Builtin.bitNot (y : Int) = -(y : Int) - 1 := by unfold Builtin.bitNot; omega
  rw [hx, hy]
  unfold Builtin.bitAnd
  rw [decide_eq_false (by omega), decide_eq_false (by omega)]
  show Builtin.bitNot (Builtin.bitNot ((Builtin.bitNot _).toNat ||| (Builtin.bitNot _).toNat : Nat)) = _
  have h1 : Builtin.bitNot (-(x : Int) - 1) = x := by unfold Builtin.bitNot; omega
  have h2 : Builtin.bitNot (-(y : Int) - 1) = y := by unfold Builtin.bitNot; omega
  rw [h1, h2, Int.toNat_natCast, Int.toNat_natCast]
  unfold Builtin.bitNot
  omega
theorem bitOr_add {x y : Int} {k : Nat} (hx : 0 ≤ x) (h0 : 0 ≤ y) (hy : y < 2 ^ k) : Builtin.bitOr (x * 2 ^ k) y = x * 2 ^ k + y := by
  obtain ⟨a, rfl⟩ := Int.eq_ofNat_of_zero_le hx
  obtain ⟨c, rfl⟩ := Int.eq_ofNat_of_zero_le h0
  have hc : ((2 ^ k : Nat) : Int) = 2 ^ k := by push_cast; rfl
  have e : (a : Int) * 2 ^ k = ((a * 2 ^ k : Nat) : Int) := by push_cast; rfl
  rw [e, bitOr_nat]
  have := Nat.shiftLeft_add_eq_or_of_lt (show c < 2 ^ k by omega) a
  rw [Nat.shiftLeft_eq] at this
  rw [← this]
  push_cast; rfl
theorem bitOr_add' {x y : Int} {k : Nat} (hx : 0 ≤ x) (h0 : 0 ≤ y) (hy : y < 2 ^ k) : Builtin.bitOr y (x * 2 ^ k) = y + x * 2 ^ k := by
  have := bitOr_add hx h0 hy
  obtain ⟨a, rfl⟩ := Int.eq_ofNat_of_zero_le hx
  obtain ⟨c, rfl⟩ := Int.eq_ofNat_of_zero_le h0
  have e : (a : Int) * 2 ^ k = ((a * 2 ^ k : Nat) : Int) := by push_cast; rfl
  rw [e] at this ⊢
  rw [bitOr_nat, Nat.or_comm, ← bitOr_nat, this]
  omega
theorem bitAnd_one (x : Int) : Builtin.bitAnd x 1 = x % 2 := and_mask 1 x
-- part Vc7
theorem mem_hd {α : Type} {a : α} {l : List α} : a ∈ a :: l := .head _
theorem mem_tl {α : Type} {a b : α} {l : List α} (h : a ∈ l) : a ∈ b :: l := .tail _ h
theorem int_def {i : Int} : MV.int i ≠ .undef := fun h => nomatch h
theorem ref_def {i : Addr} : MV.ref i ≠ .undef := fun h => nomatch h
theorem bool_def {i : Bool} : MV.bool i ≠ .undef := fun h => nomatch h
theorem none_def : MV.none ≠ .undef := fun h => nomatch h
theorem nums_len (ns : List Int) : (nums ns).length = ns.length := by simp [nums]
theorem nums_app (a b : List Int) : nums a ++ nums b = nums (a ++ b) := by simp [nums]
theorem nums_get {ns : List Int} {k : Nat} (h : k < ns.length) : (nums ns)[k]? = some (.int (ns.getD k 0)) := by
  simp [nums, h]
theorem nums_set (ns : List Int) (k : Nat) (x : Int) : (nums ns).set k (.int x) = nums (ns.set k x) := by simp [nums, List.map_set]
theorem nums_rep (n : Nat) (x : Int) : (List.replicate n (nums [x])).flatten = nums (List.replicate n x) := by
  induction n with
  | zero => rfl
  | succ n ih => simp only [List.replicate_succ, List.flatten_cons, ih]; rfl
def pickN (xs : List Int) (lo hi : Option Int) : List Int := (xs.drop (lo.elim 0 (clipAt xs.length))).take (hi.elim xs.length (clipAt xs.length) - lo.elim 0 (clipAt xs.length))
theorem pickL_nums (xs : List Int) (lo hi : Option Int) : pickL (nums xs) lo hi = nums (pickN xs lo hi) := by
  unfold pickL pickN nums
  simp only [List.length_map, List.map_take, List.map_drop]
section
variable {Γ : Fm} {loc : Loc} {g : Gl} {Q : MV → Loc → Gl → Prop} {K : AF → Loc → Gl → Prop} {i j : Int}
theorem seqK_next {rest : List Stmt} (h : EXS Γ rest loc g K) : seqK Γ rest K .next loc g := h
theorem seqK_ret {rest : List Stmt} {v : MV} (h : K (.ret v) loc g) : seqK Γ rest K (.ret v) loc g := h
theorem seqK_cont {rest : List Stmt} (h : K .cont loc g) : seqK Γ rest K .cont loc g := h
theorem turnK_next {nx : Loc → Gl → Prop} (h : nx loc g) : turnK K nx .next loc g := h
theorem turnK_cont {nx : Loc → Gl → Prop} (h : nx loc g) : turnK K nx .cont loc g := h
theorem turnK_ret {nx : Loc → Gl → Prop} {v : MV} (h : K (.ret v) loc g) : turnK K nx (.ret v) loc g := h
theorem endK_ret {Q : MV → Gl → Prop} {v : MV} {g' : Gl} (h : Q v g') (hs : g'.Sublist g) : endK Q (.ret v) loc g := ⟨g', hs, h⟩
theorem endK_next {Q : MV → Gl → Prop} {g' : Gl} (h : Q .none g') (hs : g'.Sublist g) : endK Q .next loc g := ⟨g', hs, h⟩
def Seal (K N : AF → Loc → Gl → Prop) : Prop := ∀ f loc g, K f loc g → N f loc g
theorem Seal.go {N : AF → Loc → Gl → Prop} {f : AF} (s : Seal K N) (h : K f loc g) : N f loc g := s f loc g h
theorem Seal.rfl : Seal K K := fun _ _ _ h => h
theorem EX_while_inv {t : Expr} {b : List Stmt} {pos : Pos} (I : Nat → Loc → Gl → Prop) {n : Nat} (h0 : I n loc g)
    (step : ∀ n loc g N M, Seal (turnK K fun loc g => ∃ m, m < n ∧ I m loc g) N → Seal K M → I n loc g → TST Γ t loc g fun c loc g => (c = true → EXS Γ b loc g N) ∧ (c = false → M .next loc g)) : EX Γ (.While t b [] pos) loc g K := by
  refine EX_while (n + 1) ?_
  have key : ∀ N n loc g, n < N → I n loc g → WHL Γ t b K N loc g := by
    intro N
    induction N with
    | zero => intro n loc g h; exact absurd h (Nat.not_lt_zero _)
    | succ N ih =>
      intro n loc g hn hI
      refine TR.mono (step n loc g _ _ Seal.rfl Seal.rfl hI) fun c loc g h => ⟨fun hc => TR.mono (h.1 hc) fun f loc g hf => ?_, h.2⟩
      cases f with
      | next => obtain ⟨m, hm, q⟩ := hf; exact ih m loc g (by omega) q
      | cont => obtain ⟨m, hm, q⟩ := hf; exact ih m loc g (by omega) q
      | brk => exact hf
      | ret v => exact hf
  exact key _ n loc g (Nat.lt_succ_self _) h0
theorem turnK_mono {nx nx' : Loc → Gl → Prop} {f : AF} (h : turnK K nx f loc g) (k : ∀ loc g, nx loc g → nx' loc g) : turnK K nx' f loc g := by
  cases f with
  | next => exact k _ _ h
  | cont => exact k _ _ h
  | brk => exact h
  | ret v => exact h
theorem FORB_its {tg : Expr} {b : List Stmt} {keep : Gl → Prop} (I : Nat → Loc → Gl → Prop) (its : List It) (h0 : I 0 loc g)
    (step : ∀ i it loc g, its[i]? = some it → ∀ N, Seal (turnK K fun loc g => keep g ∧ I (i + 1) loc g) N → I i loc g → ∃ loc', Bind tg it loc loc' ∧ EXS Γ b loc' g N)
    (done : ∀ loc g, I its.length loc g → K .next loc g) : FORB Γ tg b keep K its loc g := by
  have key : ∀ (r : List It) (i : Nat) loc g, its.drop i = r → I i loc g → i ≤ its.length → FORB Γ tg b keep K r loc g := by
    intro r
    induction r with
    | nil =>
      intro i loc g hd hI hi
      have : i = its.length := by
        have := congrArg List.length hd
        rw [List.length_drop] at this
        simp at this
        omega
      subst this
      exact done loc g hI
    | cons it r ih =>
      intro i loc g hd hI hi
      have hlt : i < its.length := by
        have := congrArg List.length hd
        rw [List.length_drop] at this
        simp at this
        omega
      have hit : its[i]? = some it := by
        have := List.drop_eq_getElem_cons hlt
        rw [this] at hd
        rw [List.getElem?_eq_getElem hlt]
        exact congrArg some (List.cons.inj hd).1
      obtain ⟨loc', hb, hx⟩ := step i it loc g hit _ Seal.rfl hI
      refine ⟨loc', hb, TR.mono hx fun f loc g hf => turnK_mono hf fun loc g h => ⟨h.1, ih (i + 1) loc g ?_ h.2 hlt⟩⟩
      have := List.drop_eq_getElem_cons hlt
      rw [this] at hd
      exact (List.cons.inj hd).2
  exact key _ 0 loc g (List.drop_zero) h0 (Nat.zero_le _)
theorem rng_len (c : Int) : ∀ (n : Nat) (a : Int), (rng c a n).length = n
  | 0, _ => rfl
  | n + 1, a => congrArg (· + 1) (rng_len c n (a + c))
theorem rng_get (c : Int) : ∀ (n : Nat) (a : Int) (i : Nat) (it : It), (rng c a n)[i]? = some it → it = .val (.int (a + i * c)) ∧ i < n
  | 0, _, _, _, h => by simp [rng] at h
  | n + 1, a, 0, it, h => by simp [rng] at h; subst h; simp
  | n + 1, a, i + 1, it, h => by
    have h' : (rng c (a + c) n)[i]? = some it := by simpa [rng] using h
    obtain ⟨e, hi⟩ := rng_get c n (a + c) i it h'
    refine ⟨?_, by omega⟩
    rw [e]
    congr 2
    push_cast
    rw [Int.add_mul, Int.one_mul]; omega
theorem FORB_rng {tg : Expr} {b : List Stmt} {keep : Gl → Prop} {a c : Int} {n : Nat} (I : Nat → Loc → Gl → Prop) (h0 : I 0 loc g)
    (step : ∀ i loc g, i < n → ∀ N, Seal (turnK K fun loc g => keep g ∧ I (i + 1) loc g) N → I i loc g → ∃ loc', Bind tg (.val (.int (a + i * c))) loc loc' ∧ EXS Γ b loc' g N)
    (done : ∀ loc g, I n loc g → K .next loc g) : FORB Γ tg b keep K (rng c a n) loc g :=
  FORB_its I _ h0 (fun i it loc g hit N hN hI => by
    obtain ⟨rfl, hi⟩ := rng_get c n a i it hit
    exact step i loc g hi N hN hI) (by rw [rng_len]; exact done)
theorem FORB_nums {tg : Expr} {b : List Stmt} {keep : Gl → Prop} {xs : List Int} (I : Nat → Loc → Gl → Prop) (h0 : I 0 loc g)
    (step : ∀ i loc g, i < xs.length → ∀ N, Seal (turnK K fun loc g => keep g ∧ I (i + 1) loc g) N → I i loc g → ∃ loc', Bind tg (.val (.int (xs.getD i 0))) loc loc' ∧ EXS Γ b loc' g N)
    (done : ∀ loc g, I xs.length loc g → K .next loc g) : FORB Γ tg b keep K ((nums xs).map .val) loc g :=
  FORB_its I _ h0 (fun i it loc g hit N hN hI => by
    have hlt : i < xs.length := by
      have := (List.getElem?_eq_some_iff.mp hit).1
      simpa [nums] using this
    have : it = .val (.int (xs.getD i 0)) := by
      rw [List.getElem?_map, nums_get hlt] at hit
      exact (Option.some.inj hit).symm
    subst this
    exact step i loc g hlt N hN hI) (by simpa [nums] using done)
theorem enumL_len : ∀ (xs : List MV) (k : Nat), (enumL k xs).length = xs.length
  | [], _ => rfl
  | _ :: r, k => congrArg (· + 1) (enumL_len r (k + 1))
theorem enumL_get : ∀ (xs : List MV) (k i : Nat), (enumL k xs)[i]? = xs[i]?.map fun x => .pair ((k + i : Nat) : Int) x
  | [], _, _ => by simp [enumL]
  | x :: r, k, 0 => by simp [enumL]
  | x :: r, k, i + 1 => by
    have := enumL_get r (k + 1) i
    simp only [enumL, List.getElem?_cons_succ, this]
    congr 1
    funext y
    rw [show k + 1 + i = k + (i + 1) by omega]
theorem FORB_enum {tg : Expr} {b : List Stmt} {keep : Gl → Prop} {xs : List Int} (I : Nat → Loc → Gl → Prop) (h0 : I 0 loc g)
    (step : ∀ i loc g, i < xs.length → ∀ N, Seal (turnK K fun loc g => keep g ∧ I (i + 1) loc g) N → I i loc g → ∃ loc', Bind tg (.pair i (.int (xs.getD i 0))) loc loc' ∧ EXS Γ b loc' g N)
    (done : ∀ loc g, I xs.length loc g → K .next loc g) : FORB Γ tg b keep K (enumL 0 (nums xs)) loc g :=
  FORB_its I _ h0 (fun i it loc g hit N hN hI => by
    have hlt : i < xs.length := by
      have := (List.getElem?_eq_some_iff.mp hit).1
      rw [enumL_len] at this
      simpa [nums] using this
    have : it = .pair i (.int (xs.getD i 0)) := by
      rw [enumL_get, nums_get hlt, Nat.zero_add] at hit
      exact (Option.some.inj hit).symm
    subst this
    exact step i loc g hlt N hN hI) (by rw [enumL_len]; simpa [nums] using done)

theorem BIN_shl1 {n : Nat} (hn : n ≤ 1000) (h : Q (.int (2 ^ n)) loc g) : BINOP Γ .LShift (.int 1) (.int (n : Int)) loc g Q :=
  BIN_shl (by omega) (by omega) (by decide) (by rw [Int.toNat_natCast, Int.one_mul]; exact h)
theorem FORB_one {tg : Expr} {b : List Stmt} {keep : Gl → Prop} {it : It} (h : ∀ N, Seal (turnK K fun loc g => keep g ∧ K .next loc g) N → ∃ loc', Bind tg it loc loc' ∧ EXS Γ b loc' g N) : FORB Γ tg b keep K [it] loc g := h _ Seal.rfl
theorem BIN_shlN {n : Nat} (hn : n ≤ 1000) (h0 : 0 ≤ i) (h1 : i < 2 ^ 60) (h : Q (.int (i * 2 ^ n)) loc g) : BINOP Γ .LShift (.int i) (.int (n : Int)) loc g Q :=
  BIN_shl (by omega) (by omega) (by omega) (by rw [Int.toNat_natCast]; exact h)
theorem BIN_shrN {n : Nat} (h : Q (.int (i / 2 ^ n)) loc g) : BINOP Γ .RShift (.int i) (.int (n : Int)) loc g Q :=
  BIN_shr (by omega) (by rw [Int.toNat_natCast]; exact h)
theorem IOP_shrN {n : Nat} (h : Q (.int (i / 2 ^ n)) loc g) : IOP Γ .RShift (.int i) (.int (n : Int)) loc g Q :=
  IOP_shr (by omega) (by rw [Int.toNat_natCast]; exact h)
theorem BIN_mask {n : Nat} (h : Q (.int (i % 2 ^ n)) loc g) : BINOP Γ .BitAnd (.int i) (.int (2 ^ n - 1)) loc g Q :=
  BIN_and (by rw [and_mask]; exact h)
theorem BIN_and1 (h : Q (.int (i % 2)) loc g) : BINOP Γ .BitAnd (.int i) (.int 1) loc g Q :=
  BIN_and (by rw [bitAnd_one]; exact h)
theorem TR.drop {α β : Type} {rep : β → α → Prop} {t : Sem α} {Q : β → Loc → Gl → Prop} {g' : Gl} (hs : g'.Sublist g) (h : TR Γ rep t loc g' Q) : TR Γ rep t loc g Q :=
  fun ok m s X P RL S hp => h ok m s X P RL ⟨S.fr, fun p hp => S.news p (((List.Sublist.refl X).append hs).subset hp), ((((List.Sublist.refl X).append hs)).map _).nodup S.nodup⟩ hp
theorem EV_val {e : Expr} (V : MV) (h : EV Γ e loc g fun v l g' => v = V ∧ l = loc ∧ g' = g) (q : Q V loc g) : EV Γ e loc g Q :=
  TR.mono h fun v l g' ⟨a, b, c⟩ => by subst a; subst b; subst c; exact q
theorem EXS_join {st : Stmt} {rest : List Stmt} (J : Loc → Gl → Prop) (h : EX Γ st loc g fun f loc g => f = .next ∧ ∃ g', List.Sublist g' g ∧ J loc g') (k : ∀ loc g, J loc g → EXS Γ rest loc g K) : EXS Γ (st :: rest) loc g K :=
  EXS_cons (TR.mono h fun f loc g ⟨e, g', hs, hj⟩ => by subst e; exact TR.drop hs (k _ _ hj))
theorem ITEM_num {v s : Expr} {l : Addr} {k : Int} {xs : List Int} {ob : Obj} (hm : (l, ob) ∈ g) (hi : Is (.list (nums xs)) ob) (h0 : 0 ≤ k) (h1 : k < xs.length) (hz : xs.length ≤ 1000) (h : Q (.int (xs.getD k.toNat 0)) loc g)
    (hs : ∀ o i, subscripted s false o i = operate [o, i] (getItem o i) := by intro _ _; exact rfl) : ITEM Γ v s (.ref l) (.int k) loc g Q :=
  ITEM_list hm hi h0 (nums_get (by omega)) (by omega) h hs
theorem ITEM_last {v s : Expr} {l : Addr} {xs : List Int} {ob : Obj} (hm : (l, ob) ∈ g) (hi : Is (.list (nums xs)) ob) (h1 : 0 < xs.length) (hz : xs.length ≤ 1000) (h : Q (.int (xs.getD (xs.length - 1) 0)) loc g)
    (hs : ∀ o i, subscripted s false o i = operate [o, i] (getItem o i) := by intro _ _; exact rfl) : ITEM Γ v s (.ref l) (.int (-1)) loc g Q :=
  ITEM_neg hm hi (by omega) (by rw [nums_len]; omega) (by rw [nums_len, show (-1 + (xs.length : Int)).toNat = xs.length - 1 by omega]; exact nums_get (by omega)) (by omega) h hs
theorem CALL_lenN {l : Addr} {xs : List Int} {o : Obj} (h1 : (l, o) ∈ g) (i1 : Is (.list (nums xs)) o) (hz : xs.length ≤ 1000) (h : Q (.int xs.length) loc g) : CALL Γ (.bi "len") [.ref l] loc g Q :=
  CALL_len h1 i1 (by rw [nums_len]; exact hz) (by rw [nums_len]; exact h)
theorem BIN_catN {l l' : Addr} {xs ys : List Int} {o o' : Obj} (h1 : (l, o) ∈ g) (i1 : Is (.list (nums xs)) o) (h2 : (l', o') ∈ g) (i2 : Is (.list (nums ys)) o') (hz : xs.length + ys.length ≤ 1000) (h : ∀ r o, Is (.list (nums (xs ++ ys))) o → Q (.ref r) loc ((r, o) :: g)) : BINOP Γ .Add (.ref l) (.ref l') loc g Q :=
  BIN_cat h1 i1 h2 i2 (by simpa [nums_len] using hz) (fun r o hi => h r o (by rw [← nums_app]; exact hi))
theorem BIN_repN {l : Addr} {x : Int} {k : Int} {o : Obj} (h1 : (l, o) ∈ g) (i1 : Is (.list (nums [x])) o) (hk : -1000 ≤ k) (hk2 : k ≤ 200) (h : ∀ r o, Is (.list (nums (List.replicate k.toNat x))) o → Q (.ref r) loc ((r, o) :: g)) : BINOP Γ .Mult (.ref l) (.int k) loc g Q :=
  BIN_rep h1 i1 (by omega) (by omega) (by rw [nums_len]; show 1 * _ ≤ _; omega) (fun r o hi => h r o (by rw [← nums_rep]; exact hi))
theorem EV_nil {pos : Pos} (h : ∀ r o, Is (.list (nums [])) o → Q (.ref r) loc ((r, o) :: g)) : EV Γ (.List [] pos) loc g Q :=
  EV_list (EVS_nil ⟨by decide, h⟩)
theorem EV_one {e : Expr} {pos : Pos} (h : EV Γ e loc g fun v loc g => ∃ i, v = .int i ∧ ∀ r o, Is (.list (nums [i])) o → Q (.ref r) loc ((r, o) :: g))
    (he : starEach [e] Γ.env = (false, eval e Γ.env) :: starEach [] Γ.env := by exact rfl) : EV Γ (.List [e] pos) loc g Q :=
  EV_list (EVS_cons (h.mono fun v loc g ⟨i, e, h⟩ => by subst e; exact EVS_nil ⟨by show 1 ≤ 1000; decide, h⟩) he)
theorem EV_appendN {x : Str} {e : Expr} {p pos apos : Pos} {pl : Sem Bool} {l : Addr} {o₀ : Obj} {xs₀ : List Int} (hx : (x, MV.ref l) ∈ loc) (hm : (l, o₀) ∈ g) (hi : Is (.list (nums xs₀)) o₀)
    (h : EV Γ e loc g fun v loc g => ∃ i o xs, v = .int i ∧ Is (.list (nums xs)) o ∧ xs.length ≤ 1000 ∧ ∀ o', Is (.list (nums (xs ++ [i]))) o' → ∃ g', UpdG l o o' g g' ∧ Q .none loc g')
    (hd : (x == ("__debug__" : Str)) = false := by decide)
    (hs : starEach [e] Γ.env = (false, eval e Γ.env) :: starEach [] Γ.env := by exact rfl)
    (he : eval (.Call (.Attribute (.Name x p) (Str.ofString "append") apos) [e] [] pos) Γ.env = (do
      let ov ← eval (.Name x p) Γ.env
      standAt apos.atName
      let (f, first) ← holding [ov] (getMethod ov (Str.ofString "append") pl)
      callWith pos f first (backTo pos (starEach [e] Γ.env)) []) := by exact rfl) : EV Γ (.Call (.Attribute (.Name x p) (Str.ofString "append") apos) [e] [] pos) loc g Q :=
  EV_append (EV_name hx (by intro h; cases h) ⟨l, o₀, _, rfl, hm, hi, h.mono fun v loc g ⟨i, o, xs, ev, hi, hz, q⟩ => ⟨o, _, hi, by rw [nums_len]; exact hz, fun o' ho' => q o' (by subst ev; rw [← nums_app]; exact ho')⟩⟩ hd) hs he
theorem EX_setN {o i e : Expr} {p pos : Pos} (h : EV Γ e loc g fun v loc g => EV Γ o loc g fun ov loc g => EV Γ i loc g fun iv loc g =>
      ∃ l k n ob xs, ov = .ref l ∧ iv = .int k ∧ v = .int n ∧ Is (.list (nums xs)) ob ∧ (0 ≤ k ∧ k < xs.length ∧ xs.length ≤ 1000) ∧ ∀ ob', Is (.list (nums (xs.set k.toNat n))) ob' → ∃ g', UpdG l ob ob' g g' ∧ K .next loc g')
    (hs : swapsWith e (some (.Subscript o i p)) pos.line Γ.env = pure false := by exact rfl) : EX Γ (.Assign [.Subscript o i p] e pos) loc g K :=
  EX_setitem (h.mono fun v loc g h => h.mono fun ov loc g h => h.mono fun iv loc g ⟨l, k, n, ob, xs, e1, e2, e3, hi, ⟨h0, h1, h2⟩, q⟩ => by
    subst e1; subst e2; subst e3
    exact ⟨l, k, ob, _, rfl, rfl, hi, h0, by rw [nums_len]; exact h1, by omega, fun ob' ho' => q ob' (by rw [← nums_set]; exact ho')⟩) hs
theorem EV_sliceN {v : Expr} {lo hi : Option Expr} {p pos : Pos} (h : EV Γ v loc g fun o loc g => EVP Γ lo loc g fun a loc g => EVP Γ hi loc g fun b loc g =>
      ∃ l ob xs ka kb, o = .ref l ∧ (l, ob) ∈ g ∧ Is (.list (nums xs)) ob ∧ xs.length ≤ 1000 ∧ PartIs a ka ∧ PartIs b kb ∧ ∀ r o, Is (.list (nums (pickN xs ka kb))) o → Q (.ref r) loc ((r, o) :: g)) : EV Γ (.Subscript v (.Slice lo hi none p) pos) loc g Q :=
  EV_slice (TR.mono h fun o loc g h => TR.mono h fun a loc g h => TR.mono h fun b loc g ⟨l, ob, xs, ka, kb, e, hm, hi, hz, pa, pb, q⟩ => ⟨l, ob, _, ka, kb, e, hm, hi, by rw [nums_len]; exact hz, pa, pb, fun r o ho => q r o (by rw [← pickL_nums]; exact ho)⟩)
theorem pickN_upto (xs : List Int) (b : Int) (h : 0 ≤ b) : pickN xs none (some b) = xs.take b.toNat := by
  obtain ⟨n, rfl⟩ := Int.eq_ofNat_of_zero_le h
  unfold pickN
  simp only [Option.elim, clipAt_nat, List.drop_zero, Nat.sub_zero, Int.toNat_natCast]
  rcases Nat.le_total n xs.length with h | h
  · rw [Nat.min_eq_left h]
  · rw [Nat.min_eq_right h, List.take_of_length_le (by simp), List.take_of_length_le h]
theorem pickN_all (xs : List Int) : pickN xs none none = xs := by
  unfold pickN
  simp
theorem pickN_from (xs : List Int) (b : Int) (h : 0 ≤ b) : pickN xs (some b) none = xs.drop b.toNat := by
  obtain ⟨n, rfl⟩ := Int.eq_ofNat_of_zero_le h
  unfold pickN
  simp only [Option.elim, clipAt_nat, Int.toNat_natCast]
  rcases Nat.le_total n xs.length with h | h
  · rw [Nat.min_eq_left h, List.take_of_length_le (by simp)]
  · rw [Nat.min_eq_right h, List.drop_of_length_le (Nat.le_refl _), List.drop_of_length_le h]; simp
theorem pickN_run (xs : List Int) (a b : Int) (h : 0 ≤ a) (h2 : 0 ≤ b) : pickN xs (some a) (some b) = (xs.drop a.toNat).take (b.toNat - a.toNat) := by
  obtain ⟨n, rfl⟩ := Int.eq_ofNat_of_zero_le h
  obtain ⟨k, rfl⟩ := Int.eq_ofNat_of_zero_le h2
  unfold pickN
  simp only [Option.elim, clipAt_nat, Int.toNat_natCast]
  rcases Nat.le_total n xs.length with h | h
  · rw [Nat.min_eq_left h]
    rcases Nat.le_total k xs.length with h' | h'
    · rw [Nat.min_eq_left h']
    · rw [Nat.min_eq_right h', List.take_of_length_le (by simp), List.take_of_length_le (by simp; omega)]
  · rw [Nat.min_eq_right h, List.drop_of_length_le (Nat.le_refl _), List.drop_of_length_le h]; simp
end
-- part Vc8
theorem boot_enum : bootBuiltins "enumerate" = some (.type "enumerate") := by decide +kernel
section
variable {Γ : Fm} {loc : Loc} {g : Gl} {Q : MV → Loc → Gl → Prop} {K : AF → Loc → Gl → Prop} {i j : Int}
theorem BIN_div0 {n b : Nat} (hn : n < b) (hb : b < 1000000) (h : Q (.int 0) loc g) : BINOP Γ .FloorDiv (.int n) (.int b) loc g Q :=
  BIN_div (by omega) (by omega) (by rw [Int.ediv_eq_zero_of_lt (by omega) (by omega)]; exact h)
theorem BIN_mod0 {n b : Nat} (hn : n < b) (hb : b < 1000000) (h : Q (.int n) loc g) : BINOP Γ .Mod (.int n) (.int b) loc g Q :=
  BIN_mod (by omega) (by rw [Int.emod_eq_of_lt (by omega) (by omega)]; exact h)
theorem BIN_divN {n b : Nat} (hn : 0 < b) (hb : b < 1000000) (h : Q (.int ((n / b : Nat) : Int)) loc g) : BINOP Γ .FloorDiv (.int n) (.int b) loc g Q :=
  BIN_div (by omega) (by omega) (by rw [← Int.natCast_ediv]; exact h)
theorem BIN_modN {n b : Nat} (hn : 0 < b) (h : Q (.int ((n % b : Nat) : Int)) loc g) : BINOP Γ .Mod (.int n) (.int b) loc g Q :=
  BIN_mod (by omega) (by rw [← Int.natCast_emod]; exact h)
theorem bitOr_zero {x : Int} (h : 0 ≤ x) : Builtin.bitOr x 0 = x := by
  obtain ⟨n, rfl⟩ := Int.eq_ofNat_of_zero_le h
  have := bitOr_nat n 0
  rw [Nat.or_zero] at this
  exact this
theorem IOP_orN {x y : Int} {k : Nat} (hx : 0 ≤ x) (h0 : 0 ≤ y) (hy : y < 2 ^ k) (h : Q (.int (y + x * 2 ^ k)) loc g) : IOP Γ .BitOr (.int y) (.int (x * 2 ^ k)) loc g Q :=
  IOP_or (by rw [bitOr_add' hx h0 hy]; exact h)
theorem BIN_orN {x y : Int} {k : Nat} (hx : 0 ≤ x) (h0 : 0 ≤ y) (hy : y < 2 ^ k) (h : Q (.int (x * 2 ^ k + y)) loc g) : BINOP Γ .BitOr (.int (x * 2 ^ k)) (.int y) loc g Q :=
  BIN_or (by rw [bitOr_add hx h0 hy]; exact h)
theorem Num.pos' {b n : Nat} {xs : List Int} (h : Num b n xs) (hl : 0 < xs.length) : 0 < n := by
  rcases Nat.eq_zero_or_pos n with rfl | hn
  · rw [h.zero] at hl; exact absurd hl (by simp)
  · exact hn
theorem Num.nil_iff {b n : Nat} {xs : List Int} (h : Num b n xs) : xs.length = 0 ↔ n = 0 :=
  ⟨fun e => by rcases Nat.eq_zero_or_pos n with h0 | h0; exact h0; have := h.pos h0; omega, fun e => by subst e; rw [h.zero]; rfl⟩
theorem num_lift {b x s : Nat} {xs : List Int} (h : Num b x xs) (hx : 0 < x) : Num b (x * 2 ^ (b * s)) (List.replicate s 0 ++ xs) := by
  have := num_glue (b := b) (t := 0) (ts := List.replicate s 0) Dg.rep (vl_rep b s) h hx
  rw [List.length_replicate, Nat.zero_add] at this
  exact this
theorem Dg.set {b : Nat} {xs : List Int} {j : Nat} {q : Int} (h : Dg b xs) (h0 : 0 ≤ q) (h1 : q < 2 ^ b) : Dg b (xs.set j q) := fun y hy => by
  rcases List.mem_or_eq_of_mem_set hy with h' | rfl
  · exact h y h'
  · exact ⟨h0, h1⟩
theorem divmod_of {x d : Nat} {A R : Int} (hv : (x : Int) = d * A + R) (h0 : 0 ≤ R) (h1 : R < d) : A = ((x / d : Nat) : Int) ∧ R = ((x % d : Nat) : Int) := by
  have e1 : (x : Int) / d = A := by
    rw [hv, Int.add_comm, Int.add_mul_ediv_left _ _ (by omega), Int.ediv_eq_zero_of_lt h0 h1]; omega
  have e2 : (x : Int) % d = R := by
    rw [hv, Int.add_comm, Int.add_mul_emod_self_left, Int.emod_eq_of_lt h0 h1]
  exact ⟨by rw [← e1]; push_cast; rfl, by rw [← e2]; push_cast; rfl⟩
theorem long_digit {B R y d : Int} (hB : 0 < B) (h0 : 0 ≤ R) (h1 : R < d) (h2 : 0 ≤ y) (h3 : y < B) : 0 ≤ (R * B + y) / d ∧ (R * B + y) / d < B := by
  have a : 0 ≤ R * B := Int.mul_nonneg h0 (by omega)
  refine ⟨Int.ediv_nonneg (by omega) (by omega), Int.ediv_lt_of_lt_mul (by omega) ?_⟩
  have : (R + 1) * B ≤ d * B := Int.mul_le_mul_of_nonneg_right (by omega) (by omega)
  rw [Int.add_mul, Int.one_mul] at this
  rw [Int.mul_comm B d]
  omega
theorem long_step {B R y d W V : Int} (hV : V = d * W + R) : y + B * V = d * ((R * B + y) / d + B * W) + (R * B + y) % d := by
  have := Int.mul_ediv_add_emod (R * B + y) d
  rw [Int.mul_add, hV, Int.mul_add, ← Int.mul_assoc B d W, Int.mul_comm B d, Int.mul_assoc d B W, Int.mul_comm B R]
  omega
theorem shl_step {B N c y : Int} (hB : 0 < B) (h0 : 0 ≤ c) (h1 : c < N) (h2 : 0 ≤ y) (h3 : y < B) : 0 ≤ (c + y * N) / B ∧ (c + y * N) / B < N := by
  have a : 0 ≤ y * N := Int.mul_nonneg h2 (by omega)
  refine ⟨Int.ediv_nonneg (by omega) (by omega), Int.ediv_lt_of_lt_mul (by omega) ?_⟩
  have : (y + 1) * N ≤ B * N := Int.mul_le_mul_of_nonneg_right (by omega) (by omega)
  rw [Int.add_mul, Int.one_mul] at this
  rw [Int.mul_comm N B]
  omega
theorem low_limb {b x n : Nat} {xs : List Int} (h : Num b x xs) (hn : n < b) (hl : 0 < xs.length) : xs.getD 0 0 % 2 ^ n + 2 ^ b * 0 = ((x % 2 ^ n : Nat) : Int) := by
  have hv := vl_drop_cons (b := b) (xs := xs) (j := 0) hl
  rw [List.drop_zero, h.2.1] at hv
  rw [Int.mul_zero, Int.add_zero]
  push_cast
  rw [hv, show b = n + (b - n) by omega, Int.pow_add, Int.mul_assoc, Int.add_mul_emod_self_left]
end
-- part Vc9
theorem getD_set_ne {xs : List Int} {k t : Nat} {q : Int} (h : t ≠ k) : (xs.set k q).getD t 0 = xs.getD t 0 := by
  simp [List.getElem?_set, Ne.symm h]
theorem vl_set {b : Nat} {q : Int} : ∀ {xs : List Int} {k : Nat}, k < xs.length → vl b (xs.set k q) = vl b xs + 2 ^ (b * k) * (q - xs.getD k 0)
  | [], _, h => absurd h (Nat.not_lt_zero _)
  | x :: xs, 0, _ => by simp [vl]; omega
  | x :: xs, k + 1, h => by
    have ih := vl_set (b := b) (q := q) (xs := xs) (k := k) (by simpa using h)
    simp only [List.set_cons_succ, vl, ih, List.getD_cons_succ]
    rw [Nat.mul_add, Nat.mul_one, Int.pow_add, Int.mul_add, Int.mul_comm (2 ^ (b * k)) (2 ^ b), Int.mul_assoc]
    omega
theorem mul_digit {B c f x y : Int} (hB : 0 < B) (hc : 0 ≤ c ∧ c < B) (hf : 0 ≤ f ∧ f < B) (hx : 0 ≤ x ∧ x < B) (hy : 0 ≤ y ∧ y < B) : 0 ≤ (c + (f + x * y)) / B ∧ (c + (f + x * y)) / B < B := by
  have a : 0 ≤ x * y := Int.mul_nonneg hx.1 hy.1
  refine ⟨Int.ediv_nonneg (by omega) (by omega), Int.ediv_lt_of_lt_mul (by omega) ?_⟩
  have h1 : x * y ≤ (B - 1) * y := Int.mul_le_mul_of_nonneg_right (by omega) hy.1
  have h2 : (B - 1) * y ≤ (B - 1) * (B - 1) := Int.mul_le_mul_of_nonneg_left (by omega) (by omega)
  have h3 : (B - 1) * (B - 1) = B * B - 2 * B + 1 := by rw [Int.sub_mul, Int.mul_sub]; omega
  omega
theorem mul_step {P N B V U c f x y W : Int} (hP : N = P * W) (hv : V + N * c = U + P * (x * Y)) : V + N * ((c + (f + x * y)) % B - f) + N * B * ((c + (f + x * y)) / B) = U + P * (x * (Y + W * y)) := by
  have h := Int.mul_ediv_add_emod (c + (f + x * y)) B
  have h2 : N * (c + (f + x * y)) = N * B * ((c + (f + x * y)) / B) + N * ((c + (f + x * y)) % B) := by
    conv => lhs; rw [← h]
    rw [Int.mul_add, Int.mul_assoc]
  have h3 : P * (x * (Y + W * y)) = P * (x * Y) + N * (x * y) := by
    rw [Int.mul_add, Int.mul_add, hP, Int.mul_left_comm x W y, Int.mul_assoc P W]
  rw [h3, Int.mul_sub]
  rw [Int.mul_add, Int.mul_add] at h2
  omega
-- part Vc10
section
variable {Γ : Fm} {loc : Loc} {g : Gl}
theorem TR.sub {α β : Type} {rep : β → α → Prop} {t : Sem α} {Q : β → Loc → Gl → Prop} {g' : Gl} (hs : ∀ p ∈ g', p ∈ g) (nd : (g.map (·.1)).Nodup → (g'.map (·.1)).Nodup) (h : TR Γ rep t loc g' Q) : TR Γ rep t loc g Q :=
  fun ok m s X P RL S hp => h ok m s X P RL ⟨S.fr, fun p hp => (List.mem_append.mp hp).elim (fun h => S.news p (List.mem_append_left _ h)) (fun h => S.news p (List.mem_append_right _ (hs p h))), by
    have D := S.nodup
    rw [List.map_append, List.nodup_append] at D ⊢
    refine ⟨D.1, nd D.2.1, fun a ha b hb => D.2.2 a ha b ?_⟩
    obtain ⟨p, hp, rfl⟩ := List.mem_map.mp hb
    exact List.mem_map_of_mem (hs p hp)⟩ hp
theorem TR.perm {α β : Type} {rep : β → α → Prop} {t : Sem α} {Q : β → Loc → Gl → Prop} {g' : Gl} (hs : List.Perm g' g) (h : TR Γ rep t loc g' Q) : TR Γ rep t loc g Q :=
  TR.sub (fun p hp => hs.subset hp) (fun D => ((hs.map _).nodup_iff).mpr D) h
theorem TR.swap {α β : Type} {rep : β → α → Prop} {t : Sem α} {Q : β → Loc → Gl → Prop} {p q : Addr × Obj} (h : TR Γ rep t loc (p :: q :: g) Q) : TR Γ rep t loc (q :: p :: g) Q :=
  TR.perm (List.Perm.swap _ _ _) h
end
theorem bar_guess {P i m x : Nat} (hP : 0 < P) (hi : i * m ≤ P) : x * i / P * m ≤ x := by
  have h1 : x * i / P * P ≤ x * i := Nat.div_mul_le_self _ _
  have h2 : x * i * m ≤ x * P := by rw [Nat.mul_assoc]; exact Nat.mul_le_mul_left _ hi
  have h3 : x * i / P * P * m ≤ x * i * m := Nat.mul_le_mul_right _ h1
  have h4 : (x * i / P * m) * P ≤ x * P := by
    rw [Nat.mul_right_comm]; omega
  exact Nat.le_of_mul_le_mul_right h4 hP
theorem bar_bound {b m x : Nat} (hb : b ≤ 8) (hm : 0 < m) (hx : x < 2 ^ b * m) : x * (2 ^ (b * 2) / m) < 2 ^ 32 := by
  have h1 : x * (2 ^ (b * 2) / m) ≤ 2 ^ b * m * (2 ^ (b * 2) / m) := Nat.mul_le_mul_right _ (by omega)
  have h2 : 2 ^ b * m * (2 ^ (b * 2) / m) ≤ 2 ^ b * 2 ^ (b * 2) := by
    rw [Nat.mul_assoc]; exact Nat.mul_le_mul_left _ (Nat.mul_div_le _ _)
  have h3 : 2 ^ b * 2 ^ (b * 2) ≤ 2 ^ 24 := by rw [← Nat.pow_add]; exact Nat.pow_le_pow_right (by decide) (by omega)
  have : (2 : Nat) ^ 24 < 2 ^ 32 := by decide
  omega
theorem bar_step {m B Y : Nat} (hm : 0 < m) (hB : 0 < B) : (Y % B + Y / B % m * B) % m = Y % m ∧ Y / B / m * B + (Y % B + Y / B % m * B) / m = Y / m ∧ Y % B + Y / B % m * B < B * m := by
  have e : Y = (Y % B + Y / B % m * B) + m * (Y / B / m * B) := by
    have h1 := Nat.mod_add_div Y B
    have h2 := Nat.mod_add_div (Y / B) m
    have h3 : B * (Y / B) = Y / B % m * B + m * (Y / B / m * B) := by
      conv => lhs; rw [← h2]
      rw [Nat.mul_add, Nat.mul_comm B, Nat.mul_left_comm B, Nat.mul_comm B]
    omega
  refine ⟨?_, ?_, ?_⟩
  · conv => rhs; rw [e]
    rw [Nat.add_mul_mod_self_left]
  · conv => rhs; rw [e]
    rw [Nat.add_mul_div_left _ _ hm, Nat.add_comm]
  · have h1 := Nat.mod_lt Y hB
    have h2 : Y / B % m + 1 ≤ m := Nat.mod_lt _ hm
    have h3 : (Y / B % m + 1) * B ≤ m * B := Nat.mul_le_mul_right _ h2
    rw [Nat.add_mul, Nat.one_mul, Nat.mul_comm m] at h3
    omega
-- part Vc11
def SoundC (prog : Program) (w : World) (K : Frag) (k : Nat) (f : Addr) (sp : Spc) : Prop :=
  ∀ (A : Around) (cn : Str) (cs : Scope) (L a : Addr) (ccd : Value) (cl : List (Str × Addr)) (h₀ : Heap) (k' : Nat), k ≤ k' → ∀ vs as' g Q R m s X, sp vs g Q → Reps vs as' → Fm.Ok ⟨prog, w, K, A, cn, cs, L, a, ccd, cl, h₀, k'⟩ →
    St ⟨prog, w, K, A, cn, cs, L, a, ccd, cl, h₀, k'⟩ m s.heap X g → (∀ v v' g' h' tk', Q v g' → Rep v v' → St ⟨prog, w, K, A, cn, cs, L, a, ccd, cl, h₀, k'⟩ m h' X g' → R (.ok (.ret v')) { s with heap := h', toks := tk' }) →
    codeAny (model prog w) A (.call (.ref f) ⟨as', []⟩) R s
theorem soundC {prog : Program} {w : World} {K : Frag} {k : Nat} {f : Addr} {sp : Spc} {name qual : Str} {params : Arguments} {body : List Stmt} {scope : Scope} {dV kV doc pm cdv ct oc : Value} {an od : Option Addr} {osl : Array (Option Value)}
    (ho : K.lookup f = some ⟨oc, od, .func (fnOf name qual params body scope dV kV doc pm an cdv ct), osl⟩) (hcd : codeIn K cdv qual = true) (ns ls : List Str)
    (hb : ∀ (s : Shared) vals, vals.length = ns.length → BindsTo s (fnOf name qual params body scope dV kV doc pm an cdv ct) ⟨vals, []⟩ (ns.zip vals))
    (hkl : ((ns ++ ls).all fun x => decide (scope.names.lookup x = some .local)) = true) (hnd : (ns ++ ls).Nodup) (hco : scope.isCoroutine = false) (hgen : scope.isGenerator = false) (hk : scope.kind = .function) (hcell : ∀ x ∈ scope.names, x.2 ≠ .cell)
    (hvc : ∀ A L h₀ vs g Q, sp vs g Q → vs.length = ns.length ∧ EXS ⟨prog, w, K, A, qual, scope, L, f, cdv, [], h₀, k⟩ body (ns.zip vs ++ ls.map fun x => (x, .undef)) g (endK Q)) : SoundC prog w K (k + 1) f sp := by
  intro A cn cs L a ccd cl h₀ k' hk' vs as' g Q R m s X hsp ras ok S hp
  obtain ⟨A₀, base, outer, B, hA⟩ := ok.below
  obtain ⟨p, loose, mean, mg, mb, T⟩ := ok.top
  have hlen : vs.length = ns.length := (hvc A L h₀ vs g _ hsp).1
  have hlen' : as'.length = ns.length := by rw [ras.length, hlen]
  have hns : ns.Nodup := (List.nodup_append.mp hnd).1
  have hkl' : ∀ x ∈ ns ++ ls, scope.names.lookup x = some .local := fun x hx => of_decide_eq_true (List.all_eq_true.mp hkl x hx)
  have hdep := ok.dep
  have hun := ok.un
  dsimp only at hdep hun hA
  refine code_def B S.fr ok.K S.news T hA rfl ok.kf ho hcd (Nat.lt_of_le_of_lt (Nat.le_add_right _ _) hdep) (hb s as' hlen') (fun y hy => ?_) (fun g' L' h₁ FG F' N' B' X' T' => ?_) hco hgen hk hcell
  · have : y.1 ∈ (ns.zip as').map (·.1) := List.mem_map_of_mem hy
    rw [zip_keys hlen'] at this
    exact hkl' _ (List.mem_append_left _ this)
  · let Γ' : Fm := ⟨prog, w, K, A.deeper (envOf qual scope L' f cdv), qual, scope, L', f, cdv, [], g', k⟩
    have ok' : Γ'.Ok := ⟨⟨A, base, _, B', Around.frames_deeper hA⟩, X', ⟨p, loose, mean, mg, mb, T'⟩, hk, ok.hh, by show A.depth + 1 + k < _; omega, by show A.units + 3 + 8 * k + 70 < _; omega, fun q hq => (ok.codes q hq).keeps FG.keep⟩
    refine wpAny_mono (TR.go (Γ := Γ') (hvc _ L' g' vs g _ hsp).2 ok' (s := { s with heap := h₁, toks := s.toks + (ns.zip as').length }) (m := fun y => (ns.zip as').reverse.lookup y) (X := X)
      (Post := fun fl s' => LeaveK h₀ L m g' R (match fl with | .ret v => v | _ => .none) s') ⟨?_, fun x v hx => ?_⟩ ⟨F', N', S.nodup⟩ fun fl fl' loc' m' g'' h' tk' q r RL' S' => ?_) (fun _ _ x => x) fun _ _ e => e.elim
    · rw [List.map_append, zip_keys hlen, List.map_map, show ((fun x : Str × MV => x.1) ∘ fun x : Str => (x, MV.undef)) = id from rfl, List.map_id]
      exact hnd
    · rcases List.mem_append.mp hx with hx | hx
      · obtain ⟨u, hu, ru⟩ := zip_mem ras hx
        refine ⟨hkl' _ (List.mem_append_left _ ?_), fun _ => ⟨u, ?_, ru⟩⟩
        · have := List.mem_map_of_mem (f := (·.1)) hu
          rwa [zip_keys hlen'] at this
        · refine lookup_mem ?_ (List.mem_reverse.mpr hu)
          rw [List.map_reverse, zip_keys hlen']
          exact List.pairwise_reverse.mpr (List.Pairwise.imp (fun h => Ne.symm h) hns)
      · obtain ⟨y, hy, e⟩ := List.mem_map.mp hx
        cases e
        exact ⟨hkl' _ (List.mem_append_right _ hy), fun h => absurd rfl h⟩
    · refine leaveK_ S'.fr S'.news fun F1 W1 => ?_
      have D := S'.nodup
      have back : ∀ {g₂ : Gl}, g₂.Sublist g'' → St ⟨prog, w, K, A, cn, cs, L, a, ccd, cl, h₀, k'⟩ m h' X g₂ := fun {g₂} hs => by
        have hs' : (X ++ g₂).Sublist (X ++ g'') := (List.Sublist.refl X).append hs
        exact ⟨F1, fun p hp => W1 p (hs'.subset hp), (hs'.map _).nodup D⟩
      cases r with
      | ret r => obtain ⟨g₂, hs, q⟩ := q; exact hp _ _ g₂ h' tk' q r (back hs)
      | next => obtain ⟨g₂, hs, q⟩ := q; exact hp .none _ g₂ h' tk' q .none (back hs)
      | cont => exact q.elim
      | brk => exact q.elim
inductive Attrs : List DictEntry → List (Str × MV) → Prop
  | nil : Attrs [] []
  | cons {e r n v t L} : e.key = .str n t → Rep v e.val → Attrs r L → Attrs (e :: r) ((n, v) :: L)
theorem Attrs.len {es : List DictEntry} {L : List (Str × MV)} (h : Attrs es L) : es.length = L.length := by
  induction h with
  | nil => rfl
  | cons _ _ _ ih => simp [ih]
theorem Attrs.put {es : List DictEntry} {L : List (Str × MV)} {n : Str} {v : MV} {v' : Value} {hsh : Int} {t : Tok} (h : Attrs es L) (r : Rep v v') : n ∉ L.map (·.1) → Attrs (putL n hsh (.str n t) v' es) (L ++ [(n, v)]) := by
  induction h with
  | nil => intro _; exact .cons rfl r .nil
  | @cons e r' n' v₀ t₀ L' hk hr _ ih =>
    intro hn
    simp only [List.map_cons, List.mem_cons, not_or] at hn
    unfold putL
    rw [hk, show (Value.str n' t₀).isStr n = false by simp [Value.isStr]; exact fun e => hn.1 e.symm]
    exact .cons hk hr (ih hn.2)
theorem Attrs.get {es : List DictEntry} {L : List (Str × MV)} {n : Str} (h : Attrs es L) : (n ∉ L.map (·.1) → es.find? (·.key.isStr n) = none ∧ es.any (·.refKey) = false) ∧ (∀ v, (L.map (·.1)).Nodup → (n, v) ∈ L → ∃ e, es.find? (·.key.isStr n) = some e ∧ Rep v e.val) := by
  induction h with
  | nil => exact ⟨fun _ => ⟨rfl, rfl⟩, fun _ _ h => nomatch h⟩
  | @cons e r' n' v₀ t₀ L' hk hr _ ih =>
    refine ⟨fun hn => ?_, fun v hd hm => ?_⟩
    · simp only [List.map_cons, List.mem_cons, not_or] at hn
      have := ih.1 hn.2
      refine ⟨?_, ?_⟩
      · rw [List.find?_cons, hk, show (Value.str n' t₀).isStr n = false by simp [Value.isStr]; exact fun e => hn.1 e.symm]
        exact this.1
      · rw [List.any_cons, this.2, Bool.or_false]
        unfold DictEntry.refKey
        rw [hk]
    · rw [List.map_cons, List.nodup_cons] at hd
      rcases List.mem_cons.mp hm with e' | hm
      · cases e'
        exact ⟨e, by rw [List.find?_cons, hk]; simp [Value.isStr], hr⟩
      · have hne : n ≠ n' := fun e => hd.1 (e ▸ List.mem_map_of_mem (f := (·.1)) hm)
        obtain ⟨e', h1, h2⟩ := ih.2 v hd.2 hm
        refine ⟨e', ?_, h2⟩
        rw [List.find?_cons, hk, show (Value.str n' t₀).isStr n = false by simp [Value.isStr]; exact fun e => hne e.symm]
        exact h1
theorem Rep.handed {v : MV} {v' : Value} (r : Rep v v') (h : ∀ n, v ≠ .bi n) : handedIn v' = true := by
  cases r <;> first | rfl | exact absurd rfl (h _)
section
variable {Γ : Fm} {loc : Loc} {g : Gl} {Q : MV → Loc → Gl → Prop} {K : AF → Loc → Gl → Prop}
theorem CALL_make {C fI : Addr} {k : Nat} {sp : Spc} {vs : List MV} (hc : SoundC Γ.prog Γ.w Γ.K k fI sp) (hm : makesIn Γ.K C = true) (hi : findIn Γ.K (.ref C) "__init__" = some (some (.ref fI))) (hf : isFn Γ.K (.ref fI) = true) (hk : k + 1 ≤ Γ.k)
    (h : ∀ x dx, sp (.ref x :: vs) ((x, instObj C dx) :: (dx, dictOf [] 0) :: g) (fun v g' => v = .none ∧ Q (.ref x) loc g')) : CALL Γ (.ref C) vs loc g Q := by
  intro f' as' rf ras ok m s X P RL S hp
  cases rf
  obtain ⟨prog, w, K, A, cn, cs, L, a, ccd, cl, h₀, k₁⟩ := Γ
  dsimp only at *
  refine call_cls S.fr ok.K S.news hm hi hf fun x dx h' F' N' h1 h2 => ?_
  have ok' : Fm.Ok ⟨prog, w, K, A.under (.builtin "type.__call__" ⟨.ref C :: as', []⟩), cn, cs, L, a, ccd, cl, h₀, k₁ - 1⟩ := by
    obtain ⟨b1, b2, b3, b4, b5, b6, b7, b8⟩ := ok
    dsimp only at *
    refine ⟨?_, b2, b3, b4, ?_, ?_, ?_, b8⟩
    · obtain ⟨A₀, base, outer, B, hA⟩ := b1
      refine ⟨A₀, base, outer, B, ?_⟩
      exact hA
    · exact b5
    · show A.depth + 1 + (k₁ - 1) < _
      omega
    · show A.units + 1 + 8 * (k₁ - 1) + 70 < _
      omega
  have S2 : St ⟨prog, w, K, A.under (.builtin "type.__call__" ⟨.ref C :: as', []⟩), cn, cs, L, a, ccd, cl, h₀, k₁ - 1⟩ m h' X ((x, instObj C dx) :: (dx, dictOf [] 0) :: g) := by
    refine ⟨F', fun p hp => N' p ?_, nodup_mid (nodup_mid S.nodup fun p hp => Nat.ne_of_lt (h1 p hp)) fun p hp => ?_⟩
    · rcases List.mem_append.mp hp with q | q
      · exact .tail _ (.tail _ (List.mem_append_left _ q))
      · rcases List.mem_cons.mp q with rfl | q
        · exact .head _
        · rcases List.mem_cons.mp q with rfl | q
          · exact .tail _ (.head _)
          · exact .tail _ (.tail _ (List.mem_append_right _ q))
    · rcases List.mem_append.mp hp with q | q
      · exact Nat.ne_of_lt (Nat.lt_trans (h1 p (List.mem_append_left _ q)) h2)
      · rcases List.mem_cons.mp q with rfl | q
        · exact Nat.ne_of_lt h2
        · exact Nat.ne_of_lt (Nat.lt_trans (h1 p (List.mem_append_right _ q)) h2)
  refine hc _ cn cs L a ccd cl h₀ (k₁ - 1) (by omega) _ _ _ _ _ m { s with heap := h' } X (h x dx) (.cons (.ref x) ras) ok' S2 fun v v' g' h'' tk'' q r S' => ?_
  obtain ⟨rfl, q⟩ := q
  cases r
  exact ⟨rfl, hp _ _ loc m g' h'' tk'' q (.ref x) RL ⟨S'.fr, S'.news, S'.nodup⟩⟩
theorem EV_attr {o : Expr} {name : Str} {pos : Pos} (h : EV Γ o loc g fun ov loc g => ∃ x C dx es n L mv, ov = .ref x ∧ (x, instObj C dx) ∈ g ∧ (dx, dictOf es n) ∈ g ∧ (plainGet Γ.K C name = true ∧ hasDictIn Γ.K C = true ∧ findIn Γ.K (.ref C) name = some none) ∧ Attrs es L ∧ (L.map (·.1)).Nodup ∧ (name, mv) ∈ L ∧ (∀ n, mv ≠ .bi n) ∧ Q mv loc g)
    (he : eval (.Attribute o name pos) Γ.env = (do
      let ov ← eval o Γ.env
      standAt pos.atName
      let r ← holding [ov] (getAttr ov name true)
      letTemporaryGo o ov r
      pure r) := by exact rfl) : EV Γ (.Attribute o name pos) loc g Q :=
  fun ok m s X _ RL S hp => Attribute_any_ (h.go ok RL S fun ov ov' loc' m' g' h' tk' q r RL S => by
    obtain ⟨x, C, dx, es, n, L, mv, rfl, hx, hd, ⟨h1, h2, h3⟩, ha, hn, hl, hb, q⟩ := q
    cases r
    obtain ⟨e, he, hr⟩ := ha.get.2 _ hn hl
    refine get_own (attr := none) S.fr ok.K (InstAt.of_news S.news (List.mem_append_right _ hx) (List.mem_append_right _ hd)) h1 h2 h3 rfl (v := e.val) (by unfold getL; rw [he]) (hr.handed hb) ?_
    exact hp _ _ loc' m' g' h' _ q hr RL S) he
theorem EX_setattr {o e : Expr} {name : Str} {p pos : Pos} (h : EV Γ e loc g fun v loc g => EV Γ o loc g fun ov loc g => ∃ x C dx es n L, ov = .ref x ∧ (x, instObj C dx) ∈ g ∧
      (findIn Γ.K (.ref C) "__setattr__" = some (some (.builtin "object.__setattr__")) ∧ plainOver Γ.K C = true ∧ takerIn Γ.K C name = some none ∧ hasDictIn Γ.K C = true) ∧ Attrs es L ∧ name ∉ L.map (·.1) ∧ L.length ≤ 900 ∧
      ∀ es' n', Attrs es' (L ++ [(name, v)]) → ∃ g', UpdG dx (dictOf es n) (dictOf es' n') g g' ∧ K .next loc g')
    (hs : swapsWith e (some (.Attribute o name p)) pos.line Γ.env = pure false := by exact rfl) : EX Γ (.Assign [.Attribute o name p] e pos) loc g K :=
  fun ok m s X _ RL S hp => plainObj_wpAny_Assign_Attribute (h.go ok RL S fun v v' _ _ _ _ _ q r RL S => q.go ok RL S fun ov ov' loc' m' g' hh tk q r1 RL S => by
    obtain ⟨x, C, dx, es, n, L, rfl, hx, ⟨h1, h2, h3, h4⟩, ha, hn, hz, q⟩ := q
    cases r1
    obtain ⟨g'', u, q⟩ := q _ _ (ha.put (hsh := PyData.keyHash Γ.w.params name) (t := tk + 1) r hn)
    obtain ⟨U, back⟩ := S.upd u
    have hd := u.mem
    have hg := ha.get.1 hn
    refine set_dict S.fr ok.K S.news (InstAt.of_news S.news (List.mem_append_right _ hx) (List.mem_append_right _ hd)) rfl h1 h2 h3 h4 (by unfold getL; rw [hg.1]; simp [hg.2]) rfl U ?_ fun h' F' N' => ?_
    · have := (ha.put (hsh := PyData.keyHash Γ.w.params name) (t := tk + 1) r hn).len
      rw [List.length_append] at this
      show (putL _ _ _ _ _).length ≤ 1000
      rw [this]; show L.length + 1 ≤ 1000; omega
    · exact hp .next _ loc' m' g'' h' _ q .next RL (back _ _ F' N')) hs
end
-- part Vc12
def Ri (b m : Nat) : Nat := ((m + 1) / 2) ^ b
theorem Ri_ok {b m : Nat} (ho : m % 2 = 1) : Ri b m * 2 ^ b % m = 1 % m := by
  unfold Ri
  rw [← Nat.mul_pow, Nat.div_mul_cancel (Nat.dvd_of_mod_eq_zero (by omega)), Nat.pow_mod, Nat.add_mod_left, ← Nat.pow_mod, Nat.one_pow]
theorem mul_mod_of {a b c m : Nat} (h : a % m = b % m) : a * c % m = b * c % m := by rw [Nat.mul_mod, h, ← Nat.mul_mod]
theorem redc_val {b m a y : Nat} (ho : m % 2 = 1) (h : y * 2 ^ b % m = a % m) : y % m = a * Ri b m % m := by
  rw [← mul_mod_of h, Nat.mul_assoc, Nat.mul_comm (2 ^ b), Nat.mul_mod, Ri_ok ho, ← Nat.mul_mod, Nat.mul_one]
theorem row_zero {B a m mi : Nat} (h : (m * mi + 1) % B = 0) : (a + m * (a % B * mi % B)) % B = 0 := by
  have e : (a + m * (a % B * mi % B)) % B = (a + m * (a * mi)) % B := by
    rw [Nat.add_mod, Nat.mul_mod m, Nat.mod_mod, Nat.mul_mod (a % B), Nat.mod_mod, ← Nat.mul_mod a mi, ← Nat.mul_mod m, ← Nat.add_mod]
  rw [e, show a + m * (a * mi) = a * (m * mi + 1) by rw [Nat.mul_add, Nat.mul_one, Nat.mul_left_comm, Nat.add_comm], Nat.mul_mod, h, Nat.mul_zero, Nat.zero_mod]
theorem neg_inv {B m v : Nat} (hB : 0 < B) (h : m * v % B = 1) : ∃ mi : Nat, mi < B ∧ (-(v : Int)) % (B : Int) = (mi : Int) ∧ (m * mi + 1) % B = 0 := by
  have h0 : 0 ≤ (-(v : Int)) % (B : Int) := Int.emod_nonneg _ (by omega)
  have h1 : (-(v : Int)) % (B : Int) < B := Int.emod_lt_of_pos _ (by omega)
  obtain ⟨mi, e⟩ := Int.eq_ofNat_of_zero_le h0
  refine ⟨mi, by omega, e, ?_⟩
  have h2 : ((m * mi + 1 : Nat) : Int) % B = 0 := by
    have h3 : (m * v : Int) % B = 1 := by have := congrArg (Nat.cast : Nat → Int) h; push_cast at this; exact this
    push_cast
    rw [← e, Int.add_emod, Int.mul_emod, Int.emod_emod_of_dvd _ (Int.dvd_refl _), ← Int.mul_emod, ← Int.add_emod, Int.mul_neg, Int.add_comm, ← Int.sub_eq_add_neg, Int.sub_emod, h3]
    by_cases hB1 : (B : Int) = 1
    · rw [hB1]; omega
    · rw [Int.emod_eq_of_lt (a := 1) (by omega) (by omega)]; simp
  have := Int.natCast_emod (m * mi + 1) B
  rw [h2] at this
  exact Int.ofNat.inj this
theorem dbl_mod {i m : Nat} : 2 * (2 ^ i % m) % m = 2 ^ (i + 1) % m := by
  rw [Nat.mul_mod, Nat.mod_mod, ← Nat.mul_mod, Nat.pow_succ, Nat.mul_comm]
-- part Vc13
section
variable {kindOf : Str → Option NameKind}
theorem bindL_out : ∀ {bs : List (Str × Value)} {m : Str → Option Value} {x : Str}, x ∉ bs.map (·.1) → bindL kindOf bs m x = m x
  | [], _, _, _ => rfl
  | (n, v) :: r, m, x, h => by
    simp only [List.map_cons, List.mem_cons, not_or] at h
    unfold bindL
    rw [bindL_out h.2]
    split
    · exact if_neg h.1
    · rfl
theorem bindL_in {v : Value} : ∀ {bs : List (Str × Value)} {m : Str → Option Value} {x : Str}, (bs.map (·.1)).Nodup → (x, v) ∈ bs → kindOf x = some .local → bindL kindOf bs m x = some v
  | (n, u) :: r, m, x, D, h, hk => by
    rw [List.map_cons, List.nodup_cons] at D
    unfold bindL
    rcases List.mem_cons.mp h with e | h
    · cases e
      rw [bindL_out D.1, if_pos hk]; exact if_pos rfl
    · exact bindL_in D.2 h hk
theorem bindC_out : ∀ {bs : List (Str × Value)} {m : Str → Option Value} {x : Str}, x ∉ bs.map (·.1) → bindC kindOf bs m x = m x
  | [], _, _, _ => rfl
  | (n, v) :: r, m, x, h => by
    simp only [List.map_cons, List.mem_cons, not_or] at h
    unfold bindC
    rw [bindC_out h.2]
    split
    · rfl
    · exact if_neg h.1
theorem bindC_in {v : Value} : ∀ {bs : List (Str × Value)} {m : Str → Option Value} {x : Str}, (bs.map (·.1)).Nodup → (x, v) ∈ bs → kindOf x ≠ some .local → bindC kindOf bs m x = some v
  | (n, u) :: r, m, x, D, h, hk => by
    rw [List.map_cons, List.nodup_cons] at D
    unfold bindC
    rcases List.mem_cons.mp h with e | h
    · cases e
      rw [bindC_out D.1, if_neg hk]; exact if_pos rfl
    · exact bindC_in D.2 h hk
end
inductive CellsM (bs : List (Str × MV)) : List (Str × Addr) → Gl → Prop
  | nil : CellsM bs [] []
  | cons {n c o r cells} : (∀ v, (n, v) ∈ bs → Is (.cell v) o) → ((∀ v, (n, v) ∉ bs) → o.data = .cell none) → CellsM bs r cells → CellsM bs ((n, c) :: r) ((c, o) :: cells)
theorem CellsAre.keys {cm : Str → Option Value} {cl : List (Str × Addr)} {cells : Gl} (h : CellsAre cm cl cells) : cells.map (·.1) = cl.map (·.2) := by
  induction h with
  | nil => rfl
  | cons _ _ ih => simp [ih]
theorem CellsAre.toM {cm : Str → Option Value} {bs : List (Str × MV)} {cl : List (Str × Addr)} {cells : Gl} (h : CellsAre cm cl cells) (h1 : ∀ n, n ∈ cl.map (·.1) → ∀ v, (n, v) ∈ bs → ∃ v', cm n = some v' ∧ Rep v v') (h2 : ∀ n, (∀ v, (n, v) ∉ bs) → cm n = none) : CellsM bs cl cells := by
  induction h with
  | nil => exact .nil
  | @cons n c o cs cells hd _ ih =>
    refine .cons (fun v hv => ?_) (fun hv => ?_) (ih fun n hn => h1 n (.tail _ hn))
    · obtain ⟨v', e, r⟩ := h1 n (.head _) v hv
      exact .cell r (by rw [hd, e])
    · rw [hd, h2 n hv]
theorem soundFC {prog : Program} {w : World} {K : Frag} {k : Nat} {f : Addr} {sp : Spc} {name qual : Str} {params : Arguments} {body : List Stmt} {scope : Scope} {dV kV doc pm cdv ct oc : Value} {an od : Option Addr} {osl : Array (Option Value)}
    (ho : K.lookup f = some ⟨oc, od, .func (fnOf name qual params body scope dV kV doc pm an cdv ct), osl⟩) (hcd : codeIn K cdv qual = true) (ns ls cn' : List Str) (cl : Addr → List (Str × Addr)) (hcl : ∀ L, cellsFrom (L + 1) scope.names [] = cl L)
    (hcn : ∀ L, (cl L).map (·.1) = cn') (hca : ∀ L, ((cl L).map (·.2)).Nodup ∧ ∀ p ∈ cl L, L < p.2)
    (hb : ∀ (s : Shared) vals, vals.length = ns.length → BindsTo s (fnOf name qual params body scope dV kV doc pm an cdv ct) ⟨vals, []⟩ (ns.zip vals))
    (hkp : (ns.all fun x => decide (scope.names.lookup x = some .local) || decide (scope.names.lookup x = some .cell)) = true) (hkl : (ls.all fun x => decide (scope.names.lookup x = some .local)) = true) (hkc : (cn'.all fun x => decide (scope.names.lookup x = some .cell)) = true)
    (hnd : (ns ++ ls).Nodup) (hcnd : ((cellsFrom 0 scope.names []).map (·.1)).Nodup) (hco : scope.isCoroutine = false) (hgen : scope.isGenerator = false) (hk : scope.kind = .function)
    (hvc : ∀ A L h₀ vs g Q, sp vs g Q → vs.length = ns.length ∧ ∀ cells, CellsM (ns.zip vs) (cl L) cells →
      EXS ⟨prog, w, K, A, qual, scope, L, f, cdv, cl L, h₀, k⟩ body (((ns.zip vs).filter fun p => decide (scope.names.lookup p.1 = some .local)) ++ ls.map fun x => (x, .undef)) (cells ++ g) (endK Q)) : SoundF prog w K (k + 1) f sp := by
  intro A cn cs L a ccd cl₀ h₀ k' hk' vs loc g Q hsp f' as' rf ras ok m s X P RL S hp
  cases rf
  obtain ⟨A₀, base, outer, B, hA⟩ := ok.below
  obtain ⟨p, loose, mean, mg, mb, T⟩ := ok.top
  have hlen : vs.length = ns.length := (hvc A L h₀ vs g _ hsp).1
  have hlen' : as'.length = ns.length := by rw [ras.length, hlen]
  have hns : ns.Nodup := (List.nodup_append.mp hnd).1
  have hzk : (ns.zip as').map (·.1) = ns := zip_keys hlen'
  have hzk' : (ns.zip vs).map (·.1) = ns := zip_keys hlen
  have hkl' : ∀ x ∈ ls, scope.names.lookup x = some .local := fun x hx => of_decide_eq_true (List.all_eq_true.mp hkl x hx)
  have hdep := ok.dep
  have hun := ok.un
  dsimp only at hdep hun hA
  refine wpAny_call (code_defC B S.fr ok.K S.news T hA rfl ok.kf ho hcd (Nat.lt_of_le_of_lt (Nat.le_add_right _ _) hdep) (hb s as' hlen') ?_ hcnd (fun g' L' h₁ tk cells FG F' N' Y B' X' T' hl => ?_) hco hgen hk)
  · refine List.all_eq_true.mpr fun y hy => ?_
    have : y.1 ∈ (ns.zip as').map (·.1) := List.mem_map_of_mem hy
    rw [hzk] at this
    have := List.all_eq_true.mp hkp y.1 this
    simpa using this
  · have ecl := hcl L'
    rw [ecl] at Y
    have envE : envOfC qual scope L' f cdv = envX qual scope L' f cdv (cl L') := by rw [← ecl]; rfl
    rw [envE] at F' Y ⊢
    let Γ' : Fm := ⟨prog, w, K, A.deeper (envX qual scope L' f cdv (cl L')), qual, scope, L', f, cdv, cl L', g', k⟩
    have ok' : Γ'.Ok := ⟨⟨A, base, _, B', Around.frames_deeper hA⟩, X', ⟨p, loose, mean, mg, mb, T'⟩, hk, ok.hh, by show A.depth + 1 + k < _; omega, by show A.units + 3 + 8 * k + 70 < _; omega, fun q hq => (ok.codes q hq).keeps FG.keep⟩
    have hcM : CellsM (ns.zip vs) (cl L') cells := by
      refine CellsAre.toM Y (fun n hn v hv => ?_) (fun n hn => ?_)
      · obtain ⟨u, hu, ru⟩ := zip_mem ras hv
        rw [hcn] at hn
        have hc : scope.names.lookup n = some .cell := of_decide_eq_true (List.all_eq_true.mp hkc n hn)
        refine ⟨u, bindC_in (by rw [hzk]; exact hns) hu ?_, ru⟩
        show scope.names.lookup n ≠ _
        rw [hc]; decide
      · refine bindC_out ?_
        rw [hzk]
        intro hn'
        rw [← hzk'] at hn'
        obtain ⟨⟨n₁, v⟩, hv, rfl⟩ := List.mem_map.mp hn'
        exact hn v hv
    have hck : ∀ q ∈ cells, L' < q.1 := fun q hq => by
      have := List.mem_map_of_mem (f := (·.1)) hq
      rw [CellsAre.keys Y] at this
      obtain ⟨r, hr, e⟩ := List.mem_map.mp this
      rw [← e]
      exact (hca L').2 r hr
    have S1 : St Γ' (bindL (envX qual scope L' f cdv (cl L')).kindOf (ns.zip as') fun _ => none) h₁ X (cells ++ g) := by
      refine ⟨F', fun q hq => N' q ?_, ?_⟩
      · rcases List.mem_append.mp hq with hq | hq
        · exact List.mem_append_right _ (List.mem_append_left _ hq)
        · rcases List.mem_append.mp hq with hq | hq
          · exact List.mem_append_left _ hq
          · exact List.mem_append_right _ (List.mem_append_right _ hq)
      · have D := S.nodup
        have P1 : List.Perm (cells ++ (X ++ g)) (X ++ (cells ++ g)) := by
          rw [← List.append_assoc, ← List.append_assoc]
          exact List.Perm.append_right _ List.perm_append_comm
        refine ((P1.map (·.1)).nodup_iff).mp ?_
        rw [List.map_append]
        refine List.nodup_append.mpr ⟨?_, D, fun x hx y hy e => ?_⟩
        · rw [CellsAre.keys Y]; exact (hca L').1
        · obtain ⟨q, hq, rfl⟩ := List.mem_map.mp hx
          obtain ⟨r, hr, rfl⟩ := List.mem_map.mp hy
          exact Nat.lt_irrefl _ (Nat.lt_trans (hl r hr) (e ▸ hck q hq))
    refine wpAny_mono (TR.go (Γ := Γ') ((hvc _ L' g' vs g _ hsp).2 cells hcM) ok' (s := { s with heap := h₁, toks := tk }) (m := bindL (envX qual scope L' f cdv (cl L')).kindOf (ns.zip as') fun _ => none) (X := X)
      (Post := fun fl s' => LeaveK h₀ L m g' (fun r s' => match r with | .ok (.ret v) => P v s' | .ok _ => False | .error e => False) (match fl with | .ret v => v | _ => .none) s') ⟨?_, fun x v hx => ?_⟩ S1 fun fl fl' loc' m' g'' h' tk' q r RL' S' => ?_) (fun _ _ x => x) fun _ _ e => e.elim
    · refine List.Nodup.sublist (l₂ := ns ++ ls) ?_ hnd
      rw [List.map_append, List.map_map, show ((fun x : Str × MV => x.1) ∘ fun x : Str => (x, MV.undef)) = id from rfl, List.map_id]
      refine List.Sublist.append ?_ (List.Sublist.refl _)
      have := (List.filter_sublist (p := fun p : Str × MV => decide (scope.names.lookup p.1 = some .local)) (l := ns.zip vs)).map (·.1)
      rw [hzk'] at this
      exact this
    · rcases List.mem_append.mp hx with hx | hx
      · obtain ⟨hx, hloc⟩ := List.mem_filter.mp hx
        have hloc : scope.names.lookup x = some .local := of_decide_eq_true hloc
        obtain ⟨u, hu, ru⟩ := zip_mem ras hx
        exact ⟨hloc, fun _ => ⟨u, bindL_in (by rw [hzk]; exact hns) hu hloc, ru⟩⟩
      · obtain ⟨y, hy, e⟩ := List.mem_map.mp hx
        cases e
        exact ⟨hkl' _ hy, fun h => absurd rfl h⟩
    · refine leaveK_ S'.fr S'.news fun F1 W1 => ?_
      have D := S'.nodup
      have back : ∀ {g₂ : Gl}, g₂.Sublist g'' → St ⟨prog, w, K, A, cn, cs, L, a, ccd, cl₀, h₀, k'⟩ m h' X g₂ := fun {g₂} hs => by
        have hs' : (X ++ g₂).Sublist (X ++ g'') := (List.Sublist.refl X).append hs
        exact ⟨F1, fun p hp => W1 p (hs'.subset hp), (hs'.map _).nodup D⟩
      cases r with
      | ret r => obtain ⟨g₂, hs, q⟩ := q; exact hp _ _ loc m g₂ h' tk' q r RL (back hs)
      | next => obtain ⟨g₂, hs, q⟩ := q; exact hp .none _ loc m g₂ h' tk' q .none RL (back hs)
      | cont => exact q.elim
      | brk => exact q.elim
theorem CALL_clos {Γ : Fm} {loc : Loc} {g : Gl} {Q : MV → Loc → Gl → Prop} {vs : List MV} {k : Nat} {f c' : Addr} {oc : Obj} {cvs : Array Value} {t : Tok} {name qual : Str} {params : Arguments} {body : List Stmt} {scope : Scope} {cl : List (Str × Addr)} {doc pm ctv : Value}
    (hm : (f, fnMade name qual params body scope cl doc pm c' ctv) ∈ g) (hc : (c', oc) ∈ g) (hcd : oc.data = .fields cvs) (hcv : cvs[1]? = some (.str qual t)) (ns ls : List Str)
    (hb : ∀ (s : Shared) vals, vals.length = ns.length → BindsTo s (fnX name qual params body scope cl .none .none doc pm none (.ref c') ctv) ⟨vals, []⟩ (ns.zip vals))
    (hkl : ((ns ++ ls).all fun x => decide (scope.names.lookup x = some .local)) = true) (hnd : (ns ++ ls).Nodup) (hco : scope.isCoroutine = false) (hgen : scope.isGenerator = false) (hk : scope.kind = .function) (hcell : ∀ x ∈ scope.names, x.2 ≠ .cell)
    (hk1 : k + 1 ≤ Γ.k) (hlen : vs.length = ns.length)
    (hvc : ∀ A L h₀, EXS ⟨Γ.prog, Γ.w, Γ.K, A, qual, scope, L, f, .ref c', cl, h₀, k⟩ body (ns.zip vs ++ ls.map fun x => (x, .undef)) g (endK fun v g' => Q v loc g')) : CALL Γ (.ref f) vs loc g Q := by
  intro f' as' rf ras ok m s X P RL S hp
  cases rf
  obtain ⟨prog, w, K, A, cn, cs, L, a, ccd, cl₀, h₀, k'⟩ := Γ
  dsimp only at *
  obtain ⟨A₀, base, outer, B, hA⟩ := ok.below
  obtain ⟨p, loose, mean, mg, mb, T⟩ := ok.top
  have hlen' : as'.length = ns.length := by rw [ras.length, hlen]
  have hns : ns.Nodup := (List.nodup_append.mp hnd).1
  have hkl' : ∀ x ∈ ns ++ ls, scope.names.lookup x = some .local := fun x hx => of_decide_eq_true (List.all_eq_true.mp hkl x hx)
  have hdep := ok.dep
  have hun := ok.un
  dsimp only at hdep hun hA
  refine wpAny_call (code_nest B S.fr ok.K S.news T hA rfl ok.kf (List.mem_append_right _ hm) (codeRec_news S.news (List.mem_append_right _ hc) hcd hcv) (Nat.lt_of_le_of_lt (Nat.le_add_right _ _) hdep) (hb s as' hlen') (fun y hy => ?_) (fun g' L' h₁ FG F' N' B' X' T' => ?_) hco hgen hk hcell)
  · have : y.1 ∈ (ns.zip as').map (·.1) := List.mem_map_of_mem hy
    rw [zip_keys hlen'] at this
    exact hkl' _ (List.mem_append_left _ this)
  · let Γ' : Fm := ⟨prog, w, K, A.deeper (envX qual scope L' f (.ref c') cl), qual, scope, L', f, .ref c', cl, g', k⟩
    have ok' : Γ'.Ok := ⟨⟨A, base, _, B', Around.frames_deeper hA⟩, X', ⟨p, loose, mean, mg, mb, T'⟩, hk, ok.hh, by show A.depth + 1 + k < _; omega, by show A.units + 3 + 8 * k + 70 < _; omega, fun q hq => (ok.codes q hq).keeps FG.keep⟩
    refine wpAny_mono (TR.go (Γ := Γ') (hvc _ L' g') ok' (s := { s with heap := h₁, toks := s.toks + (ns.zip as').length }) (m := fun y => (ns.zip as').reverse.lookup y) (X := X)
      (Post := fun fl s' => LeaveK h₀ L m g' (fun r s' => match r with | .ok (.ret v) => P v s' | .ok _ => False | .error e => False) (match fl with | .ret v => v | _ => .none) s') ⟨?_, fun x v hx => ?_⟩ ⟨F', N', S.nodup⟩ fun fl fl' loc' m' g'' h' tk' q r RL' S' => ?_) (fun _ _ x => x) fun _ _ e => e.elim
    · rw [List.map_append, zip_keys hlen, List.map_map, show ((fun x : Str × MV => x.1) ∘ fun x : Str => (x, MV.undef)) = id from rfl, List.map_id]
      exact hnd
    · rcases List.mem_append.mp hx with hx | hx
      · obtain ⟨u, hu, ru⟩ := zip_mem ras hx
        refine ⟨hkl' _ (List.mem_append_left _ ?_), fun _ => ⟨u, ?_, ru⟩⟩
        · have := List.mem_map_of_mem (f := (·.1)) hu
          rwa [zip_keys hlen'] at this
        · refine lookup_mem ?_ (List.mem_reverse.mpr hu)
          rw [List.map_reverse, zip_keys hlen']
          exact List.pairwise_reverse.mpr (List.Pairwise.imp (fun h => Ne.symm h) hns)
      · obtain ⟨y, hy, e⟩ := List.mem_map.mp hx
        cases e
        exact ⟨hkl' _ (List.mem_append_right _ hy), fun h => absurd rfl h⟩
    · refine leaveK_ S'.fr S'.news fun F1 W1 => ?_
      have D := S'.nodup
      have back : ∀ {g₂ : Gl}, g₂.Sublist g'' → St ⟨prog, w, K, A, cn, cs, L, a, ccd, cl₀, h₀, k'⟩ m h' X g₂ := fun {g₂} hs => by
        have hs' : (X ++ g₂).Sublist (X ++ g'') := (List.Sublist.refl X).append hs
        exact ⟨F1, fun p hp => W1 p (hs'.subset hp), (hs'.map _).nodup D⟩
      cases r with
      | ret r => obtain ⟨g₂, hs, q⟩ := q; exact hp _ _ loc m g₂ h' tk' q r RL (back hs)
      | next => obtain ⟨g₂, hs, q⟩ := q; exact hp .none _ loc m g₂ h' tk' q .none RL (back hs)
      | cont => exact q.elim
      | brk => exact q.elim
-- part Vc14
def TabSt (P : Addr) (ln cl : Int) (qual : Str) (T : Gl) : Prop :=
  (P, tabObj #[]) ∈ T ∨ ∃ c' oc vs t, (P, tabObj #[rawInt ln, rawInt cl, .ref c']) ∈ T ∧ (c', oc) ∈ T ∧ oc.data = .fields vs ∧ vs[1]? = some (.str qual t)
abbrev tabQ (s : String) : Str := Str.ofString s ++ ".<locals>." ++ Str.ofString "multiplied"
def Tabs (T : Gl) : Prop := TabSt 357 259 4 (tabQ "low_times") T ∧ TabSt 350 254 4 (tabQ "mont_times") T ∧
  TabSt 343 249 4 (tabQ "barrett_times") T ∧ TabSt 336 244 4 (tabQ "divided_times") T
theorem updF_mid {d : Addr} {o : Obj} {post : List (Addr × Obj)} (h2 : ∀ p ∈ post, p.1 ≠ d) : ∀ {pre : List (Addr × Obj)}, (∀ p ∈ pre, p.1 ≠ d) → UpdF d o (pre ++ (d, o) :: post) (fun o' => pre ++ (d, o') :: post)
  | [], _ => .head h2
  | p :: r, h => .tail (h p (.head _)) (updF_mid h2 fun q hq => h q (.tail _ hq))
theorem key_uniq {a : Addr} {o o' : Obj} : ∀ {T : Gl}, (T.map (·.1)).Nodup → (a, o) ∈ T → (a, o') ∈ T → o = o'
  | p :: r, D, h, h' => by
    rw [List.map_cons, List.nodup_cons] at D
    rcases List.mem_cons.mp h with e | h <;> rcases List.mem_cons.mp h' with e' | h'
    · rw [← e] at e'; cases e'; rfl
    · exact absurd (show p.1 ∈ r.map (·.1) by rw [← e]; exact List.mem_map.mpr ⟨(a, o'), h', rfl⟩) D.1
    · exact absurd (show p.1 ∈ r.map (·.1) by rw [← e']; exact List.mem_map.mpr ⟨(a, o), h, rfl⟩) D.1
    · exact key_uniq D.2 h h'
theorem TabSt.keep {P P₂ : Addr} {ln cl : Int} {q : Str} {pre post : Gl} {o o' : Obj} {e : Addr × Obj} (h : TabSt P₂ ln cl q (pre ++ (P, tabObj #[]) :: post)) (hne : P₂ ≠ P) (D : ((pre ++ (P, tabObj #[]) :: post).map (·.1)).Nodup) : TabSt P₂ ln cl q (e :: (pre ++ (P, o') :: post)) := by
  have old : ∀ {b : Addr} {x : Obj}, (b, x) ∈ pre ++ (P, tabObj #[]) :: post → b ≠ P → (b, x) ∈ e :: (pre ++ (P, o') :: post) := fun {b x} hm hb => by
    rcases List.mem_append.mp hm with h | h
    · exact .tail _ (List.mem_append_left _ h)
    · rcases List.mem_cons.mp h with h | h
      · cases h; exact absurd rfl hb
      · exact .tail _ (List.mem_append_right _ (.tail _ h))
  rcases h with h | ⟨c', oc, vs, t, h1, h2, h3, h4⟩
  · exact .inl (old h hne)
  · refine .inr ⟨c', oc, vs, t, old h1 hne, old h2 fun e => ?_, h3, h4⟩
    subst e
    have := key_uniq D h2 (List.mem_append_right _ (.head _))
    subst this
    cases h3
    simp at h4
section
variable {Γ : Fm} {loc : Loc} {K : AF → Loc → Gl → Prop}
theorem EX_def {T g₁ : Gl} {name qual : Str} {params : Arguments} {body : List Stmt} {scope : Scope} {pos : Pos} {c P : Addr} {clos : List (Str × Addr)} (hT : TabSt P pos.line pos.col qual T) (hP : (c, P) ∈ makerTabs) (hc : Γ.ccd = .ref c)
    (hcl : closureFor scope Γ.env = pure clos) (hq : qualnameIn Γ.env name name = qual) (hd0 : params.defaults = []) (hk0 : params.kw_defaults = []) (ha : annTrees params none Γ.env = [])
    (h : ∀ f c' oc vs t ctv doc pm T', (∀ P₂ ln cl q, P₂ ≠ P → TabSt P₂ ln cl q T → TabSt P₂ ln cl q T') → TabSt P pos.line pos.col qual T' → (c', oc) ∈ T' → oc.data = .fields vs → vs[1]? = some (.str qual t) →
      ∃ loc', SetL name (.ref f) loc loc' ∧ K .next loc' ((f, fnMade name qual params body scope clos doc pm c' ctv) :: (T' ++ g₁))) :
    EX Γ (.FunctionDef name params body [] none [] scope none name pos) loc (T ++ g₁) K := by
  intro ok m s X Post RL S hp
  obtain ⟨p, loose, mean, mg, mb, Tp⟩ := ok.top
  refine nestDef_K hd0 hk0 ha ?_
  rw [hq]
  have D := S.nodup
  have DT : (T.map (·.1)).Nodup := by
    rw [List.map_append, List.map_append] at D
    exact (List.nodup_append.mp (List.nodup_append.mp D).2.1).1
  have C := ok.codes _ hP
  dsimp only at C
  rcases id hT with hm | ⟨c', oc, vs, t, hm, hm2, h3, h4⟩
  · obtain ⟨pre, post, rfl⟩ := List.append_of_mem hm
    have e0 : X ++ ((pre ++ (P, tabObj #[]) :: post) ++ g₁) = (X ++ pre) ++ (P, tabObj #[]) :: (post ++ g₁) := by simp
    have e1 : X ++ ((pre ++ (P, tabObj #[]) :: post) ++ g₁) = X ++ (pre ++ (P, tabObj #[]) :: (post ++ g₁)) := by simp
    obtain ⟨d1, d2⟩ := nodup_apart (e1 ▸ D)
    have U := updF_mid (d := P) (o := tabObj #[]) (post := post ++ g₁) d2 (pre := X ++ pre) d1
    have W := S.news
    rw [e0] at W
    refine nest_K S.fr W Tp C hc U trivial rfl hcl fun f c' oc vs t ctv doc h' tk F' N' h3 h4 hlt hlt2 => ?_
    have hne : ∀ q ∈ X ++ ((pre ++ (P, tabObj #[]) :: post) ++ g₁), q.1 < c' := fun q hq => hlt q (by rw [← e0]; exact hq)
    obtain ⟨loc', hs, q⟩ := h f c' oc vs t ctv doc _ ((c', oc) :: (pre ++ (P, tabObj #[rawInt pos.line, rawInt pos.col, .ref c']) :: post)) (fun P₂ ln cl q hne hst => hst.keep (o := tabObj #[]) hne DT)
      (.inr ⟨c', oc, vs, t, .tail _ (List.mem_append_right _ (.head _)), .head _, h3, h4⟩) (.head _) h3 h4
    refine store_go ok RL ⟨F', fun q hq => N' q ?_, ?_⟩ hs (.ref f) fun m' h'' tk'' RL' S' => hp .next _ loc' m' _ h'' tk'' q .next RL' S'
    · have e2 : (#[] ++ #[rawInt pos.line, rawInt pos.col, Value.ref c'] : Array Value) = #[rawInt pos.line, rawInt pos.col, Value.ref c'] := by simp
      rw [e2]
      simp only [List.mem_append, List.mem_cons, List.cons_append] at hq ⊢
      rcases hq with h | h | h | (h | h | h) | h
      · exact .inr (.inr (.inl (.inl h)))
      · exact .inl h
      · exact .inr (.inl h)
      · exact .inr (.inr (.inl (.inr h)))
      · exact .inr (.inr (.inr (.inl h)))
      · exact .inr (.inr (.inr (.inr (.inl h))))
      · exact .inr (.inr (.inr (.inr (.inr h))))
    · have D3 : ((X ++ (c', oc) :: ((pre ++ (P, tabObj #[rawInt pos.line, rawInt pos.col, Value.ref c']) :: post) ++ g₁)).map (·.1)).Nodup := by
        refine nodup_mid ?_ fun q hq => ?_
        · have : (X ++ ((pre ++ (P, tabObj #[rawInt pos.line, rawInt pos.col, Value.ref c']) :: post) ++ g₁)).map (·.1) = (X ++ ((pre ++ (P, tabObj #[]) :: post) ++ g₁)).map (·.1) := by simp
          rw [this]; exact D
        · have : q.1 ∈ (X ++ ((pre ++ (P, tabObj #[]) :: post) ++ g₁)).map (·.1) := by
            have h := List.mem_map_of_mem (f := (·.1)) hq
            simpa using h
          obtain ⟨r, hr, e⟩ := List.mem_map.mp this
          rw [← e]
          exact Nat.ne_of_lt (hne r hr)
      refine nodup_mid D3 fun q hq => ?_
      have : q.1 = c' ∨ q.1 ∈ (X ++ ((pre ++ (P, tabObj #[]) :: post) ++ g₁)).map (·.1) := by
        have h := List.mem_map_of_mem (f := (·.1)) hq
        simp only [List.map_append, List.map_cons, List.cons_append, List.mem_append, List.mem_cons] at h ⊢
        rcases h with h | h | (h | h | h) | h
        · exact .inr (.inl h)
        · exact .inl h
        · exact .inr (.inr (.inl (.inl h)))
        · exact .inr (.inr (.inl (.inr (.inl h))))
        · exact .inr (.inr (.inl (.inr (.inr h))))
        · exact .inr (.inr (.inr h))
      rcases this with e | this
      · rw [e]; exact Nat.ne_of_lt hlt2
      · obtain ⟨r, hr, e⟩ := List.mem_map.mp this
        rw [← e]
        exact Nat.ne_of_lt (Nat.lt_trans (hne r hr) hlt2)
  · refine nestHit_K S.fr S.news Tp C hc (List.mem_append_right _ (List.mem_append_left _ hm)) (by trivial) (c' := c') (by simp [codeAmong, rawInt]) hcl fun f ctv doc h' tk F' N' hlt => ?_
    obtain ⟨loc', hs, q⟩ := h f c' oc vs t ctv doc _ T (fun P₂ ln cl q hne hst => hst) hT hm2 h3 h4
    refine store_go ok RL (St.push S F' N' fun p hp => Nat.ne_of_lt (hlt p hp)) hs (.ref f) fun m' h'' tk'' RL' S' => hp .next _ loc' m' _ h'' tk'' q .next RL' S'
end
-- part Vc15
section
variable {Γ : Fm} {loc : Loc} {g : Gl} {Q : MV → Loc → Gl → Prop} {K : AF → Loc → Gl → Prop}
theorem EV_appendM {x : Str} {e : Expr} {p pos apos : Pos} {pl : Sem Bool} {l : Addr} {o₀ : Obj} {xs₀ : List MV} (hx : (x, MV.ref l) ∈ loc) (hm : (l, o₀) ∈ g) (hi : Is (.list xs₀) o₀)
    (h : EV Γ e loc g fun v loc g => ∃ o xs, Is (.list xs) o ∧ xs.length ≤ 1000 ∧ ∀ o', Is (.list (xs ++ [v])) o' → ∃ g', UpdG l o o' g g' ∧ Q .none loc g')
    (hd : (x == ("__debug__" : Str)) = false := by decide)
    (hs : starEach [e] Γ.env = (false, eval e Γ.env) :: starEach [] Γ.env := by exact rfl)
    (he : eval (.Call (.Attribute (.Name x p) (Str.ofString "append") apos) [e] [] pos) Γ.env = (do
      let ov ← eval (.Name x p) Γ.env
      standAt apos.atName
      let (f, first) ← holding [ov] (getMethod ov (Str.ofString "append") pl)
      callWith pos f first (backTo pos (starEach [e] Γ.env)) []) := by exact rfl) : EV Γ (.Call (.Attribute (.Name x p) (Str.ofString "append") apos) [e] [] pos) loc g Q :=
  EV_append (EV_name hx (by intro h; cases h) ⟨l, o₀, _, rfl, hm, hi, h⟩ hd) hs he
theorem CALL.perm {f : MV} {as : List MV} {g' : Gl} (hs : List.Perm g' g) (h : CALL Γ f as loc g' Q) : CALL Γ f as loc g Q := fun f' as' r1 r2 => TR.perm hs (h f' as' r1 r2)
theorem CALL.drop {f : MV} {as : List MV} {g' : Gl} (hs : g'.Sublist g) (h : CALL Γ f as loc g' Q) : CALL Γ f as loc g Q := fun f' as' r1 r2 => TR.drop hs (h f' as' r1 r2)
theorem bits_top : ∀ e : Fin 64, 0 < e.val → e.val / 2 ^ (Builtin.Int.intBits (e.val : Int)) = 0 ∧ 0 < Builtin.Int.intBits (e.val : Int) ∧ Builtin.Int.intBits (e.val : Int) ≤ 6 ∧ e.val / 2 ^ (Builtin.Int.intBits (e.val : Int) - 1) % 2 = 1 := by decide +kernel
theorem bits_le : ∀ e : Fin 64, e.val / 2 ^ (Builtin.Int.intBits (e.val : Int)) = 0 ∧ Builtin.Int.intBits (e.val : Int) ≤ 6 := by decide +kernel
theorem win_step (E i : Nat) : E % 2 ^ (i + 1) = 2 * (E / 2 % 2 ^ i) + E % 2 := by
  have h1 := Nat.mod_mod_of_dvd E (show 2 ∣ 2 ^ (i + 1) from ⟨2 ^ i, by rw [Nat.pow_succ, Nat.mul_comm]⟩)
  have h2 : E % 2 ^ (i + 1) / 2 = E / 2 % 2 ^ i := by rw [Nat.pow_succ, Nat.mul_comm, Nat.mod_mul_right_div_self]
  omega
theorem win_join (x n M : Nat) : x / 2 ^ n = x / 2 ^ (n + M) * 2 ^ M + x / 2 ^ n % 2 ^ M := by
  have := Nat.mod_add_div (x / 2 ^ n) (2 ^ M)
  rw [Nat.div_div_eq_div_mul, ← Nat.pow_add] at this
  rw [Nat.mul_comm (x / _)]
  omega
end
-- part Vc16
theorem perm3 (e F T g : Gl) : List.Perm (e ++ (F ++ (T ++ g))) (F ++ (T ++ (e ++ g))) :=
  (List.perm_append_comm_assoc e F _).trans (List.Perm.append_left F (List.perm_append_comm_assoc e T g))
theorem pow_step (a m i j : Nat) : a ^ i % m * (a ^ j % m) % m = a ^ (i + j) % m := by rw [← Nat.mul_mod, ← Nat.pow_add]
theorem mod_small {x m : Nat} (hm : 0 < m) (hm64 : m < 64) : x % m < 64 := Nat.lt_trans (Nat.mod_lt _ hm) hm64
theorem mul_small {x y : Nat} (hx : x < 256) (hy : y < 256) : x * y < 2 ^ 32 :=
  Nat.lt_of_lt_of_le (Nat.mul_lt_mul_of_lt_of_le hx (Nat.le_of_lt hy) (by decide)) (by decide)
theorem mont_step {b m x y : Nat} (ho : m % 2 = 1) : x * 2 ^ b % m * (y * 2 ^ b % m) * Ri b m % m = x * y * 2 ^ b % m := by
  rw [Nat.mul_mod, ← Nat.mul_mod (x * 2 ^ b), ← Nat.mul_mod, show x * 2 ^ b * (y * 2 ^ b) * Ri b m = x * y * 2 ^ b * (Ri b m * 2 ^ b) by ac_rfl, Nat.mul_mod, Ri_ok ho, ← Nat.mul_mod, Nat.mul_one]
theorem mont_out {b m x : Nat} (ho : m % 2 = 1) : x * 2 ^ b % m * Ri b m % m = x % m := by
  rw [Nat.mul_mod, Nat.mod_mod, ← Nat.mul_mod, Nat.mul_assoc, Nat.mul_comm (2 ^ b), Nat.mul_mod, Ri_ok ho, ← Nat.mul_mod, Nat.mul_one]
theorem dvd_of_inv {N d v k : Nat} (h : d * v % N = 1) (hk : N ∣ d * k) : N ∣ k := by
  have h1 : N ∣ d * v * k := by rw [Nat.mul_right_comm]; exact Nat.dvd_trans hk (Nat.dvd_mul_right _ _)
  have h2 := Nat.mod_add_div (d * v) N
  rw [h] at h2
  rw [← h2, Nat.add_mul, Nat.one_mul, Nat.mul_assoc] at h1
  exact (Nat.dvd_add_left (Nat.dvd_mul_right _ _)).mp h1
theorem crt {N d v R x : Nat} (hd : 0 < d) (hN : 0 < N) (h : d * v % N = 1) (h1 : R % d = x % d) (h2 : R % N = x % N) (hR : R < d * N) : R = x % (d * N) := by
  have hy : x % (d * N) < d * N := Nat.mod_lt _ (Nat.mul_pos hd hN)
  have h1' : R % d = x % (d * N) % d := by rw [Nat.mod_mul_right_mod, h1]
  have h2' : R % N = x % (d * N) % N := by rw [Nat.mod_mul_left_mod, h2]
  generalize x % (d * N) = y at *
  have key : ∀ {p q : Nat}, p ≤ q → q < d * N → p % d = q % d → p % N = q % N → p = q := by
    intro p q hpq hq e1 e2
    have a1 : d ∣ q - p := Nat.dvd_of_mod_eq_zero (Nat.sub_mod_eq_zero_of_mod_eq e1.symm)
    have a2 : N ∣ q - p := Nat.dvd_of_mod_eq_zero (Nat.sub_mod_eq_zero_of_mod_eq e2.symm)
    obtain ⟨k, hk⟩ := a1
    have hNk : N ∣ k := dvd_of_inv h (hk ▸ a2)
    obtain ⟨j, rfl⟩ := hNk
    rcases Nat.eq_zero_or_pos j with rfl | hj
    · simp at hk; omega
    · have : d * N * 1 ≤ d * N * j := Nat.mul_le_mul_left _ hj
      rw [← Nat.mul_assoc] at hk
      omega
  rcases Nat.le_total R y with hle | hle
  · exact key hle hy h1' h2'
  · exact (key hle hR h1'.symm h2'.symm).symm
-- part Vc17
theorem any_val {X d N v D : Nat} (hd : 0 < d) (hN : 1 < N) (h : d * v % N = 1) (hD : (D + X % d % N) % N = X % N) : X % d + d * (D * v % N) = X % (d * N) := by
  refine crt hd (by omega) h ?_ ?_ ?_
  · rw [Nat.add_mul_mod_self_left, Nat.mod_mod]
  · rw [← hD, Nat.add_mod, Nat.mul_mod d, Nat.mod_mod, ← Nat.mul_mod d, Nat.mul_left_comm, Nat.mul_mod D, h, Nat.mul_one, Nat.mod_mod, ← Nat.add_mod, Nat.add_comm D, ← Nat.add_mod_mod (X % d), Nat.add_comm (X % d % N)]
    rw [Nat.add_mod (X % d), Nat.mod_mod, Nat.add_comm, ← Nat.add_mod]
    simp [Nat.add_mod, Nat.add_comm]
  · have h1 : X % d < d := Nat.mod_lt _ hd
    have h2 : D * v % N + 1 ≤ N := Nat.mod_lt _ (by omega)
    have h3 : d * (D * v % N + 1) ≤ d * N := Nat.mul_le_mul_left _ h2
    rw [Nat.mul_add, Nat.mul_one] at h3
    omega
theorem inv_low {d v n b : Nat} (hn : 1 ≤ n) (hnb : n < b) (h : d * v % 2 ^ b = 1) : d * v % 2 ^ n = 1 := by
  have h1 := Nat.mod_mod_of_dvd (d * v) (Nat.pow_dvd_pow 2 (Nat.le_of_lt hnb))
  rw [h] at h1
  rw [← h1]
  exact Nat.mod_eq_of_lt (Nat.one_lt_two_pow (by omega))
theorem half (e n : Nat) : e / 2 ^ n = 2 * (e / 2 ^ (n + 1)) + e / 2 ^ n % 2 := by
  rw [Nat.pow_succ, ← Nat.div_div_eq_div_mul]; omega
theorem two_step (a b m p q : Nat) : (a ^ p * b ^ q % m) * (a ^ p * b ^ q % m) % m = a ^ (2 * p) * b ^ (2 * q) % m := by
  rw [← Nat.mul_mod, Nat.two_mul, Nat.two_mul, Nat.pow_add, Nat.pow_add]
  congr 1
  ac_rfl
-- part Vc18
theorem SoundC.toF {prog : Program} {w : World} {K : Frag} {k : Nat} {f : Addr} {sp : Spc} (h : SoundC prog w K k f sp) : SoundF prog w K k f sp :=
  fun A cn cs L a ccd cl h₀ k' hk' vs loc g Q hsp f' as' rf ras ok m s X P RL S hp => by
    cases rf
    exact wpAny_call (h A cn cs L a ccd cl h₀ k' hk' vs as' g _ (fun r s' => match r with | .ok (.ret v) => P v s' | .ok _ => False | .error e => False) m s X hsp ras ok S fun v v' g' h' tk' q r S' => hp _ _ loc m g' h' tk' q r RL S')
def TRK (Γ : Fm) {α β : Type} (rep : β → α → Prop) (t : Sem α) (g : Gl) (Q : β → Gl → Prop) : Prop :=
  Γ.Ok → ∀ m s X (Post : α → Shared → Prop), St Γ m s.heap X g → (∀ b a g' h' tk', Q b g' → rep b a → St Γ m h' X g' → Post a { s with heap := h', toks := tk' }) →
    wpAny (model Γ.prog Γ.w) Γ.A t Post (fun _ _ => False) s
section
variable {Γ : Fm} {g : Gl} {Q : MV → Gl → Prop} {env : Env}
theorem TRK.go {α β : Type} {rep : β → α → Prop} {t : Sem α} {Q : β → Gl → Prop} (h : TRK Γ rep t g Q) (ok : Γ.Ok) {m : Str → Option Value} {s : Shared} {X : List (Addr × Obj)} {Post : α → Shared → Prop} (S : St Γ m s.heap X g)
    (k : ∀ b a g' h' tk', Q b g' → rep b a → St Γ m h' X g' → Post a { s with heap := h', toks := tk' }) : wpAny (model Γ.prog Γ.w) Γ.A t Post (fun _ _ => False) s := h ok m s X Post S k
abbrev EVK (Γ : Fm) (env : Env) (e : Expr) (g : Gl) (Q : MV → Gl → Prop) : Prop := TRK Γ Rep (eval e env) g Q
abbrev EVSK (Γ : Fm) (env : Env) (pos : Pos) (es : List Expr) (g : Gl) (Q : List MV → Gl → Prop) : Prop := TRK Γ Reps (spliced (backTo pos (starEach es env))) g Q
def CALLK (Γ : Fm) (f : MV) (as : List MV) (g : Gl) (Q : MV → Gl → Prop) : Prop := ∀ f' as', Rep f f' → Reps as as' → TRK Γ Rep (call f' as') g Q
theorem CALLK.of {k : Nat} {f : Addr} {sp : Spc} {vs : List MV} (hc : SoundC Γ.prog Γ.w Γ.K k f sp) (hk : k ≤ Γ.k) (h : sp vs g Q) : CALLK Γ (.ref f) vs g Q :=
  fun f' as' rf ras ok m s X P S hp => by
    cases rf
    exact wpAny_call (hc Γ.A Γ.cn Γ.cs Γ.L Γ.a Γ.ccd Γ.cl Γ.h₀ Γ.k hk vs as' g _ (fun r s' => match r with | .ok (.ret v) => P v s' | .ok _ => False | .error e => False) m s X h ras ok S fun v v' g' h' tk' q r S' => hp _ _ g' h' tk' q r S')
def CN (x : Str) (v : MV) (o : Obj) : Prop := ∃ m v', LCg.NsObj o m ∧ m x = some v' ∧ Rep v v'
theorem EVK_x {x : Str} {pos : Pos} {v : MV} {C : Addr} {o : Obj} (hC : env.locals = C) (hm : (C, o) ∈ g) (hv : CN x v o) (h : Q v g) (hk : env.scope.kind = .function) (hx : env.kindOf x = some .local) (hd : (x == ("__debug__" : Str)) = false := by decide) : EVK Γ env (.Name x pos) g Q :=
  fun ok m s _ _ S hp => by
    obtain ⟨m₂, v', hn, e, r⟩ := hv
    subst hC
    exact wpAny_Name (wpAny_loadName_local hk hx (hn.ns (S.obj hm).1) e (hp _ _ g s.heap s.toks h r S)) hd
theorem EVK_cell {x : Str} {pos : Pos} {v : MV} {c : Addr} {o : Obj} (hc : env.cells.lookup x = some c) (hm : (c, o) ∈ g) (hi : Is (.cell v) o) (h : Q v g) (hkf : env.scope.kind = .function) (hk : env.kindOf x = some .cell ∨ env.kindOf x = some .free)
    (hd : (x == ("__debug__" : Str)) = false := by decide) (hn : (x == ("__classdict__" : Str)) = false := by decide) : EVK Γ env (.Name x pos) g Q :=
  fun ok m s _ _ S hp => by
    have e := (S.obj hm).1
    cases hi with
    | cell rv hd' =>
      rcases hk with hk | hk
      · exact wpAny_Name (wpAny_loadName_cell (env := env) hkf hk hc ⟨o, e, hd'⟩ (hp _ _ g s.heap s.toks h rv S)) hd
      · exact wpAny_Name (wpAny_loadName_free (env := env) hkf hk hc ⟨o, e, hd'⟩ (hp _ _ g s.heap s.toks h rv S) hn) hd
theorem EVK_glob {scope : Scope} {cl : List (Str × Addr)} {C : Addr} {x : Str} {pos : Pos} {f : Addr} (e : nsIn Γ.K mainGlobals x = some (some (.ref f))) (hkf : (compEnvC scope cl C Γ.env).scope.kind = .function) (hk : (compEnvC scope cl C Γ.env).kindOf x = some .globalImplicit) (h : Q (.ref f) g)
    (hd : (x == ("__debug__" : Str)) = false := by decide) : EVK Γ (compEnvC scope cl C Γ.env) (.Name x pos) g Q :=
  fun ok m s _ _ S hp => by
    obtain ⟨p, loose, mean, mg, mb, T⟩ := ok.top
    exact Name_function_global hkf hk (loadGlobal_global (env := compEnvC scope cl C Γ.env) ((topRead_of T).g.keeps S.fr.keep) (mg_of ok.K (topRead_of T).g e) (hp _ _ g s.heap s.toks h (.ref f) S)) hd
theorem EVK_boot {scope : Scope} {cl : List (Str × Addr)} {C : Addr} {x : Str} {pos : Pos} {v : MV} {v' : Value} (e : nsIn Γ.K mainGlobals x = some none) (hv : bootBuiltins x = some v') (r : Rep v v') (hkf : (compEnvC scope cl C Γ.env).scope.kind = .function) (hk : (compEnvC scope cl C Γ.env).kindOf x = some .globalImplicit) (h : Q v g)
    (hn : x ≠ "__name__" := by decide) (hd : (x == ("__debug__" : Str)) = false := by decide) : EVK Γ (compEnvC scope cl C Γ.env) (.Name x pos) g Q :=
  fun ok m s _ _ S hp => by
    obtain ⟨p, loose, mean, mg, mb, T⟩ := ok.top
    have T := topRead_of T
    exact Name_function_global hkf hk (loadGlobal_builtin (env := compEnvC scope cl C Γ.env) (T.g.keeps S.fr.keep) (mg_none_of ok.K T.g e) (T.b.keeps S.fr.keep) ((T.builtins x hn).trans hv) (hp _ _ g s.heap s.toks h r S)) hd
theorem EVSK_nil {pos : Pos} {Q : List MV → Gl → Prop} (h : Q [] g) : EVSK Γ env pos [] g Q :=
  fun _ m s _ _ S hp => spliced_nil (hp _ _ _ _ s.toks h .nil S)
theorem EVSK_cons {pos : Pos} {e : Expr} {es : List Expr} {Q : List MV → Gl → Prop} (h : EVK Γ env e g fun v g => EVSK Γ env pos es g fun vs g => Q (v :: vs) g)
    (he : starEach (e :: es) env = (false, eval e env) :: starEach es env := by exact rfl) : EVSK Γ env pos (e :: es) g Q :=
  fun ok m s X _ S hp => by
    show wpAny _ _ (spliced (backTo pos (starEach (e :: es) env))) _ _ _
    rw [he]
    exact spliced_cons (h.go ok S fun v v' _ _ _ h1 r1 S => h1.go ok S fun vs vs' g' h' tk' q r S => hp _ _ g' h' tk' q (.cons r1 r) S)
theorem EVK_call {f e : Expr} {es : List Expr} {pos : Pos} (h : EVK Γ env f g fun fv g => EVSK Γ env pos (e :: es) g fun vs g => Keep Γ g fv ∧ CALLK Γ fv vs g Q)
    (he : eval (.Call f (e :: es) [] pos) env = (do callWith pos (← eval f env) [] (backTo pos (starEach (e :: es) env)) (backToKw pos (keywordEach [] env))) := by exact rfl)
    (hs : starEach (e :: es) env = (false, eval e env) :: starEach es env := by exact rfl) (hplain : (backTo pos (starEach es env)).any (·.1) = false := by exact rfl) : EVK Γ env (.Call f (e :: es) [] pos) g Q :=
  fun ok m s X _ S hp => Call_ (h.go ok S fun fv fv' _ _ _ h1 r1 S => by
    refine callWith_of (P := fun h' => ∃ k, (k = Keeper.frame ∨ k = Keeper.machine ∨ k = Keeper.boundFrame) ∧ Looks (model Γ.prog Γ.w) h' (keeperOf fv') k)
      (by rw [hs]; show ((false || (backTo pos (starEach es env)).any (·.1)) || false) = false; rw [hplain]; rfl) (fun h' p => p) ?_
    have h1' : TRK Γ Reps (spliced (backTo pos (starEach (e :: es) env))) _ _ := h1
    rw [hs] at h1' ⊢
    refine evalArgs_plain (TRK.go h1' ok S fun vs vs' g' h' tk' q r S => ?_)
    refine ⟨?_, (q.2 fv' vs' r1 r).go ok S fun b a g' h' tk' q r S => hp b a g' h' tk' q r S⟩
    cases q.1 with
    | bi n => cases r1; exact ⟨.machine, .inr (.inl rfl), Looks.of_pure rfl⟩
    | ty n => cases r1; exact ⟨.machine, .inr (.inl rfl), Looks.of_pure rfl⟩
    | glob hk => cases r1; exact keeps_K hk h' (ok.K.keeps S.fr.keep)
    | made hm hd =>
      cases r1
      have e := (S.obj hm).1
      exact ⟨.frame, .inl rfl, (Looks.ld (part := none) e).andThen (by rw [hd]; exact .now)⟩) he
end
-- part Vc19
section
variable {Γ : Fm} {g : Gl} {env : Env}
theorem EVK_subT {Q : MV → Gl → Prop} {v : Expr} {i : Int} {k : Nat} {p2 pos : Pos} (h : EVK Γ env v g fun o g => ∃ l ob xs x, o = .ref l ∧ (l, ob) ∈ g ∧ Is (.tup xs) ob ∧ (0 ≤ i ∧ i < 2 ^ 63) ∧ xs[i.toNat]? = some x ∧ Q x g)
    (hs : ∀ o i', subscripted (.Constant (.int i) k p2) false o i' = operate [o, i'] (getItem o i') := by intro _ _; exact rfl) : EVK Γ env (.Subscript v (.Constant (.int i) k p2) pos) g Q :=
  fun ok m s X _ S hp => Subscript_ (h.go ok S fun a a' _ _ _ q r1 S => wpAny_Constant_int (by
    obtain ⟨l, ob, xs, x, rfl, hm, hi, ⟨h0, hz⟩, hx, q⟩ := q
    cases r1
    obtain ⟨vs, r, hl⟩ := S.isTup hm hi
    obtain ⟨y, e, ry⟩ := r.get hx
    have hlt : i.toNat < vs.length := (List.getElem?_eq_some_iff.mp e).1
    exact item_tupleT hl (by omega) hz (seqIndex_pos h0 (by omega)) e (hp _ _ _ _ _ q ry S) (hs _ _)))
def COMP (Γ : Fm) (elt : Expr) (x : Str) (scope : Scope) (cl : List (Str × Addr)) (src : Addr × Obj) (Q : MV → Gl → Prop) : List MV → List MV → Gl → Prop
  | [], ys, g => ∀ D oD, Is (.list ys) oD → Q (.ref D) ((D, oD) :: g)
  | v :: r, ys, g => ∀ I C D oI oC oD, CN x v oC → EVK Γ (compEnvC scope cl C Γ.env) elt ((I, oI) :: (C, oC) :: (D, oD) :: g) fun y g'' => ∃ N g', List.Sublist (N ++ (I, oI) :: (C, oC) :: (D, oD) :: g') g'' ∧ src ∈ N ++ g' ∧ COMP Γ elt x scope cl src Q r (ys ++ [y]) (N ++ g')
end
section
variable {Γ : Fm} {g : Gl}
theorem off_of {I C D : Addr} {oI oC oD : Obj} {X N g' : Gl} (D0 : ((X ++ (N ++ (I, oI) :: (C, oC) :: (D, oD) :: g')).map (·.1)).Nodup) : LCg.Off3 I C D (X ++ (N ++ g')) := by
  have P1 : List.Perm (X ++ (N ++ (I, oI) :: (C, oC) :: (D, oD) :: g')) ((I, oI) :: (C, oC) :: (D, oD) :: (X ++ (N ++ g'))) := by
    rw [← List.append_assoc, ← List.append_assoc]
    refine List.perm_middle.trans (List.Perm.cons _ ?_)
    refine List.perm_middle.trans (List.Perm.cons _ ?_)
    exact List.perm_middle
  have D1 := ((P1.map (·.1)).nodup_iff).mp D0
  simp only [List.map_cons, List.nodup_cons, List.mem_cons, not_or] at D1
  obtain ⟨⟨_, _, h1⟩, ⟨_, h2⟩, h3, _⟩ := D1
  exact LCg.Off3.of fun p hp => ⟨fun e => h1 (e ▸ List.mem_map_of_mem (f := (·.1)) hp), fun e => h2 (e ▸ List.mem_map_of_mem (f := (·.1)) hp), fun e => h3 (e ▸ List.mem_map_of_mem (f := (·.1)) hp)⟩
theorem comp_rest {elt : Expr} {x : Str} {scope : Scope} {cl : List (Str × Addr)} {src : Addr × Obj} {Q : MV → Gl → Prop} {m : Str → Option Value} {X : List (Addr × Obj)} {s₂ : Shared} {vs : List Value} {Fin : List Value → List (Addr × Obj) → Prop} (ok : Γ.Ok)
    (fin : ∀ ys ys' g, Reps ys ys' → ((X ++ g).map (·.1)).Nodup → COMP Γ elt x scope cl src Q [] ys g → Fin ys' (X ++ g)) :
    ∀ (r : List MV) (i : Nat) (ys : List MV) (ys' : List Value) (g : Gl), (∃ us, vs.drop i = us ∧ Reps r us) → Reps ys ys' → COMP Γ elt x scope cl src Q r ys g → ((X ++ g).map (·.1)).Nodup →
      LCg.CompRest Γ.prog Γ.w Γ.A Γ.h₀ Γ.L m Γ.env elt x scope cl s₂ (fun nw => src ∈ nw) (fun i v => vs.toArray[i]? = some v) Fin r.length i ys' (X ++ g) := by
  intro r
  induction r with
  | nil => intro i ys ys' g _ ry C D; exact LCg.CompRest.zero (fin ys ys' g ry D C)
  | cons v r ih =>
    intro i ys ys' g ⟨us, hu, ru⟩ ry C D
    obtain ⟨u, us', rfl, ru1, ru2⟩ := ru.one
    have hget : vs[i]? = some u := by rw [← List.head?_drop, hu]; rfl
    refine LCg.CompRest.succ fun v' I oI C' oC D' m₂ h tk E' hP hNs hv F N off hne => ?_
    have ev : v' = u := by
      have : vs.toArray[i]? = some v' := hP
      rw [List.getElem?_toArray, hget] at this
      exact (Option.some.inj this).symm
    subst ev
    have off3 := off.mem
    have S1 : St Γ m h X ((I, oI) :: (C', oC) :: (D', LCg.lst ys') :: g) := by
      refine ⟨F, fun p hp => N p ?_, ?_⟩
      · rcases List.mem_append.mp hp with q | q
        · exact .tail _ (.tail _ (.tail _ (List.mem_append_left _ q)))
        · rcases List.mem_cons.mp q with rfl | q
          · exact .head _
          · rcases List.mem_cons.mp q with rfl | q
            · exact .tail _ (.head _)
            · rcases List.mem_cons.mp q with rfl | q
              · exact .tail _ (.tail _ (.head _))
              · exact .tail _ (.tail _ (.tail _ (List.mem_append_right _ q)))
      · refine nodup_mid (nodup_mid (nodup_mid D fun p hp => (off3 p hp).2.2) fun p hp => ?_) fun p hp => ?_
        · rcases List.mem_append.mp hp with q | q
          · exact (off3 p (List.mem_append_left _ q)).2.1
          · rcases List.mem_cons.mp q with rfl | q
            · exact Ne.symm hne.2.2
            · exact (off3 p (List.mem_append_right _ q)).2.1
        · rcases List.mem_append.mp hp with q | q
          · exact (off3 p (List.mem_append_left _ q)).1
          · rcases List.mem_cons.mp q with rfl | q
            · exact Ne.symm hne.1
            · rcases List.mem_cons.mp q with rfl | q
              · exact Ne.symm hne.2.1
              · exact (off3 p (List.mem_append_right _ q)).1
    refine wpAny_mono ((C I C' D' oI oC (LCg.lst ys') ⟨m₂, v', hNs, hv, ru1⟩).go ok (s := { s₂ with heap := h, toks := tk }) S1 (Post := LCg.CompEnd Γ.h₀ Γ.L m { s₂ with heap := h, toks := tk } I oI C' oC D' (LCg.lst ys') (fun nw => src ∈ nw) fun y news' =>
      LCg.CompRest Γ.prog Γ.w Γ.A Γ.h₀ Γ.L m Γ.env elt x scope cl s₂ (fun nw => src ∈ nw) (fun i v => vs.toArray[i]? = some v) Fin r.length (i + 1) (ys' ++ [y]) news') fun y y' g'' h' tk' q ry' S' => ?_) (fun _ _ z => z) fun _ _ e => e.elim
    obtain ⟨N', g', hs, hsrc, C2⟩ := q
    have hs' : (X ++ (N' ++ (I, oI) :: (C', oC) :: (D', LCg.lst ys') :: g')).Sublist (X ++ g'') := (List.Sublist.refl X).append hs
    have D2 := (hs'.map (·.1)).nodup S'.nodup
    have D3 : ((X ++ (N' ++ g')).map (·.1)).Nodup := by
      refine List.Nodup.sublist ?_ D2
      refine List.Sublist.map _ ((List.Sublist.refl X).append ((List.Sublist.refl N').append ?_))
      exact .cons _ (.cons _ (.cons _ (List.Sublist.refl _)))
    refine LCg.CompEnd.intro S'.fr S'.news (X ++ (N' ++ g')) (fun p hp => hs'.subset ?_) (off_of D2) (List.mem_append_right _ hsrc) ?_
    · simp only [List.mem_cons, List.mem_append] at hp ⊢
      rcases hp with h | h | h | h | h | h
      · exact .inr (.inr (.inl h))
      · exact .inr (.inr (.inr (.inl h)))
      · exact .inr (.inr (.inr (.inr (.inl h))))
      · exact .inl h
      · exact .inr (.inl h)
      · exact .inr (.inr (.inr (.inr (.inr h))))
    · refine ih (i + 1) (ys ++ [y]) (ys' ++ [y']) (N' ++ g') ⟨us', ?_, ru2⟩ (ry.append (.cons ry' .nil)) C2 D3
      rw [List.drop_add_one_eq_tail_drop, hu]; rfl
theorem off1_mem {D : Addr} : ∀ {l : List (Addr × Obj)}, LCg.Off1 D l → ∀ p ∈ l, p.1 ≠ D
  | [], _, _, h => nomatch h
  | a :: l, x, p, h => by
    rcases List.mem_cons.mp h with rfl | h
    · exact x.1
    · exact off1_mem x.2 p h
theorem EV_comp {elt iter : Expr} {x : Str} {px : Pos} {scope : Scope} {cl : List (Str × Addr)} {pos : Pos} {loc : Loc} {Q : MV → Loc → Gl → Prop} (hclos : closureFor scope Γ.env = pure cl) (hcell : ∀ y ∈ scope.names, y.2 ≠ .cell) (hkind : scope.kind = .function)
    (hnames : ∀ y ∈ scope.names, y.2 = .local → scope.names.lookup y.1 = some .local) (hx : scope.names.lookup x = some .local)
    (h : EV Γ iter loc g fun v loc g => ∃ ax o xs, v = .ref ax ∧ (ax, o) ∈ g ∧ (Is (.list xs) o ∨ Is (.tup xs) o) ∧ xs.length ≤ 1000 ∧ COMP Γ elt x scope cl (ax, o) (fun v g => Q v loc g) xs [] g)
    (hs : ∀ y, foldedSetIterable iter Γ.env y = pure y := by intro _; exact rfl) : EV Γ (.ListComp elt [⟨.Name x px, iter, [], 0⟩] scope pos) loc g Q :=
  fun ok m s X P RL S hp => by
    show wpAny _ _ (eval _ _) _ _ _
    rw [eval_ListComp]
    refine wpAny_comprehension_free (use := none) rfl hs hclos hkind hnames (h.go ok RL S fun xv xv' loc' m' g' hh tk q r RL S => ?_)
    obtain ⟨ax, o, xs, rfl, hm, hi, hz, C⟩ := q
    cases r
    have hN := S.news _ (List.mem_append_right _ hm)
    have hlt : ax < hh.objs.size := Heap.lt_size hN.1
    have fin : ∀ (s₂ : Shared), (∃ h₂, s₂ = { s with heap := h₂, toks := tk }) → ∀ ys ys' g, Reps ys ys' → ((X ++ g).map (·.1)).Nodup → COMP Γ elt x scope cl (ax, o) (fun v g => Q v loc' g) [] ys g → LCg.FinE Γ.h₀ Γ.L m' s₂ P ys' (X ++ g) := by
      rintro _ ⟨h₂, rfl⟩ ys ys' g ry D q D' h tk' F N O1
      have o1 : ∀ p ∈ X ++ g, p.1 ≠ D' := off1_mem O1
      have hD : Is (.list ys) (LCg.lst ys') := .list _ ry
      exact hp _ _ loc' m' ((D', LCg.lst ys') :: g) h tk' (q D' _ hD) (.ref D') RL ⟨F, fun p hp => N p (by
        rcases List.mem_append.mp hp with h | h
        · exact .tail _ (List.mem_append_left _ h)
        · rcases List.mem_cons.mp h with rfl | h
          · exact .head _
          · exact .tail _ (List.mem_append_right _ h)), nodup_mid D o1⟩
    have core : ∀ (vs : List Value) (oI : Obj), Reps xs vs → ∀ (IsIter : Nat → Heap → Prop) (IsSrc : Heap → Prop), (∀ h : Heap, h.get? ax = some o → IsSrc h) → (∀ i h h' o', IsIter i h → h.get? hh.objs.size = some o' → h'.get? hh.objs.size = some o' → IsIter i h') → (∀ i h, IsIter i h → ∃ o', h.get? hh.objs.size = some o') →
        Walks Γ.prog Γ.w Γ.A hh.objs.size [hh.objs.size, ax] [hh.objs.size] vs.toArray.size (fun i v => vs.toArray[i]? = some v) (fun i h => IsIter i h ∧ IsSrc h) → IsIter 0 (hh.push oI) →
        wpAny (model Γ.prog Γ.w) Γ.A (newList []) (fun acc s₃ => wpAny (model Γ.prog Γ.w) Γ.A (newFunctionEnv scope Γ.env.globals cl [] Γ.env.qual none .none (some Γ.env)) (fun cenv s₄ =>
          codeAny (model Γ.prog Γ.w) Γ.A (.compStart (.ListComp elt [⟨.Name x px, iter, [], 0⟩] scope pos) 0 (.ref hh.objs.size) acc { cenv with scope := relabel scope Γ.env }) (compPost (model Γ.prog Γ.w) Γ.A (fun _ _ => False) none P acc cenv.locals) s₄) (fun _ _ => False) s₃) (fun _ _ => False) { s with heap := hh.push oI, toks := tk } := by
      intro vs oI rv IsIter IsSrc hsrc hk hex W h0
      have up : ∀ b o', hh.get? b = some o' → (hh.push oI).get? b = some o' := fun b o' e => Heap.get?_push_of_some _ e
      refine LCg.block_U (s₂ := { s with heap := hh.push oI, toks := tk }) (news := X ++ g') (h₀ := Γ.h₀) (L := Γ.L) (m := m') (S := fun nw => (ax, o) ∈ nw) (Fin := LCg.FinE Γ.h₀ Γ.L m' { s with heap := hh.push oI, toks := tk } P) W ?_ (fun i h st => hex i h st.1)
        (fun i h h' o' nw st e e' _ N hnw => ⟨hk i h h' o' st.1 e e', hsrc _ (N _ hnw).1⟩) hcell hkind hx ⟨h0, hsrc _ (up _ _ hN.1)⟩ (fun b hb => ?_) (S.fr.keeps up) (S.news.grown up) (Nat.ne_of_lt S.fr.ns.lt) (next_is_new S.fr) (news_ne S.news) (List.mem_append_right _ hm) ?_ ?_
      · rw [List.size_toArray, rv.length, sizeLine_eq]; omega
      · show b < (hh.push oI).objs.size
        rw [Heap.size_push]
        rcases List.mem_cons.mp hb with rfl | hb
        · exact Nat.lt_succ_self _
        · rw [List.mem_singleton.mp hb]; exact Nat.lt_succ_of_lt hlt
      · have := comp_rest (m := m') (X := X) (s₂ := { s with heap := hh.push oI, toks := tk }) (vs := vs) ok (fin { s with heap := hh.push oI, toks := tk } ⟨hh.push oI, rfl⟩) xs 0 [] [] g' ⟨vs, List.drop_zero, rv⟩ .nil C S.nodup
        rw [List.size_toArray, rv.length]
        exact this
      · intro D C h tk' m₂ ys news' F' N' o1 hn hC₀ hD₀ hCL hDL hCD offC fn
        refine ⟨m₂, hn, fun h'' hs'' => fn D h'' tk' (F'.change hs'' hCL hC₀) (fun p hp => ?_) o1⟩
        refine ⟨hs''.extBut _ _ ?_ (N' p hp).1, (N' p hp).2⟩
        rcases List.mem_cons.mp hp with rfl | hp
        · exact Ne.symm hCD
        · exact offC p hp
    rcases hi with hi | hi
    · cases hi with
      | @list _ vs n rv =>
        refine wpAny_pyIter_list ⟨_, hN.1, rfl, _, rfl⟩ ?_
        exact core vs _ rv (fun i h => h.IsListIter hh.objs.size ax i) (fun h => h.IsList ax vs.toArray) (fun h e => ⟨_, e, rfl, _, rfl⟩) (fun i h h' o' st e e' => by obtain ⟨o₂, q, r⟩ := st; rw [e] at q; cases q; exact ⟨_, e', r⟩) (fun i h st => by obtain ⟨o₂, q, _⟩ := st; exact ⟨o₂, q⟩)
          (Walks.list (prog := Γ.prog) (w := Γ.w) ok.hh hh.objs.size ax (Nat.ne_of_lt hlt) vs.toArray) ⟨_, Heap.get?_push_size _ rfl, rfl, rfl⟩
    · cases hi with
      | @tup _ vs n rv =>
        refine wpAny_pyIter_tuple ⟨_, hN.1, rfl, _, rfl⟩ ?_
        exact core vs _ rv (fun i h => h.IsTupleIter hh.objs.size ax i) (fun h => h.IsTuple ax vs.toArray) (fun h e => ⟨_, e, rfl, _, rfl⟩) (fun i h h' o' st e e' => by obtain ⟨o₂, q, r⟩ := st; rw [e] at q; cases q; exact ⟨_, e', r⟩) (fun i h st => by obtain ⟨o₂, q, _⟩ := st; exact ⟨o₂, q⟩)
          (Walks.tuple (prog := Γ.prog) (w := Γ.w) ok.hh hh.objs.size ax (Nat.ne_of_lt hlt) vs.toArray) ⟨_, Heap.get?_push_size _ rfl, rfl, rfl⟩
end
-- part Vc20
section
variable {Γ : Fm} {loc : Loc} {g : Gl} {K : AF → Loc → Gl → Prop}
theorem EX_tupL {es : List Expr} {k : Nat} {tp pos : Pos} {e : Expr} {xs : List Str} (t : TgtN es xs) (h : EV Γ e loc g fun v loc g => ∃ l o ms loc', v = .ref l ∧ (l, o) ∈ g ∧ Is (.list ms) o ∧ SetLs xs ms loc loc' ∧ K .next loc' g)
    (hs : swapsWithSole [.Tuple es k tp] e pos.line Γ.env = pure false := by exact rfl) (hw : swappedStores [.Tuple es k tp] e Γ.env = pure none := by exact rfl) : EX Γ (.Assign [.Tuple es k tp] e pos) loc g K :=
  fun ok m s X _ RL S hp => Assign_Tuple (h.go ok RL S fun v v' _ _ g' hh tk q r RL S => by
    obtain ⟨l, o, ms, loc', rfl, hm, hi, H, q⟩ := q
    cases r
    obtain ⟨vs, rv, hl⟩ := S.isList hm hi
    refine kun_list S.fr S.news hl ok.hh (by rw [(tgt_each t).1, H.len]; simp [rv.length]) (tgt_each t).2 fun h' F' N' => ?_
    exact asg_go ok t rv H RL (S.same F' N') fun m' h' tk' RL S => hp .next _ loc' m' g' h' tk' q .next RL S) hs hw
end
-- part Vc21
section
variable {Γ : Fm} {loc : Loc} {g : Gl} {K : AF → Loc → Gl → Prop}
end
-- part Vc22
theorem repsOf {ns : List Int} : ∀ {vs : List Value}, IntsAre vs ns → Reps (nums ns) vs := by
  induction ns with
  | nil => intro vs h; cases h; exact .nil
  | cons n r ih => intro vs h; cases h with | cons _ _ h => exact .cons (.int _ _) (ih h)
section
variable {Γ : Fm} {loc : Loc} {g : Gl} {Q : MV → Loc → Gl → Prop} {K : AF → Loc → Gl → Prop}
theorem CALL_sum {l : Addr} {xs : List Int} {o : Obj} (h1 : (l, o) ∈ g) (i1 : Is (.list (nums xs)) o) (h : Q (.int xs.sum) loc g) : CALL Γ (.bi "sum") [.ref l] loc g Q := by
  intro f' as' r1 r2 ok m s X P RL S hp
  cases r1
  obtain ⟨_, _, rfl, a, b⟩ := r2.one; cases a; obtain rfl := b.none
  obtain ⟨vs, rv, hl⟩ := S.isList h1 i1
  exact LSm.sum_ints S.fr S.news ok.hh hl rv.nums fun h' tk t' F N => hp _ _ loc m g h' tk h (.int _ _) RL (S.same F N)
theorem CALLK_sum {l : Addr} {xs : List Int} {o : Obj} {Q : MV → Gl → Prop} (h1 : (l, o) ∈ g) (i1 : Is (.list (nums xs)) o) (h : Q (.int xs.sum) g) : CALLK Γ (.bi "sum") [.ref l] g Q := by
  intro f' as' r1 r2 ok m s X P S hp
  cases r1
  obtain ⟨_, _, rfl, a, b⟩ := r2.one; cases a; obtain rfl := b.none
  obtain ⟨vs, rv, hl⟩ := S.isList h1 i1
  exact LSm.sum_ints S.fr S.news ok.hh hl rv.nums fun h' tk t' F N => hp _ _ g h' tk h (.int _ _) (S.same F N)
theorem CALLK_abs {i : Int} {Q : MV → Gl → Prop} (h : Q (.int (if i < 0 then -i else i)) g) : CALLK Γ (.bi "abs") [.int i] g Q := by
  intro f' as' r1 r2 ok m s X P S hp
  cases r1
  obtain ⟨_, _, rfl, a, b⟩ := r2.one; cases a; obtain rfl := b.none
  exact PyProof.Rows.call_abs_int fun u tk => hp _ _ g s.heap tk h (.int _ _) S
theorem CALLK_int {i : Int} {Q : MV → Gl → Prop} (h : Q (.int i) g) : CALLK Γ (.ty "int") [.int i] g Q := by
  intro f' as' r1 r2 ok m s X P S hp
  cases r1
  obtain ⟨_, _, rfl, a, b⟩ := r2.one; cases a; obtain rfl := b.none
  exact PySem.call_int_int (hp _ _ g s.heap s.toks h (.int _ _) S)
theorem EV_sliceG {v : Expr} {lo hi : Option Expr} {p pos : Pos} (h : EV Γ v loc g fun o loc g => EVP Γ lo loc g fun a loc g => EVP Γ hi loc g fun b loc g =>
      ∃ l vs xs ka kb, o = .ref l ∧ Γ.h₀.IsList l vs.toArray ∧ IntsAre vs xs ∧ xs.length ≤ 1000 ∧ PartIs a ka ∧ PartIs b kb ∧ ∀ r o, Is (.list (nums (pickN xs ka kb))) o → Q (.ref r) loc ((r, o) :: g)) : EV Γ (.Subscript v (.Slice lo hi none p) pos) loc g Q :=
  fun ok m s X _ RL S hp => Subscript_ (h.go ok RL S fun o o' _ _ _ _ _ h1 r1 RL S => wpAny_Slice (h1.go ok RL S fun a a' _ _ _ _ _ h2 r2 RL S => h2.go ok RL S fun b b' loc' m' g' hh tk q r3 RL S => evalPart_none_step (by
    obtain ⟨l, vs, xs, ka, kb, rfl, hl₀, hi, hz, pa, pb, q⟩ := q
    cases r1
    have rv : Reps (nums xs) vs := repsOf hi
    have hl : hh.IsList l vs.toArray := by
      obtain ⟨o, e, hd⟩ := hl₀
      exact ⟨o, S.fr.keep _ _ e, hd⟩
    have F1 := S.fr.push { cls := .type "slice", data := .fields #[a', b', .none] }
    have W1 : News Γ.h₀ Γ.L (hh.push { cls := .type "slice", data := .fields #[a', b', .none] }) (X ++ g') := S.news.grown fun _ _ e => Heap.get?_push_of_some _ e
    refine tail_any (Heap.IsList.typeIs (s := { s with heap := hh.push { cls := .type "slice", data := .fields #[a', b', .none] }, toks := tk }) (hl.push _)) list_getitem_lookup
      (wpAny_getItem_list_slice (hl.push _) (Heap.IsSliceOf.new ..) (pa.is r2) (pb.is r3) .none (by simp) ?_ (by rw [sizeLine_eq]; simp [rv.length, nums_len]; omega)) rfl
    have := pickL_reps rv ka kb
    rw [pickL_nums] at this
    have e : slicePick vs.toArray ka kb none = (slicePick vs.toArray ka kb none).toList.toArray := by simp
    refine hp _ _ loc' m' _ _ tk (q _ _ ?_) (.ref _) RL (S.push (F1.push _) (W1.push F1 _) ?_)
    · rw [e]; exact .list 0 this
    · intro p hp; exact news_ne W1 p hp)))
theorem UpdG.app {a : Addr} {x x' : Obj} {g g' : Gl} (u : UpdG a x x' g g') : ∀ T : Gl, UpdG a x x' (T ++ g) (T ++ g')
  | [] => u
  | p :: r => .tail (u.app r)
end
-- part Vc23
theorem boot_abs : bootBuiltins "abs" = some (.builtin "abs") := by decide +kernel
theorem boot_int : bootBuiltins "int" = some (.type "int") := by decide +kernel
theorem boot_sum : bootBuiltins "sum" = some (.builtin "sum") := by decide +kernel
theorem Num.sum {b n : Nat} {xs : List Int} (h : Num b n xs) (hn : n < 2 ^ b) : xs.sum = n := by
  rcases Nat.eq_zero_or_pos n with rfl | h0
  · rw [h.zero]; rfl
  · rw [h.one_limb h0 hn]; simp
theorem Num.len1 {b n : Nat} {xs : List Int} (h : Num b n xs) (hn : n < 2 ^ b) : xs.length ≤ 1 := by
  rcases Nat.eq_zero_or_pos n with rfl | h0
  · rw [h.zero]; simp
  · rw [h.one_limb h0 hn]; simp
theorem Num.ne0 {b n : Nat} {xs : List Int} (h : Num b n xs) : xs ≠ [0] := fun e => h.2.2 (by rw [e]; rfl)
def Less (g' g : Gl) : Prop := ∃ g2, List.Perm g' g2 ∧ g2.Sublist g
section
variable {Γ : Fm} {loc : Loc} {g : Gl}
theorem TR.less {α β : Type} {rep : β → α → Prop} {t : Sem α} {Q : β → Loc → Gl → Prop} {g' : Gl} (hs : Less g' g) (h : TR Γ rep t loc g' Q) : TR Γ rep t loc g Q := by
  obtain ⟨g2, hp, hs⟩ := hs
  exact TR.drop hs (TR.perm hp h)
theorem TRK.mono {α β : Type} {rep : β → α → Prop} {t : Sem α} {Q Q' : β → Gl → Prop} (h : TRK Γ rep t g Q) (k : ∀ b g, Q b g → Q' b g) : TRK Γ rep t g Q' :=
  fun ok m s X P S hp => h ok m s X P S fun b a g' h' tk' q r st => hp b a g' h' tk' (k _ _ q) r st
theorem COMP_gen {ι : Type} {elt : Expr} {x : Str} {scope : Scope} {cl : List (Str × Addr)} {src : Addr × Obj} {Q : MV → Gl → Prop} (v y : ι → MV) (hsrc : src ∈ g) :
    ∀ (is : List ι) (ys : List MV), (∀ i ∈ is, ∀ I C D oI oC oD, CN x (v i) oC → EVK Γ (compEnvC scope cl C Γ.env) elt ((I, oI) :: (C, oC) :: (D, oD) :: g) fun r g' => r = y i ∧ g' = (I, oI) :: (C, oC) :: (D, oD) :: g) →
      (∀ D oD, Is (.list (ys ++ is.map y)) oD → Q (.ref D) ((D, oD) :: g)) → COMP Γ elt x scope cl src Q (is.map v) ys g
  | [], ys, _, q => fun D oD h => q D oD (by simpa using h)
  | i :: is, ys, hE, q => fun I C D oI oC oD hC => TRK.mono (hE i (.head _) I C D oI oC oD hC) fun r g' ⟨er, eg⟩ => ⟨[], g, by rw [eg]; exact List.Sublist.refl _, hsrc, by
      subst er
      exact COMP_gen v y hsrc is _ (fun i hi => hE i (.tail _ hi)) fun D oD h => q D oD (by simpa using h)⟩
end
theorem less_turn {T F base : Gl} {p r : Addr × Obj} : Less (T ++ p :: ((F ++ [r]) ++ base)) (r :: (T ++ p :: (F ++ base))) :=
  ⟨_, by
    have h1 : List.Perm ((F ++ [r]) ++ base) (r :: (F ++ base)) := by
      rw [List.append_assoc]; exact List.perm_middle
    exact ((List.Perm.append_left T (List.Perm.cons p h1)).trans (List.Perm.append_left T (List.Perm.swap r p _))).trans List.perm_middle, List.Sublist.refl _⟩
def BodyS (K : Frag) (f : Addr) (P : List Stmt → Scope → Prop) : Prop :=
  ∀ name qual params body scope dV kV doc pm cdv ct oc an od osl, K.lookup f = some ⟨oc, od, .func (fnOf name qual params body scope dV kV doc pm an cdv ct), osl⟩ → P body scope
theorem bodyS_of {K : Frag} {f : Addr} {P : List Stmt → Scope → Prop} {name qual : Str} {params : Arguments} {body : List Stmt} {scope : Scope} {dV kV doc pm cdv ct oc : Value} {an od : Option Addr} {osl : Array (Option Value)}
    (ho : K.lookup f = some ⟨oc, od, .func (fnOf name qual params body scope dV kV doc pm an cdv ct), osl⟩) (h : P body scope) : BodyS K f P := by
  intro name' qual' params' body' scope' dV' kV' doc' pm' cdv' ct' oc' an' od' osl' ho'
  have e := Option.some.inj (ho.symm.trans ho')
  have e2 : Data.func (fnOf name qual params body scope dV kV doc pm an cdv ct) = .func (fnOf name' qual' params' body' scope' dV' kV' doc' pm' an' cdv' ct') := congrArg (fun o => o.data) e
  have e3 := Data.func.inj e2
  have e4 : body = body' := by
    have := congrArg (fun o => o.body) e3
    exact FuncBody.stmts.inj this
  have e5 : scope = scope' := congrArg (fun o => o.scope) e3
  rw [← e4, ← e5]; exact h
theorem frame_in {prog : Program} {w : World} {K : Frag} {cn : Str} {cs : Scope} {L f : Addr} {cdv : Value} {cl : List (Str × Addr)} {h₀ : Heap} {k : Nat} {body : List Stmt} {loc : Loc} {g : Gl} {m : Str → Option Value} {Kf : AF → Loc → Gl → Prop} {s : Shared}
    {p : Program} {loose : List Str} {mean : ExcName → Option Value} {mg mb : Str → Option Value}
    (hb : ∀ A, EXS ⟨prog, w, K, A, cn, cs, L, f, cdv, cl, h₀, k⟩ body loc g Kf) (B : Below callerA h₀ [] h₀) (X : K.In h₀) (T : Top p loose mean mg mb h₀) (hk : cs.kind = .function) (codes : ∀ q ∈ makerTabs, CodeHd h₀ q.1 q.2)
    (F : Fr h₀ L s.heap m) (N : News h₀ L s.heap g) (nd : (g.map (·.1)).Nodup) (RL : (loc.map (·.1)).Nodup ∧ ∀ x v, (x, v) ∈ loc → cs.names.lookup x = some .local ∧ (v ≠ .undef → ∃ v', m x = some v' ∧ Rep v v')) (hd : k ≤ 40)
    {Post : Flow → Shared → Prop} {E : Value → Shared → Prop} (hp : ∀ b a loc' m' g' h' tk', Kf b loc' g' → RepF b a → Fr h₀ L h' m' → News h₀ L h' g' → Post a { s with heap := h', toks := tk' }) :
    wpAny (model prog w) (callerA.deeper (envX cn cs L f cdv cl)) (execs body (envX cn cs L f cdv cl)) Post E s := by
  let Γ : Fm := ⟨prog, w, K, callerA.deeper (envX cn cs L f cdv cl), cn, cs, L, f, cdv, cl, h₀, k⟩
  have ok : Γ.Ok := ⟨⟨callerA, h₀, [], B, Around.frames_deeper rfl⟩, X, ⟨p, loose, mean, mg, mb, T⟩, hk, rfl, by
    show callerA.depth + 1 + k < _
    have : callerA.depth + 41 < recursionLimit := by decide
    omega, by
    show callerA.units + 3 + 8 * k + 70 < _
    have : callerA.units + 3 + 8 * 40 + 70 < cLine := by decide
    omega, codes⟩
  exact wpAny_mono (TR.go (Γ := Γ) (hb _) ok (X := []) (m := m) (s := s) RL ⟨F, N, nd⟩ fun b a loc' m' g' h' tk' q r RL S => hp b a loc' m' g' h' tk' q r S.fr S.news) (fun _ _ z => z) fun _ _ e => e.elim
-- part Vc24
section
variable {Γ : Fm} {loc : Loc} {g : Gl} {K : AF → Loc → Gl → Prop}
theorem EX_tupC {k : Nat} {tp px py pos : Pos} {e : Expr} {x y : Str} {c : Addr} (hc : Γ.cl.lookup x = some c) (hx : Γ.cs.names.lookup x = some .cell)
    (h : EV Γ e loc g fun v loc g => ∃ l o v₁ v₂ loc' pre post oc v₀, v = .ref l ∧ (l, o) ∈ g ∧ Is (.tup [v₁, v₂]) o ∧ SetL y v₂ loc loc' ∧ g = pre ++ (c, oc) :: post ∧ oc.data = .cell v₀ ∧ ∀ oc', Is (.cell v₁) oc' → K .next loc' (pre ++ (c, oc') :: post))
    (hs : swapsWithSole [.Tuple [.Name x px, .Name y py] k tp] e pos.line Γ.env = pure false := by exact rfl) (hw : swappedStores [.Tuple [.Name x px, .Name y py] k tp] e Γ.env = pure none := by exact rfl) : EX Γ (.Assign [.Tuple [.Name x px, .Name y py] k tp] e pos) loc g K :=
  fun ok m s X _ RL S hp => Assign_Tuple (h.go ok RL S fun v v' _ _ g' hh tk q r RL S => by
    obtain ⟨l, o, v₁, v₂, loc', pre, post, oc, v₀, rfl, hm, hi, H, rfl, hd, q⟩ := q
    cases r
    obtain ⟨vs, rv, ht⟩ := S.isTup hm hi
    obtain ⟨a, _, rfl, ra, rv⟩ := rv.one
    obtain ⟨b, _, rfl, rb, rv⟩ := rv.one
    obtain rfl := rv.none
    refine assign_Tuple_tuple ok.hh ht (by rfl) (by rfl) fun h' he => ?_
    have S' : St Γ _ h' X _ := S.same (S.fr.extBut he (Nat.le_refl _)) (fun p hp => ⟨he _ _ (news_ne S.news p hp) (S.news p hp).1, (S.news p hp).2⟩)
    show wpAny _ _ (do holding _ (assign (.Name x px) Γ.env a); assignInOrder _ _) _ _ _
    have D := S'.nodup
    have e1 : X ++ (pre ++ (c, oc) :: post) = (X ++ pre) ++ (c, oc) :: post := by simp
    obtain ⟨d1, d2⟩ := nodup_apart D
    have U := updF_mid (o := oc) d2 (pre := X ++ pre) d1
    have W := S'.news
    rw [e1] at W
    refine wpAny_bind (wpAny_holding (PyProof.Rows.assign_Name (storeX_C S'.fr W hc U hd (fun h3 o' F3 W3 hd3 => ?_) ok.kf hx)))
    show wpAny _ _ (do holding _ (assign (.Name y py) Γ.env b); assignInOrder _ _) _ _ _
    have S3 : St Γ _ h3 X (pre ++ (c, o') :: post) := ⟨F3, by rw [show X ++ (pre ++ (c, o') :: post) = (X ++ pre) ++ (c, o') :: post by simp]; exact W3, by simpa using D⟩
    refine wpAny_bind (wpAny_holding (PyProof.Rows.assign_Name (store_go ok RL S3 H rb fun m' h2 tk' RL S => ?_)))
    exact wpAny_pure (hp .next _ loc' m' _ h2 tk' (q o' (.cell ra hd3)) .next RL S)) hs hw
end
-- part Vc25
section
variable {Γ : Fm} {loc : Loc} {g : Gl} {K : AF → Loc → Gl → Prop}
theorem EX_asgcomp {elt iter : Expr} {x y : Str} {px py : Pos} {scope : Scope} {cl : List (Str × Addr)} {pos spos : Pos} (hsw : swapsWith (.ListComp elt [⟨.Name x px, iter, [], 0⟩] scope pos) (some (.Name y py)) spos.line Γ.env = pure true)
    (hclos : closureFor scope Γ.env = pure cl) (hcell : ∀ z ∈ scope.names, z.2 ≠ .cell) (hkind : scope.kind = .function)
    (hnames : ∀ z ∈ scope.names, z.2 = .local → scope.names.lookup z.1 = some .local) (hx : scope.names.lookup x = some .local) (hy : Γ.cs.names.lookup y = some .local)
    (h : EV Γ iter loc g fun v loc g => ∃ ax o xs, v = .ref ax ∧ (ax, o) ∈ g ∧ Is (.tup xs) o ∧ xs.length ≤ 1000 ∧ COMP Γ elt x scope cl (ax, o) (fun v g => ∃ loc', SetL y v loc loc' ∧ K .next loc' g) xs [] g)
    (hs : ∀ z, foldedSetIterable iter Γ.env z = pure z := by intro _; exact rfl) : EX Γ (.Assign [.Name y py] (.ListComp elt [⟨.Name x px, iter, [], 0⟩] scope pos) spos) loc g K :=
  fun ok m s X P RL S hp => by
    show wpAny _ _ (exec _ _) _ _ _
    rw [exec_Assign_Name_used _ _ _ _ hsw]
    refine wpAny_bind (wpAny_standAt (wpAny_bind ?_))
    show wpAny _ _ (do let _ ← comprehension (.ListComp elt [⟨.Name x px, iter, [], 0⟩] scope pos) scope Γ.env _ (newList []) false (eval iter Γ.env) (some (assign (.Name y py) Γ.env))) _ _ s
    refine wpAny_bind (wpAny_mono (wpAny_comprehension_free (use := some (assign (.Name y py) Γ.env)) (Q := fun _ s' => P .next s') rfl hs hclos hkind hnames
      (h.go ok RL S fun xv xv' loc' m' g' hh tk q r RL S => ?_)) (fun _ s' hq => wpAny_pure (wpAny_pure hq)) fun _ _ e => e)
    obtain ⟨ax, o, xs, rfl, hm, hi, hz, C⟩ := q
    cases r
    have hN := S.news _ (List.mem_append_right _ hm)
    have hlt : ax < hh.objs.size := Heap.lt_size hN.1
    have fin : ∀ (s₂ : Shared), (∃ h₂, s₂ = { s with heap := h₂, toks := tk }) → ∀ ys ys' g, Reps ys ys' → ((X ++ g).map (·.1)).Nodup → COMP Γ elt x scope cl (ax, o) (fun v g => ∃ loc'', SetL y v loc' loc'' ∧ K .next loc'' g) [] ys g → LCg.FinA Γ.h₀ Γ.L m' s₂ y P ys' (X ++ g) := by
      rintro _ ⟨h₂, rfl⟩ ys ys' g ry D q D' h tk' F N O1
      have o1 : ∀ p ∈ X ++ g, p.1 ≠ D' := off1_mem O1
      obtain ⟨loc'', hset, q⟩ := q D' _ (.list _ ry)
      exact hp .next _ loc'' _ _ h tk' q .next (RL.set hset (.ref D')) ⟨F, fun p hp => N p (by
        rcases List.mem_append.mp hp with h | h
        · exact .tail _ (List.mem_append_left _ h)
        · rcases List.mem_cons.mp h with rfl | h
          · exact .head _
          · exact .tail _ (List.mem_append_right _ h)), nodup_mid D o1⟩
    cases hi with
    | @tup _ vs n rv =>
      refine wpAny_pyIter_tuple ⟨_, hN.1, rfl, _, rfl⟩ ?_
      have up : ∀ {oI : Obj} b o', hh.get? b = some o' → (hh.push oI).get? b = some o' := fun b o' e => Heap.get?_push_of_some _ e
      have hsrc : ∀ h : Heap, h.get? ax = some { cls := .type "tuple", data := .seq vs.toArray n } → h.IsTuple ax vs.toArray := fun h e => ⟨_, e, rfl, _, rfl⟩
      suffices core : ∀ (oI : Obj), (hh.push oI).IsTupleIter hh.objs.size ax 0 →
        wpAny (model Γ.prog Γ.w) Γ.A (newList []) (fun acc s₃ => wpAny (model Γ.prog Γ.w) Γ.A (newFunctionEnv scope Γ.env.globals cl [] Γ.env.qual none .none (some Γ.env)) (fun cenv s₄ =>
          codeAny (model Γ.prog Γ.w) Γ.A (.compStart (.ListComp elt [⟨.Name x px, iter, [], 0⟩] scope pos) 0 (.ref hh.objs.size) acc { cenv with scope := relabel scope Γ.env }) (compPost (model Γ.prog Γ.w) Γ.A (fun _ _ => False) (some (assign (.Name y py) Γ.env)) (fun _ s' => P .next s') acc cenv.locals) s₄) (fun _ _ => False) s₃) (fun _ _ => False) { s with heap := hh.push oI, toks := tk } by
        exact core _ ⟨_, Heap.get?_push_size _ rfl, rfl, rfl⟩
      intro oI h0
      refine LCg.block_U (news := X ++ g') (h₀ := Γ.h₀) (L := Γ.L) (m := m') (S := fun nw => (ax, ({ cls := .type "tuple", data := .seq vs.toArray n } : Obj)) ∈ nw) (Fin := LCg.FinA Γ.h₀ Γ.L m' { s with heap := hh.push oI, toks := tk } y P)
        (Walks.tuple (prog := Γ.prog) (w := Γ.w) ok.hh hh.objs.size ax (Nat.ne_of_lt hlt) vs.toArray) ?_ (fun i h st => by obtain ⟨o₂, q, _⟩ := st.1; exact ⟨o₂, q⟩)
        (fun i h h' o' nw st e e' _ N hnw => ⟨by obtain ⟨o₂, q, r⟩ := st.1; rw [e] at q; cases q; exact ⟨_, e', r⟩, hsrc _ (N _ hnw).1⟩) hcell hkind hx ⟨h0, hsrc _ (up _ _ hN.1)⟩ (fun b hb => ?_) (S.fr.keeps up) (S.news.grown up) (Nat.ne_of_lt S.fr.ns.lt) (next_is_new S.fr) (news_ne S.news) (List.mem_append_right _ hm) ?_ ?_
      · rw [List.size_toArray, rv.length, sizeLine_eq]; omega
      · show b < (hh.push oI).objs.size
        rw [Heap.size_push]
        rcases List.mem_cons.mp hb with rfl | hb
        · exact Nat.lt_succ_self _
        · rw [List.mem_singleton.mp hb]; exact Nat.lt_succ_of_lt hlt
      · have := comp_rest (m := m') (X := X) (s₂ := { s with heap := hh.push oI, toks := tk }) (vs := vs) ok (fin { s with heap := hh.push oI, toks := tk } ⟨hh.push oI, rfl⟩) xs 0 [] [] g' ⟨vs, List.drop_zero, rv⟩ .nil C S.nodup
        rw [List.size_toArray, rv.length]
        exact this
      · intro D C h tk' m₂ ys news' F' N' o1 hn hC₀ hD₀ hCL hDL hCD offC fn
        show wpAny _ _ (assign (.Name y py) Γ.env (.ref D)) _ _ _
        refine wpAny_assign_Name (wpAny_storeName_local hy F'.ns (fun h₂ hn₂ hs₂ => ?_) (by show (Γ.cs.kind == .class || (Γ.cs.kind == .module && _)) = false; rw [ok.kf]; rfl))
        have hL₀ : Γ.h₀.get? Γ.L = none := Heap.get?_none_of_le F'.above
        have F₂ : Fr Γ.h₀ Γ.L h₂ (fun z => if z = y then some (.ref D) else m' z) := ⟨hn₂, fun b o e => hs₂.extBut b o (fun q => by rw [q] at e; exact absurd (hL₀.symm.trans e) (by simp)) (F'.keep b o e), F'.above⟩
        refine ⟨m₂, hn.sameBut hs₂ hCL, fun h'' hs'' => fn D h'' _ (F₂.change hs'' hCL hC₀) (fun p hp => ?_) o1⟩
        have z : h₂.get? p.1 = some p.2 := hs₂.extBut _ _ (N' p hp).2.1 (N' p hp).1
        refine ⟨hs''.extBut _ _ ?_ z, (N' p hp).2⟩
        rcases List.mem_cons.mp hp with rfl | hp
        · exact Ne.symm hCD
        · exact offC p hp
end
local macro_rules | `(tactic| tlg_ne) => `(tactic| first
  | with_reducible assumption
  | with_reducible exact Int.natCast_nonneg _
  | with_reducible exact Nat.le_trans (by assumption) (by decide)
  | with_reducible exact Nat.lt_of_lt_of_le (by assumption) (by decide)
  | with_reducible exact Int.natCast_pos.mpr (by assumption)
  | with_reducible exact Int.ofNat_lt.mpr (by assumption)
  | with_reducible exact Nat.lt_of_lt_of_le (by assumption) (And.left (by assumption))
  | with_reducible exact Nat.le_of_lt (by assumption)
  | with_reducible exact Nat.le_trans (And.right (by assumption)) (by decide)
  | with_reducible exact Nat.lt_of_le_of_lt (And.right (by assumption)) (by decide)
  | with_reducible exact Nat.lt_of_lt_of_le (by decide) (And.left (by assumption))
  | with_reducible exact Nat.two_pow_pos _
  | with_reducible exact Int.lt_of_lt_of_le (by decide) (Int.natCast_nonneg _)
  | with_reducible exact Int.le_of_lt (by assumption)
  | with_reducible exact Nat.le_refl _
  | lia
  | omega)
local macro_rules | `(tactic| tb_start) => `(tactic| first
  | with_reducible assumption
  | with_reducible exact mem_hd
  | (with_reducible refine mem_tl ?_; tb_start)
  | (with_reducible refine List.mem_append_right _ ?_; tb_start)
  | (with_reducible refine List.Sublist.subset (by assumption) ?_; tb_start))
local macro_rules | `(tactic| kwd_rel) => `(tactic| first
  | with_reducible exact SetL.head
  | (with_reducible apply SetL.tail; kwd_rel))
local macro_rules | `(tactic| ktd_rel) => `(tactic| first
  | with_reducible exact UpdG.head
  | (with_reducible apply UpdG.tail; ktd_rel))
local macro_rules | `(tactic| kwd_less) => `(tactic| first
  | with_reducible exact List.Sublist.refl _
  | (with_reducible refine List.Sublist.cons_cons _ ?_; kwd_less)
  | (with_reducible refine List.Sublist.append (List.Sublist.refl _) ?_; kwd_less)
  | (with_reducible refine List.Sublist.cons _ ?_; kwd_less)
  | (with_reducible refine List.Sublist.trans ?_ (List.sublist_append_right _ _); kwd_less))
local macro_rules | `(tactic| tb_rel) => `(tactic| with_reducible first
  | refine EVS_pure (by k_dflt exact rfl) ?_
  | refine EV_pure (n := 3) (by k_dflt exact rfl) ?_
  | (refine (?_ : EV _ (Expr.Name _ _) _ _ _); first
    | refine EV_name (by tb_start) (by first | exact int_def | exact ref_def | exact bool_def | exact none_def) ?_
    | refine EV_cell (by k_dflt exact rfl) (by tb_start) (by assumption) ?_ (by first | exact .inl rfl | exact .inr rfl)
    | refine EV_glob (by k_dflt (dsimp only; k_is)) (by k_dflt exact rfl) ?_
    | refine EV_boot (by k_dflt (dsimp only; k_is)) boot_len (Rep.bi _) (by k_dflt exact rfl) ?_
    | refine EV_boot (by k_dflt (dsimp only; k_is)) boot_max (Rep.bi _) (by k_dflt exact rfl) ?_)
  | (refine (?_ : EVS _ _ _ _ _ _); first
    | refine EVS_cons ?_ (by k_dflt exact rfl)
    | refine EVS_nil ?_)
  | (refine (?_ : EXS _ _ _ _ _); first
    | refine EXS_cons ?_
    | refine EXS_nil ?_)
  | (refine (?_ : EX _ _ _ _ _); first
    | refine EX_assign ?_ (by k_dflt exact rfl)
    | refine EX_aug (by tb_start) (by first | exact int_def | exact ref_def | exact bool_def | exact none_def) ?_
    | refine EX_if ?_
    | refine EX_ret ?_
    | refine EX_expr ?_ (by k_dflt exact rfl)
    | refine EX_cont ?_)
  | (refine (?_ : EV _ _ _ _ _); first
    | refine EV_int ?_
    | refine EV_bin ?_
    | refine EV_call ?_ (by k_dflt exact rfl) (by k_dflt exact rfl) (by k_dflt exact rfl)
    | refine EV_sliceN ?_
    | refine EV_sub ?_
    | refine EV_cmp ?_
    | refine EV_un ?_
    | refine EV_none ?_
    | refine EV_nil ?_
    | refine EV_tup ?_
    | refine EV_or ?_
    | refine EV_and ?_
    | refine EV_bits ?_ (by k_dflt exact rfl))
  | (refine (?_ : seqK _ _ _ _ _ _); first
    | refine seqK_next ?_
    | refine seqK_ret ?_
    | refine seqK_cont ?_)
  | (refine (?_ : turnK _ _ _ _ _); first
    | refine turnK_next ?_
    | refine turnK_cont ?_
    | refine turnK_ret ?_)
  | (refine (?_ : TST _ _ _ _ _); first
    | refine TST_cmp ?_
    | refine TST_and ?_
    | refine TST_or ?_)
  | refine TRU_bool ?_
  | (refine (?_ : BINOP _ _ _ _ _ _ _); first
    | refine BIN_add ?_
    | refine BIN_sub ?_
    | refine BIN_mask ?_
    | refine BIN_and1 ?_
    | refine BIN_shl1 (by tlg_ne) ?_
    | refine BIN_shrN ?_)
  | (refine (?_ : IOP _ _ _ _ _ _ _); first
    | refine IOP_add ?_
    | refine IOP_sub ?_
    | refine IOP_shrN ?_)
  | (refine (?_ : CMP _ _ _ _ _ _ _); first
    | refine CMP_eq ?_
    | refine CMP_ne ?_
    | refine CMP_lt ?_
    | refine CMP_gt ?_
    | refine CMP_le ?_
    | refine CMP_ge ?_)
  | refine EVP_none ?_
  | refine EVP_some ?_
  | refine UN_neg ?_
  | (refine (?_ : CALL _ _ _ _ _ _); refine CALL_lenN (by tb_start) (by assumption) (by first | tlg_ne | simp) ?_)
  | (refine (?_ : And _ _); refine And.intro ?_ ?_; first | exact Keep.bi _ | exact Keep.ty _ | exact Keep.glob (by k_dflt (dsimp only; k_is)))
  | (refine (?_ : Exists _); refine Exists.intro _ (And.intro (by kwd_rel) ?_))
  | refine Seal.go (by with_reducible assumption) ?_)
-- part F1
inductive IsN (b n : Nat) (o : Obj) : Prop where
  | mk : n < 2 ^ 32 → ∀ xs, Num b n xs → Is (.list (nums xs)) o → IsN b n o
theorem IsN.len {b n : Nat} {xs : List Int} (hb : 6 ≤ b) (hn : n < 2 ^ 32) (h : Num b n xs) : xs.length ≤ 6 :=
  h.len_le (Nat.lt_of_lt_of_le hn (Nat.pow_le_pow_right (by decide) (by tlg_ne)))
inductive sp_normal (vs : List MV) (g : Gl) (Q : MV → Gl → Prop) : Prop where
  | mk : ∀ l o xs, vs = [.ref l] → (l, o) ∈ g → Is (.list (nums xs)) o → xs.length ≤ 100 → (∀ r o, Is (.list (nums (strip xs))) o → Q (.ref r) ((r, o) :: g)) → sp_normal vs g Q
theorem normal_ok (w : World) : SoundF PR w (hK w.params) 1 70 sp_normal := by
  refine soundF (by k_is) (by k_is) [Str.ofString "a"] [Str.ofString "end"] (by intro s vals h; obtain ⟨_, rfl⟩ := len1 h; exact BindsTo.of_eq rfl) (by rfl) (by decide) rfl rfl rfl (by decide) ?_
  rintro A L h₀ vs g Q ⟨l, o, xs, rfl, hm, hi, hz, q⟩
  refine ⟨rfl, ?_⟩
  simp only [List.zip_cons_cons, List.zip_nil_left, List.cons_append, List.nil_append, List.map_cons, List.map_nil]
  repeat tb_rel
  refine EX_while_inv (fun n loc g' => E1 fun (k : Nat) => A5 (loc = [(Str.ofString "a", .ref l), (Str.ofString "end", .int k)]) (g = g') (k = n) (k ≤ xs.length) (stripN xs k = stripN xs xs.length)) (n := xs.length) ⟨xs.length, rfl, rfl, rfl, Nat.le_refl _, rfl⟩ ?_
  rintro n _ _ N M hN hM ⟨k, rfl, rfl, rfl, hk, hs⟩
  repeat tb_rel
  refine ⟨fun hc => ?_, fun hc => ⟨fun h => (nomatch h), fun _ => ?_⟩⟩
  · simp only [decide_eq_true_eq] at hc
    repeat tb_rel
    refine ITEM_num hm hi (by tlg_ne) (by tlg_ne) (by tlg_ne) ?_
    repeat tb_rel
    cases k with
    | zero => omega
    | succ k =>
      rw [show ((k + 1 : Nat) : Int) - 1 = (k : Int) by tlg_ne, Int.toNat_natCast]
      refine ⟨fun h => ?_, fun h => ?_⟩
      · simp only [decide_eq_true_eq] at h
        repeat tb_rel
        refine ⟨k, by tlg_ne, k, ?_, rfl, rfl, by tlg_ne, ?_⟩
        · rw [show ((k + 1 : Nat) : Int) - 1 = (k : Int) by tlg_ne]
        · rw [← hs]; exact (if_pos h).symm
      · simp only [decide_eq_false_iff_not] at h
        have hk' : stripN xs xs.length = k + 1 := by rw [← hs]; exact if_neg h
        repeat tb_rel
        refine ⟨l, o, xs, none, some ((k + 1 : Nat) : Int), rfl, hm, hi, by tlg_ne, .none, .int _, fun r o ho => ?_⟩
        repeat tb_rel
        rw [pickN_upto _ _ (by tlg_ne), Int.toNat_natCast, ← hk'] at ho
        exact endK_ret (q r o ho) (by kwd_less)
  · simp only [decide_eq_false_iff_not] at hc
    have hk0 : k = 0 := by tlg_ne
    subst hk0
    repeat tb_rel
    refine ⟨l, o, xs, none, some ((0 : Nat) : Int), rfl, hm, hi, by tlg_ne, .none, .int _, fun r o ho => ?_⟩
    repeat tb_rel
    rw [pickN_upto _ _ (by tlg_ne), Int.toNat_natCast] at ho
    have hk' : stripN xs xs.length = 0 := by rw [← hs]; rfl
    rw [← hk'] at ho
    exact endK_ret (q r o ho) (by kwd_less)
inductive sp_is_even (vs : List MV) (g : Gl) (Q : MV → Gl → Prop) : Prop where
  | mk : ∀ l o xs, vs = [.ref l] → (l, o) ∈ g → Is (.list (nums xs)) o → xs.length ≤ 100 → Q (.bool (decide (xs.length = 0 ∨ xs.getD 0 0 % 2 = 0))) g → sp_is_even vs g Q
theorem is_even_ok (w : World) : SoundF PR w (hK w.params) 1 77 sp_is_even := by
  refine soundF (by k_is) (by k_is) [Str.ofString "a"] [] (by intro s vals h; obtain ⟨_, rfl⟩ := len1 h; exact BindsTo.of_eq rfl) (by rfl) (by decide) rfl rfl rfl (by decide) ?_
  rintro A L h₀ vs g Q ⟨l, o, xs, rfl, hm, hi, hz, q⟩
  refine ⟨rfl, ?_⟩
  simp only [List.zip_cons_cons, List.zip_nil_left, List.cons_append, List.nil_append, List.map_cons, List.map_nil]
  repeat tb_rel
  refine ⟨fun hc => ?_, fun hc => ?_⟩
  · simp only [decide_eq_false_iff_not] at hc
    repeat tb_rel
    refine ITEM_num hm hi (by tlg_ne) (by tlg_ne) (by tlg_ne) ?_
    repeat tb_rel
    refine endK_ret ?_ (by kwd_less)
    rw [show decide (xs.length = 0 ∨ xs.getD 0 0 % 2 = 0) = decide (xs.getD (0 : Int).toNat 0 % 2 = 0) from decide_eq_decide.mpr ⟨fun h => h.resolve_left (by tlg_ne), Or.inr⟩] at q
    exact q
  · simp only [decide_eq_true_eq] at hc
    repeat tb_rel
    refine endK_ret ?_ (by kwd_less)
    rw [show decide (xs.length = 0 ∨ xs.getD 0 0 % 2 = 0) = decide ((xs.length : Int) = 0) from decide_eq_decide.mpr ⟨fun _ => hc, fun _ => .inl (by tlg_ne)⟩] at q
    exact q
inductive sp_compare (vs : List MV) (g : Gl) (Q : MV → Gl → Prop) : Prop where
  | mk : ∀ b l o k p x y, vs = [.ref l, .ref k] → (l, o) ∈ g → IsN b x o → (k, p) ∈ g → IsN b y p → 6 ≤ b → Q (.int (sgn x y)) g → sp_compare vs g Q
theorem compare_ok (w : World) : SoundF PR w (hK w.params) 1 84 sp_compare := by
  refine soundF (by k_is) (by k_is) [Str.ofString "a", Str.ofString "b"] [Str.ofString "at"] (by intro s vals h; obtain ⟨_, _, rfl⟩ := len2 h; exact BindsTo.of_eq rfl) (by rfl) (by decide) rfl rfl rfl (by decide) ?_
  rintro A L h₀ vs g Q ⟨b, l, o, k, p, x, y, rfl, hm, ⟨hx, xs, nx, hi⟩, hm', ⟨hy, ys, ny, hi'⟩, hb, q⟩
  refine ⟨rfl, ?_⟩
  simp only [List.zip_cons_cons, List.zip_nil_left, List.cons_append, List.nil_append, List.map_cons, List.map_nil]
  have hlx := IsN.len hb hx nx
  have hly := IsN.len hb hy ny
  repeat tb_rel
  refine ⟨fun hc => ?_, fun hc => ?_⟩
  · simp only [decide_eq_true_eq] at hc
    repeat tb_rel
    refine EV_ife ?_
    repeat tb_rel
    refine ⟨fun h => ?_, fun h => ?_⟩
    · simp only [decide_eq_true_eq] at h
      repeat tb_rel
      have := len_lt nx ny (by tlg_ne)
      refine endK_ret ?_ (by kwd_less)
      rw [show sgn x y = -1 by unfold sgn; rw [if_pos (by tlg_ne)]] at q
      exact q
    · simp only [decide_eq_false_iff_not] at h
      repeat tb_rel
      have := len_lt ny nx (by tlg_ne)
      refine endK_ret ?_ (by kwd_less)
      rw [show sgn x y = 1 by unfold sgn; rw [if_neg (by tlg_ne), if_neg (by tlg_ne)]] at q
      exact q
  · simp only [decide_eq_false_iff_not, Decidable.not_not] at hc
    have hl : xs.length = ys.length := by tlg_ne
    repeat tb_rel
    refine EX_range (by dsimp only; k_is) boot_range (by exact rfl) ?_
    repeat tb_rel
    refine ⟨_, _, _, .three _ _ _, .inr rfl, by tlg_ne, ?_⟩
    rw [if_neg (by decide), show ((xs.length : Int) - 1 - -1).toNat = xs.length by tlg_ne]
    have hc0 : cmpN xs ys xs.length = sgn x y := by
      rw [cmpN_sgn nx.1 ny.1 hl _ (Nat.le_refl _), List.take_length, hl, List.take_length, nx.2.1, ny.2.1]
    refine FORB_rng (fun i loc g' => (∃ u, loc = [(Str.ofString "a", .ref l), (Str.ofString "b", .ref k), (Str.ofString "at", u)]) ∧ g = g' ∧ cmpN xs ys (xs.length - i) = sgn x y) ⟨⟨_, rfl⟩, rfl, by simpa using hc0⟩ ?_ ?_
    · rintro i _ _ hlt N hN ⟨⟨u, rfl⟩, rfl, hs⟩
      refine ⟨_, .name (by kwd_rel), ?_⟩
      obtain ⟨j, hj⟩ : ∃ j, xs.length - i = j + 1 := ⟨xs.length - i - 1, by tlg_ne⟩
      have e : (xs.length : Int) - 1 + (i : Int) * -1 = (j : Int) := by tlg_ne
      rw [e]
      rw [hj] at hs
      have hs' : (if xs.getD j 0 ≠ ys.getD j 0 then (if xs.getD j 0 < ys.getD j 0 then -1 else 1) else cmpN xs ys j) = sgn x y := hs
      repeat tb_rel
      refine ITEM_num hm hi (by tlg_ne) (by tlg_ne) (by tlg_ne) ?_
      repeat tb_rel
      refine ITEM_num hm' hi' (by tlg_ne) (by tlg_ne) (by tlg_ne) ?_
      repeat tb_rel
      rw [Int.toNat_natCast]
      refine ⟨fun h => ?_, fun h => ?_⟩
      · simp only [decide_eq_true_eq] at h
        rw [if_pos h] at hs'
        repeat tb_rel
        refine EV_ife ?_
        repeat tb_rel
        refine ITEM_num hm hi (by tlg_ne) (by tlg_ne) (by tlg_ne) ?_
        repeat tb_rel
        refine ITEM_num hm' hi' (by tlg_ne) (by tlg_ne) (by tlg_ne) ?_
        repeat tb_rel
        rw [Int.toNat_natCast]
        refine ⟨fun h => ?_, fun h => ?_⟩
        · simp only [decide_eq_true_eq] at h
          rw [if_pos h] at hs'
          repeat tb_rel
          exact endK_ret (by rw [hs']; exact q) (by kwd_less)
        · simp only [decide_eq_false_iff_not] at h
          rw [if_neg h] at hs'
          repeat tb_rel
          exact endK_ret (by rw [hs']; exact q) (by kwd_less)
      · simp only [decide_eq_false_iff_not] at h
        rw [if_neg h] at hs'
        repeat tb_rel
        exact ⟨fun _ h => (nomatch h), ⟨_, rfl⟩, rfl, by rw [show xs.length - (i + 1) = j by tlg_ne]; exact hs'⟩
    · rintro _ _ ⟨⟨u, rfl⟩, rfl, hs⟩
      rw [Nat.sub_self] at hs
      have hs' : 0 = sgn x y := hs
      repeat tb_rel
      exact endK_ret (by rw [hs']; exact q) (by kwd_less)
-- part F2
inductive sp_add (vs : List MV) (g : Gl) (Q : MV → Gl → Prop) : Prop where
  | mk : ∀ b l o k p x y, vs = [.ref l, .ref k, .int (b : Nat)] → (l, o) ∈ g → IsN b x o → (k, p) ∈ g → IsN b y p → (6 ≤ b ∧ b ≤ 8) → x + y < 2 ^ 32 → (∀ r q, IsN b (x + y) q → Q (.ref r) ((r, q) :: g)) → sp_add vs g Q
theorem add_ok (w : World) : SoundF PR w (hK w.params) 1 91 sp_add := by
  refine soundF (by k_is) (by k_is) [Str.ofString "a", Str.ofString "b", Str.ofString "w"] [Str.ofString "found", Str.ofString "carry", Str.ofString "mask", Str.ofString "at"] (by intro s vals h; obtain ⟨_, _, _, rfl⟩ := len3 h; exact BindsTo.of_eq rfl) (by rfl) (by decide) rfl rfl rfl (by decide) ?_
  rintro A L h₀ vs g Q ⟨b, l, o, k, p, x, y, rfl, hm, ⟨hx, xs, nx, hi⟩, hm', ⟨hy, ys, ny, hi'⟩, hb, hxy, q⟩
  refine ⟨rfl, ?_⟩
  simp only [List.zip_cons_cons, List.zip_nil_left, List.cons_append, List.nil_append, List.map_cons, List.map_nil]
  have hlx := IsN.len hb.1 hx nx
  have hly := IsN.len hb.1 hy ny
  have hp := pos2 b
  refine EXS_join (fun loc g' => A2 (g = g') (E8 fun l o xs x₁ k p ys y₁ => A10 (loc = [(Str.ofString "a", .ref l), (Str.ofString "b", .ref k), (Str.ofString "w", .int (b : Nat)), (Str.ofString "found", .undef), (Str.ofString "carry", .undef), (Str.ofString "mask", .undef), (Str.ofString "at", .undef)]) ((l, o) ∈ g) (Num b x₁ xs) (Is (.list (nums xs)) o) ((k, p) ∈ g) (Num b y₁ ys) (Is (.list (nums ys)) p) (ys.length ≤ xs.length) (xs.length ≤ 6) (x₁ + y₁ = x + y))) ?_ ?_
  · repeat tb_rel
    refine ⟨fun hc => ?_, fun hc => ?_⟩
    · simp only [decide_eq_true_eq] at hc
      repeat tb_rel
      refine EX_swap (xs := [Str.ofString "a", Str.ofString "b"]) ?_ (by exact rfl) (by exact rfl)
      repeat tb_rel
      refine ⟨by simp, fun t o' ho' => ⟨t, o', _, _, rfl, mem_hd, ho', .cons (by kwd_rel) (.cons (by kwd_rel) .nil), ?_⟩⟩
      repeat tb_rel
      exact ⟨rfl, g, (by kwd_less), rfl, _, _, ys, y, _, _, xs, x, rfl, hm', ny, hi', hm, nx, hi, by tlg_ne, by tlg_ne, by tlg_ne⟩
    · simp only [decide_eq_false_iff_not] at hc
      repeat tb_rel
      exact ⟨rfl, g, (by kwd_less), rfl, _, _, xs, x, _, _, ys, y, rfl, hm, nx, hi, hm', ny, hi', by tlg_ne, by tlg_ne, by tlg_ne⟩
  clear hm hm' nx ny hi hi' hx hy hlx hly
  rintro _ _ ⟨rfl, l, o, xs, x₁, k, p, ys, y₁, rfl, hm, nx, hi, hm', ny, hi', hle, hlx, hxy'⟩
  repeat tb_rel
  refine EX_swap (xs := [Str.ofString "found", Str.ofString "carry", Str.ofString "mask"]) ?_ (by exact rfl) (by exact rfl)
  repeat tb_rel
  rintro r₀ o₀ ho₀
  repeat tb_rel
  refine ⟨by simp, fun t o' ho' => ⟨t, o', _, _, rfl, mem_hd, ho', .cons (by kwd_rel) (.cons (by kwd_rel) (.cons (by kwd_rel) .nil)), ?_⟩⟩
  refine TR.drop (g' := (r₀, o₀) :: g) (by kwd_less) ?_
  repeat tb_rel
  refine EX_range (by dsimp only; k_is) boot_range (by exact rfl) ?_
  repeat tb_rel
  refine ⟨_, _, _, .one _, .inl rfl, by tlg_ne, ?_⟩
  rw [if_pos rfl, show ((ys.length : Int) - 0).toNat = ys.length by tlg_ne]
  refine FORB_rng (fun i loc g' => E4 fun u acc c o₀ => A7 (loc = [(Str.ofString "a", .ref l), (Str.ofString "b", .ref k), (Str.ofString "w", .int (b : Nat)), (Str.ofString "found", .ref r₀), (Str.ofString "carry", .int c), (Str.ofString "mask", .int (2 ^ b - 1)), (Str.ofString "at", u)]) ((r₀, o₀) :: g = g') (Is (.list (nums acc)) o₀) (Dg b acc) (acc.length = i) ((0 ≤ c ∧ c ≤ 1)) (vl b acc + 2 ^ (b * i) * c = vl b (xs.take i) + vl b (ys.take i)))
    ⟨_, [], 0, _, rfl, rfl, ho₀, Dg.nil, rfl, by decide, by simp [vl]⟩ ?_ ?_
  · rintro i _ _ hlt N hN ⟨u, acc, c, o₀, rfl, rfl, ho₀, da, la, hc, hv⟩
    refine ⟨_, .name (by kwd_rel), ?_⟩
    rw [show (0 : Int) + (i : Int) * 1 = (i : Int) by tlg_ne]
    repeat tb_rel
    refine ITEM_num (by tb_start) hi (by tlg_ne) (by tlg_ne) (by tlg_ne) ?_
    repeat tb_rel
    refine ITEM_num (by tb_start) hi' (by tlg_ne) (by tlg_ne) (by tlg_ne) ?_
    repeat tb_rel
    rw [Int.toNat_natCast]
    refine EV_appendN (by tb_start) mem_hd ho₀ ?_ (by decide) (by exact rfl) (by exact rfl)
    repeat tb_rel
    refine ⟨_, _, _, rfl, ho₀, by tlg_ne, fun o₁ ho₁ => ⟨_, by ktd_rel, ?_⟩⟩
    repeat tb_rel
    have dx := nx.1.get i
    have dy := ny.1.get i
    have hd := div_le_one (b := b) (t := c + (xs.getD i 0 + ys.getD i 0)) (by tlg_ne) (by tlg_ne)
    refine ⟨fun _ h => (nomatch h), _, _, _, _, rfl, rfl, ho₁, push_dg da, by simp [la], hd, ?_⟩
    have := push_vl (b := b) (acc := acc) (t := c + (xs.getD i 0 + ys.getD i 0))
    rw [la, Int.mul_add] at this
    rw [this, vl_take_succ b xs i (by tlg_ne), vl_take_succ b ys i (by tlg_ne)]
    rw [Int.mul_add] at this ⊢
    omega
  · rintro _ _ ⟨u, acc, c, o₀, rfl, rfl, ho₀, da, la, hc, hv⟩
    repeat tb_rel
    refine EX_range (by dsimp only; k_is) boot_range (by exact rfl) ?_
    repeat tb_rel
    refine ⟨_, _, _, .two _ _, .inl rfl, by tlg_ne, ?_⟩
    rw [if_pos rfl, show ((xs.length : Int) - (ys.length : Int)).toNat = xs.length - ys.length by tlg_ne]
    rw [List.take_length] at hv
    refine FORB_rng (fun i loc g' => E4 fun u acc c o₀ => A7 (loc = [(Str.ofString "a", .ref l), (Str.ofString "b", .ref k), (Str.ofString "w", .int (b : Nat)), (Str.ofString "found", .ref r₀), (Str.ofString "carry", .int c), (Str.ofString "mask", .int (2 ^ b - 1)), (Str.ofString "at", u)]) ((r₀, o₀) :: g = g') (Is (.list (nums acc)) o₀) (Dg b acc) (acc.length = ys.length + i) ((0 ≤ c ∧ c ≤ 1)) (vl b acc + 2 ^ (b * (ys.length + i)) * c = vl b (xs.take (ys.length + i)) + vl b ys))
      ⟨_, acc, c, _, rfl, rfl, ho₀, da, la, hc, by simpa using hv⟩ ?_ ?_
    · clear hv la da ho₀ hc
      rintro i _ _ hlt N hN ⟨u, acc, c, o₀, rfl, rfl, ho₀, da, la, hc, hv⟩
      refine ⟨_, .name (by kwd_rel), ?_⟩
      rw [show (ys.length : Int) + (i : Int) * 1 = ((ys.length + i : Nat) : Int) by tlg_ne]
      repeat tb_rel
      refine ITEM_num (by tb_start) hi (by tlg_ne) (by tlg_ne) (by tlg_ne) ?_
      repeat tb_rel
      rw [Int.toNat_natCast]
      refine EV_appendN (by tb_start) mem_hd ho₀ ?_ (by decide) (by exact rfl) (by exact rfl)
      repeat tb_rel
      refine ⟨_, _, _, rfl, ho₀, by tlg_ne, fun o₁ ho₁ => ⟨_, by ktd_rel, ?_⟩⟩
      repeat tb_rel
      have dx := nx.1.get (ys.length + i)
      have hd := div_le_one (b := b) (t := c + xs.getD (ys.length + i) 0) (by tlg_ne) (by tlg_ne)
      refine ⟨fun _ h => (nomatch h), _, _, _, _, rfl, rfl, ho₁, push_dg da, by simp [la]; omega, hd, ?_⟩
      have := push_vl (b := b) (acc := acc) (t := c + xs.getD (ys.length + i) 0)
      rw [la] at this
      rw [show ys.length + (i + 1) = ys.length + i + 1 by tlg_ne, this, vl_take_succ b xs (ys.length + i) (by tlg_ne), Int.mul_add]
      omega
    · clear hv la da ho₀ hc
      rintro _ _ ⟨u, acc, c, o₀, rfl, rfl, ho₀, da, la, hc, hv⟩
      rw [show ys.length + (xs.length - ys.length) = xs.length by tlg_ne] at hv la
      rw [List.take_length, nx.2.1, ny.2.1] at hv
      have hxs := last_ge nx.1 nx.2.2
      rw [nx.2.1] at hxs
      repeat tb_rel
      refine ⟨fun h => ?_, fun h => ?_⟩
      · simp only [decide_eq_true_eq] at h
        have hc1 : c = 1 := by tlg_ne
        subst hc1
        repeat tb_rel
        refine EV_appendN (by tb_start) mem_hd ho₀ ?_ (by decide) (by exact rfl) (by exact rfl)
        repeat tb_rel
        refine ⟨_, _, _, rfl, ho₀, by tlg_ne, fun o₁ ho₁ => ⟨_, by ktd_rel, ?_⟩⟩
        repeat tb_rel
        refine endK_ret (q r₀ o₁ ⟨hxy, _, ⟨da.app (Dg.one (by decide) (by have := B_rng hb; omega)), ?_, by simp⟩, ho₁⟩) (by kwd_less)
        rw [vl_app, la]
        simp only [vl]
        omega
      · simp only [decide_eq_false_iff_not] at h
        have hc1 : c = 0 := by tlg_ne
        subst hc1
        repeat tb_rel
        refine endK_ret (q r₀ o₀ ⟨hxy, _, ⟨da, by tlg_ne, ?_⟩, ho₀⟩) (by kwd_less)
        by_cases he : xs = []
        · subst he
          have e := List.eq_nil_of_length_eq_zero (l := acc) (by simpa using la)
          subst e
          simp
        · refine last_of da ?_
          have := hxs he
          rw [la]
          omega
inductive sp_sub (vs : List MV) (g : Gl) (Q : MV → Gl → Prop) : Prop where
  | mk : ∀ b l o k p x y, vs = [.ref l, .ref k, .int (b : Nat)] → (l, o) ∈ g → IsN b x o → (k, p) ∈ g → IsN b y p → (6 ≤ b ∧ b ≤ 8) → y ≤ x → (∀ r q, IsN b (x - y) q → Q (.ref r) ((r, q) :: g)) → sp_sub vs g Q
theorem sub_ok (w : World) : SoundF PR w (hK w.params) 2 98 sp_sub := by
  refine soundF (by k_is) (by k_is) [Str.ofString "a", Str.ofString "b", Str.ofString "w"] [Str.ofString "found", Str.ofString "borrow", Str.ofString "base", Str.ofString "at", Str.ofString "limb"] (by intro s vals h; obtain ⟨_, _, _, rfl⟩ := len3 h; exact BindsTo.of_eq rfl) (by rfl) (by decide) rfl rfl rfl (by decide) ?_
  rintro A L h₀ vs g Q ⟨b, l, o, k, p, x, y, rfl, hm, hx', hm', hy', hb, hxy, q⟩
  refine ⟨rfl, ?_⟩
  simp only [List.zip_cons_cons, List.zip_nil_left, List.cons_append, List.nil_append, List.map_cons, List.map_nil]
  have hx := hx'.1
  have hy := hy'.1
  obtain ⟨_, xs, nx, hi⟩ := id hx'
  obtain ⟨_, ys, ny, hi'⟩ := id hy'
  have hlx := IsN.len hb.1 hx nx
  have hly := IsN.len hb.1 hy ny
  have hp := pos2 b
  repeat tb_rel
  refine compare_ok w _ _ _ _ _ _ _ _ _ (by decide) _ _ _ _ ⟨b, l, o, k, p, x, y, rfl, hm, hx', hm', hy', hb.1, ?_⟩
  repeat tb_rel
  refine ⟨fun hc => ?_, fun hc => ?_⟩
  · exfalso
    simp only [decide_eq_true_eq] at hc
    unfold sgn at hc
    repeat' split at hc
    all_goals omega
  repeat tb_rel
  refine EX_swap (xs := [Str.ofString "found", Str.ofString "borrow", Str.ofString "base"]) ?_ (by exact rfl) (by exact rfl)
  repeat tb_rel
  rintro r₀ o₀ ho₀
  repeat tb_rel
  refine ⟨by simp, fun t o' ho' => ⟨t, o', _, _, rfl, mem_hd, ho', .cons (by kwd_rel) (.cons (by kwd_rel) (.cons (by kwd_rel) .nil)), ?_⟩⟩
  refine TR.drop (g' := (r₀, o₀) :: g) (by kwd_less) ?_
  repeat tb_rel
  refine EX_range (by dsimp only; k_is) boot_range (by exact rfl) ?_
  repeat tb_rel
  refine ⟨_, _, _, .one _, .inl rfl, by tlg_ne, ?_⟩
  rw [if_pos rfl, show ((xs.length : Int) - 0).toNat = xs.length by tlg_ne]
  refine FORB_rng (fun i loc g' => E5 fun u u' acc c o₀ => A7 (loc = [(Str.ofString "a", .ref l), (Str.ofString "b", .ref k), (Str.ofString "w", .int (b : Nat)), (Str.ofString "found", .ref r₀), (Str.ofString "borrow", .int c), (Str.ofString "base", .int (2 ^ b)), (Str.ofString "at", u), (Str.ofString "limb", u')]) ((r₀, o₀) :: g = g') (Is (.list (nums acc)) o₀) (Dg b acc) (acc.length = i) ((0 ≤ c ∧ c ≤ 1)) (vl b acc - 2 ^ (b * i) * c = vl b (xs.take i) - vl b (ys.take i)))
    ⟨_, _, [], 0, _, rfl, rfl, ho₀, Dg.nil, rfl, by decide, by simp [vl]⟩ ?_ ?_
  · rintro i _ _ hlt N hN ⟨u, u', acc, c, o₀, rfl, rfl, ho₀, da, la, hc, hv⟩
    refine ⟨_, .name (by kwd_rel), ?_⟩
    rw [show (0 : Int) + (i : Int) * 1 = (i : Int) by tlg_ne]
    have dx := nx.1.get i
    have dy := ny.1.get i
    repeat tb_rel
    refine ITEM_num (by tb_start) hi (by tlg_ne) (by tlg_ne) (by tlg_ne) ?_
    repeat tb_rel
    rw [Int.toNat_natCast]
    refine EV_val (.int (ys.getD i 0)) ?_ ?_
    · refine EV_ife ?_
      repeat tb_rel
      refine ⟨fun h => ?_, fun h => ?_⟩
      · simp only [decide_eq_true_eq] at h
        repeat tb_rel
        refine ITEM_num (by tb_start) hi' (by tlg_ne) (by tlg_ne) (by tlg_ne) ?_
        exact ⟨rfl, rfl, rfl⟩
      · simp only [decide_eq_false_iff_not] at h
        repeat tb_rel
        exact ⟨by rw [getD_out (by tlg_ne)], rfl, rfl⟩
    obtain ⟨t, ht⟩ : ∃ t, xs.getD i 0 - c - ys.getD i 0 = t := ⟨_, rfl⟩
    repeat tb_rel
    rw [ht]
    refine EV_val (.int (-(t / 2 ^ b))) ?_ ?_
    · refine EV_ife ?_
      repeat tb_rel
      refine ⟨fun h => ?_, fun h => ?_⟩
      · simp only [decide_eq_true_eq] at h
        repeat tb_rel
        exact ⟨by rw [(divmod_neg (by tlg_ne) h hp).2]; rfl, rfl, rfl⟩
      · simp only [decide_eq_false_iff_not] at h
        repeat tb_rel
        exact ⟨by rw [(divmod_pos (t := t) (B := 2 ^ b) (by tlg_ne) (by tlg_ne)).2]; rfl, rfl, rfl⟩
    repeat tb_rel
    refine EV_appendN (by tb_start) mem_hd ho₀ ?_ (by decide) (by exact rfl) (by exact rfl)
    refine EV_val (.int (t % 2 ^ b)) ?_ ?_
    · refine EV_ife ?_
      repeat tb_rel
      refine ⟨fun h => ?_, fun h => ?_⟩
      · simp only [decide_eq_true_eq] at h
        repeat tb_rel
        exact ⟨by rw [(divmod_neg (by tlg_ne) h hp).1], rfl, rfl⟩
      · simp only [decide_eq_false_iff_not] at h
        repeat tb_rel
        exact ⟨by rw [(divmod_pos (t := t) (B := 2 ^ b) (by tlg_ne) (by tlg_ne)).1], rfl, rfl⟩
    refine ⟨_, _, _, rfl, ho₀, by tlg_ne, fun o₁ ho₁ => ⟨_, by ktd_rel, ?_⟩⟩
    repeat tb_rel
    have hq : 0 ≤ -(t / 2 ^ b) ∧ -(t / 2 ^ b) ≤ 1 := by
      by_cases h : t < 0
      · rw [(divmod_neg (by tlg_ne) h hp).2]; decide
      · rw [(divmod_pos (t := t) (B := 2 ^ b) (by tlg_ne) (by tlg_ne)).2]; decide
    refine ⟨fun _ h => (nomatch h), _, _, _, _, _, rfl, rfl, ho₁, push_dg da, by simp [la], hq, ?_⟩
    have := push_vl (b := b) (acc := acc) (t := t)
    rw [la] at this
    rw [vl_take_any b xs i, vl_take_any b ys i, Int.mul_neg]
    rw [← ht] at this ⊢
    rw [Int.mul_sub, Int.mul_sub] at this
    omega
  · rintro _ _ ⟨u, u', acc, c, o₀, rfl, rfl, ho₀, da, la, hc, hv⟩
    have hle : ys.length ≤ xs.length := Nat.le_of_not_lt fun h => by have := len_lt nx ny h; omega
    rw [List.take_length, List.take_of_length_le hle, nx.2.1, ny.2.1] at hv
    repeat tb_rel
    refine normal_ok w _ _ _ _ _ _ _ _ _ (by decide) _ _ _ _ ⟨r₀, o₀, acc, rfl, mem_hd, ho₀, by tlg_ne, fun r o ho => ?_⟩
    repeat tb_rel
    refine endK_ret (q r o ⟨by tlg_ne, _, strip_num da ?_, ho⟩) (by kwd_less)
    have h1 := vl_nonneg da
    have h2 := vl_lt da
    rw [la] at h2
    have hc0 : c = 0 := by
      rcases (by tlg_ne : c = 0 ∨ c = 1) with h | h
      · exact h
      · subst h; omega
    subst hc0
    omega
-- part F3
inductive sp_lifted (vs : List MV) (g : Gl) (Q : MV → Gl → Prop) : Prop where
  | mk : ∀ b l o x s, vs = [.ref l, .int (s : Nat)] → (l, o) ∈ g → IsN b x o → 6 ≤ b → s ≤ 100 → x * 2 ^ (b * s) < 2 ^ 32 → (∀ r q, IsN b (x * 2 ^ (b * s)) q → Q (.ref r) ((r, q) :: g)) → sp_lifted vs g Q
theorem lifted_ok (w : World) : SoundF PR w (hK w.params) 1 105 sp_lifted := by
  refine soundF (by k_is) (by k_is) [Str.ofString "a", Str.ofString "spot"] [] (by intro s vals h; obtain ⟨_, _, rfl⟩ := len2 h; exact BindsTo.of_eq rfl) (by rfl) (by decide) rfl rfl rfl (by decide) ?_
  rintro A L h₀ vs g Q ⟨b, l, o, x, s, rfl, hm, ⟨hx, xs, nx, hi⟩, hb, hs, hz, q⟩
  refine ⟨rfl, ?_⟩
  simp only [List.zip_cons_cons, List.zip_nil_left, List.cons_append, List.nil_append, List.map_cons, List.map_nil]
  have hlx := IsN.len hb hx nx
  repeat tb_rel
  refine EV_ife ?_
  repeat tb_rel
  refine ⟨fun hc => ?_, fun hc => ?_⟩
  · simp only [decide_eq_true_eq] at hc
    repeat tb_rel
    refine EV_one ?_
    repeat tb_rel
    rintro r₁ o₁ h₁
    repeat tb_rel
    refine BIN_repN mem_hd h₁ (by tlg_ne) (by tlg_ne) fun r₂ o₂ h₂ => ?_
    repeat tb_rel
    refine BIN_catN mem_hd h₂ (by tb_start) hi (by simp; omega) fun r₃ o₃ h₃ => ?_
    repeat tb_rel
    refine endK_ret (q r₃ o₃ ⟨hz, _, num_lift nx (nx.pos' (by tlg_ne)), h₃⟩) (by kwd_less)
  · simp only [decide_eq_false_iff_not] at hc
    repeat tb_rel
    rintro r₁ o₁ h₁
    repeat tb_rel
    refine endK_ret (q r₁ o₁ ⟨hz, _, ?_, h₁⟩) (by kwd_less)
    rw [nx.nil_iff.mp (by tlg_ne), Nat.zero_mul]
    exact Num.nil
inductive sp_add_at (vs : List MV) (g : Gl) (Q : MV → Gl → Prop) : Prop where
  | mk : ∀ b l o k p x y s, vs = [.ref l, .ref k, .int (s : Nat), .int (b : Nat)] → (l, o) ∈ g → IsN b x o → (k, p) ∈ g → IsN b y p → (6 ≤ b ∧ b ≤ 8) → s ≤ 100 → x + y * 2 ^ (b * s) < 2 ^ 32 → (∀ r q, IsN b (x + y * 2 ^ (b * s)) q → Q (.ref r) ((r, q) :: g)) → sp_add_at vs g Q
theorem add_at_ok (w : World) : SoundF PR w (hK w.params) 2 112 sp_add_at := by
  refine soundF (by k_is) (by k_is) [Str.ofString "a", Str.ofString "b", Str.ofString "spot", Str.ofString "w"] [] (by intro s vals h; obtain ⟨_, _, _, _, rfl⟩ := len4 h; exact BindsTo.of_eq rfl) (by rfl) (by decide) rfl rfl rfl (by decide) ?_
  rintro A L h₀ vs g Q ⟨b, l, o, k, p, x, y, s, rfl, hm, hxx, hm', hyy, hb, hs, hz, q⟩
  refine ⟨rfl, ?_⟩
  simp only [List.zip_cons_cons, List.zip_nil_left, List.cons_append, List.nil_append, List.map_cons, List.map_nil]
  obtain ⟨hx, xs, nx, hi⟩ := id hxx
  obtain ⟨hy, ys, ny, hi'⟩ := id hyy
  have hlx := IsN.len hb.1 hx nx
  have hly := IsN.len hb.1 hy ny
  repeat tb_rel
  refine ⟨fun hc => ?_, fun hc => ?_⟩
  · simp only [decide_eq_true_eq] at hc
    repeat tb_rel
    refine ⟨l, o, xs, none, none, rfl, hm, hi, by tlg_ne, .none, .none, fun r₁ o₁ h₁ => ?_⟩
    repeat tb_rel
    rw [pickN_all] at h₁
    refine endK_ret (q r₁ o₁ ⟨hz, _, ?_, h₁⟩) (by kwd_less)
    rw [ny.nil_iff.mp (by tlg_ne), Nat.zero_mul]
    exact nx
  simp only [decide_eq_false_iff_not] at hc
  have hy0 := ny.pos' (by tlg_ne)
  repeat tb_rel
  refine ⟨fun hd => ?_, fun hd => ?_⟩
  · simp only [decide_eq_true_eq] at hd
    repeat tb_rel
    refine EV_one ?_
    repeat tb_rel
    rintro r₁ o₁ h₁
    repeat tb_rel
    refine BIN_repN mem_hd h₁ (by tlg_ne) (by tlg_ne) fun r₂ o₂ h₂ => ?_
    repeat tb_rel
    refine BIN_catN (by tb_start) hi mem_hd h₂ (by simp; omega) fun r₃ o₃ h₃ => ?_
    repeat tb_rel
    refine BIN_catN mem_hd h₃ (by tb_start) hi' (by simp; omega) fun r₄ o₄ h₄ => ?_
    repeat tb_rel
    refine endK_ret (q r₄ o₄ ⟨hz, _, ?_, h₄⟩) (by kwd_less)
    have hn : (((s : Nat) : Int) - ((xs.length : Nat) : Int)).toNat = s - xs.length := by tlg_ne
    rw [hn]
    have := num_glue (b := b) (t := x) (ts := xs ++ List.replicate (s - xs.length) 0) (nx.1.app Dg.rep) (by rw [vl_app, vl_rep, nx.2.1]; omega) ny hy0
    rw [List.length_append, List.length_replicate, show xs.length + (s - xs.length) = s by tlg_ne] at this
    exact this
  · simp only [decide_eq_false_iff_not] at hd
    repeat tb_rel
    refine ⟨l, o, xs, none, some (s : Int), rfl, hm, hi, by tlg_ne, .none, .int _, fun r₁ o₁ h₁ => ?_⟩
    rw [pickN_upto _ _ (by tlg_ne), Int.toNat_natCast] at h₁
    repeat tb_rel
    refine ⟨l, o, xs, some (s : Int), none, rfl, by tb_start, hi, by tlg_ne, .int _, .none, fun r₂ o₂ h₂ => ?_⟩
    rw [pickN_from _ _ (by tlg_ne), Int.toNat_natCast] at h₂
    have hP : 0 < 2 ^ (b * s) := Nat.two_pow_pos _
    have h1 : x / 2 ^ (b * s) ≤ x := Nat.div_le_self _ _
    have h2 : y ≤ y * 2 ^ (b * s) := Nat.le_mul_of_pos_right _ hP
    repeat tb_rel
    refine add_ok w _ _ _ _ _ _ _ _ _ (by decide) _ _ _ _ ⟨b, r₂, o₂, k, p, _, y, rfl, mem_hd, ⟨by tlg_ne, _, nx.drop s, h₂⟩, by tb_start, hyy, hb, by tlg_ne, fun r₃ o₃ h₃ => ?_⟩
    obtain ⟨hz3, zs, nz, h₃⟩ := h₃
    have hlz := IsN.len hb.1 hz3 nz
    repeat tb_rel
    refine BIN_catN (by tb_start) h₁ mem_hd h₃ (by simp; omega) fun r₄ o₄ h₄ => ?_
    repeat tb_rel
    refine endK_ret (q r₄ o₄ ⟨hz, _, ?_, h₄⟩) (by kwd_less)
    have := num_glue (b := b) (nx.1.take s) (vl_take_mod nx s) nz (Nat.lt_of_lt_of_le hy0 (Nat.le_add_left _ _))
    rw [List.length_take, Nat.min_eq_left (by tlg_ne)] at this
    have e : x % 2 ^ (b * s) + (x / 2 ^ (b * s) + y) * 2 ^ (b * s) = x + y * 2 ^ (b * s) := by
      rw [Nat.add_mul, ← Nat.add_assoc, Nat.mul_comm (x / _), Nat.mod_add_div]
    rw [e] at this
    exact this
inductive sp_divrem_limb (vs : List MV) (g : Gl) (Q : MV → Gl → Prop) : Prop where
  | mk : ∀ b l o x d, vs = [.ref l, .int (d : Nat), .int (b : Nat)] → (l, o) ∈ g → IsN b x o → (6 ≤ b ∧ b ≤ 8) → 0 < d → d < 2 ^ b → (∀ r q t o', IsN b (x / d) q → Is (.tup [.ref r, .int ((x % d : Nat) : Int)]) o' → Q (.ref t) ((t, o') :: (r, q) :: g)) → sp_divrem_limb vs g Q
theorem divrem_limb_ok (w : World) : SoundF PR w (hK w.params) 2 119 sp_divrem_limb := by
  refine soundF (by k_is) (by k_is) [Str.ofString "a", Str.ofString "limb", Str.ofString "w"] [Str.ofString "found", Str.ofString "rest", Str.ofString "at"] (by intro s vals h; obtain ⟨_, _, _, rfl⟩ := len3 h; exact BindsTo.of_eq rfl) (by rfl) (by decide) rfl rfl rfl (by decide) ?_
  rintro A L h₀ vs g Q ⟨b, l, o, x, d, rfl, hm, ⟨hx, xs, nx, hi⟩, hb, hd0, hd, q⟩
  refine ⟨rfl, ?_⟩
  simp only [List.zip_cons_cons, List.zip_nil_left, List.cons_append, List.nil_append, List.map_cons, List.map_nil]
  have hlx := IsN.len hb.1 hx nx
  have hB := B_rng hb
  have hBN := BN_rng hb
  have hdB : (d : Int) < 2 ^ b := by rw [← pow_two_nat]; omega
  repeat tb_rel
  refine ⟨fun hc => ?_, fun _ => ?_⟩
  · simp only [decide_eq_true_eq] at hc
    omega
  repeat tb_rel
  refine EX_swap (xs := [Str.ofString "found", Str.ofString "rest"]) ?_ (by exact rfl) (by exact rfl)
  repeat tb_rel
  refine EV_one ?_
  repeat tb_rel
  rintro r₁ o₁ h₁
  repeat tb_rel
  refine BIN_repN mem_hd h₁ (by tlg_ne) (by tlg_ne) fun r₀ o₀ ho₀ => ?_
  rw [Int.toNat_natCast] at ho₀
  repeat tb_rel
  refine ⟨by simp, fun t o' ho' => ⟨t, o', _, _, rfl, mem_hd, ho', .cons (by kwd_rel) (.cons (by kwd_rel) .nil), ?_⟩⟩
  refine TR.drop (g' := (r₀, o₀) :: g) (by kwd_less) ?_
  repeat tb_rel
  refine EX_range (by dsimp only; k_is) boot_range (by exact rfl) ?_
  repeat tb_rel
  refine ⟨_, _, _, .three _ _ _, .inr rfl, by tlg_ne, ?_⟩
  rw [if_neg (by decide), show ((xs.length : Int) - 1 - -1).toNat = xs.length by tlg_ne]
  refine FORB_rng (fun i loc g' => E4 fun u F R o₀ => A7 (loc = [(Str.ofString "a", .ref l), (Str.ofString "limb", .int (d : Nat)), (Str.ofString "w", .int (b : Nat)), (Str.ofString "found", .ref r₀), (Str.ofString "rest", .int R), (Str.ofString "at", u)]) ((r₀, o₀) :: g = g') (Is (.list (nums F)) o₀) (Dg b F) (F.length = xs.length) ((0 ≤ R ∧ R < d)) (vl b (xs.drop (xs.length - i)) = d * vl b (F.drop (xs.length - i)) + R))
    ⟨_, _, 0, _, rfl, rfl, ho₀, Dg.rep, by simp, by tlg_ne, by simp [vl]⟩ ?_ ?_
  · rintro i _ _ hlt N hN ⟨u, F, R, o₀, rfl, rfl, ho₀, dF, lF, hR, hv⟩
    refine ⟨_, .name (by kwd_rel), ?_⟩
    obtain ⟨j, hj⟩ : ∃ j, xs.length - i = j + 1 := ⟨xs.length - i - 1, by tlg_ne⟩
    rw [show (xs.length : Int) - 1 + (i : Int) * -1 = (j : Int) by tlg_ne]
    have dx := nx.1.get j
    repeat tb_rel
    refine BIN_shlN (by tlg_ne) (by tlg_ne) (by tlg_ne) ?_
    repeat tb_rel
    refine ITEM_num (by tb_start) hi (by tlg_ne) (by tlg_ne) (by tlg_ne) ?_
    repeat tb_rel
    rw [Int.toNat_natCast]
    refine BIN_orN (by tlg_ne) dx.1 dx.2 ?_
    repeat tb_rel
    refine EX_setN ?_
    repeat tb_rel
    refine BIN_div (by tlg_ne) (by tlg_ne) ?_
    repeat tb_rel
    refine ⟨_, _, _, _, _, rfl, rfl, rfl, ho₀, by tlg_ne, fun o₁ ho₁ => ⟨_, by ktd_rel, ?_⟩⟩
    rw [Int.toNat_natCast] at ho₁
    repeat tb_rel
    refine IOP_mod (by tlg_ne) ?_
    repeat tb_rel
    have hq := long_digit (pos2 b) hR.1 hR.2 dx.1 dx.2
    refine ⟨fun _ h => (nomatch h), _, _, _, _, rfl, rfl, ho₁, dF.set hq.1 hq.2, by simp [lF], ⟨Int.emod_nonneg _ (by tlg_ne), Int.emod_lt_of_pos _ (by tlg_ne)⟩, ?_⟩
    rw [show xs.length - (i + 1) = j by tlg_ne, drop_set (by tlg_ne), vl_drop_cons (by tlg_ne)]
    rw [hj] at hv
    exact long_step hv
  · rintro _ _ ⟨u, F, R, o₀, rfl, rfl, ho₀, dF, lF, hR, hv⟩
    rw [Nat.sub_self, List.drop_zero, List.drop_zero, nx.2.1] at hv
    obtain ⟨hq, hr⟩ := divmod_of hv hR.1 hR.2
    subst hr
    repeat tb_rel
    refine normal_ok w _ _ _ _ _ _ _ _ _ (by decide) _ _ _ _ ⟨r₀, o₀, F, rfl, mem_hd, ho₀, by tlg_ne, fun r₁ o₁ h₁ => ?_⟩
    repeat tb_rel
    refine ⟨by simp, fun t o' ho' => ?_⟩
    repeat tb_rel
    refine endK_ret (q r₁ o₁ t o' ⟨Nat.lt_of_le_of_lt (Nat.div_le_self _ _) hx, _, strip_num dF hq, h₁⟩ ho') (by kwd_less)
inductive sp_shift_left (vs : List MV) (g : Gl) (Q : MV → Gl → Prop) : Prop where
  | mk : ∀ b l o x n, vs = [.ref l, .int (n : Nat), .int (b : Nat)] → (l, o) ∈ g → IsN b x o → (6 ≤ b ∧ b ≤ 8) → n < b → x * 2 ^ n < 2 ^ 32 → (∀ r q, IsN b (x * 2 ^ n) q → Q (.ref r) ((r, q) :: g)) → sp_shift_left vs g Q
theorem shift_left_ok (w : World) : SoundF PR w (hK w.params) 1 126 sp_shift_left := by
  refine soundF (by k_is) (by k_is) [Str.ofString "a", Str.ofString "n", Str.ofString "w"] [Str.ofString "spots", Str.ofString "few", Str.ofString "found", Str.ofString "carry", Str.ofString "mask", Str.ofString "one"] (by intro s vals h; obtain ⟨_, _, _, rfl⟩ := len3 h; exact BindsTo.of_eq rfl) (by rfl) (by decide) rfl rfl rfl (by decide) ?_
  rintro A L h₀ vs g Q ⟨b, l, o, x, n, rfl, hm, ⟨hx, xs, nx, hi⟩, hb, hn, hz, q⟩
  refine ⟨rfl, ?_⟩
  simp only [List.zip_cons_cons, List.zip_nil_left, List.cons_append, List.nil_append, List.map_cons, List.map_nil]
  have hlx := IsN.len hb.1 hx nx
  have hB := B_rng hb
  have hN := pos2 n
  have hNB : (2 : Int) ^ n < 2 ^ b := by rw [← pow_two_nat, ← pow_two_nat]; have := Nat.pow_lt_pow_right (a := 2) (by decide) hn; omega
  repeat tb_rel
  refine ⟨fun hc => ?_, fun hc => ?_⟩
  · simp only [decide_eq_true_eq] at hc
    repeat tb_rel
    rintro r₁ o₁ h₁
    repeat tb_rel
    refine endK_ret (q r₁ o₁ ⟨hz, _, ?_, h₁⟩) (by kwd_less)
    rw [nx.nil_iff.mp (by tlg_ne), Nat.zero_mul]
    exact Num.nil
  simp only [decide_eq_false_iff_not] at hc
  have hx0 := nx.pos' (by tlg_ne)
  repeat tb_rel
  refine EX_swap (xs := [Str.ofString "spots", Str.ofString "few"]) ?_ (by exact rfl) (by exact rfl)
  repeat tb_rel
  refine BIN_div0 hn (by tlg_ne) ?_
  repeat tb_rel
  refine BIN_mod0 hn (by tlg_ne) ?_
  repeat tb_rel
  refine ⟨by simp, fun t o' ho' => ⟨t, o', _, _, rfl, mem_hd, ho', .cons (by kwd_rel) (.cons (by kwd_rel) .nil), ?_⟩⟩
  refine TR.drop (g' := g) (by kwd_less) ?_
  repeat tb_rel
  refine EX_swap (xs := [Str.ofString "found", Str.ofString "carry", Str.ofString "mask"]) ?_ (by exact rfl) (by exact rfl)
  repeat tb_rel
  refine EV_one ?_
  repeat tb_rel
  rintro r₁ o₁ h₁
  repeat tb_rel
  refine BIN_repN mem_hd h₁ (by tlg_ne) (by tlg_ne) fun r₀ o₀ ho₀ => ?_
  repeat tb_rel
  refine ⟨by simp, fun t o' ho' => ⟨t, o', _, _, rfl, mem_hd, ho', .cons (by kwd_rel) (.cons (by kwd_rel) (.cons (by kwd_rel) .nil)), ?_⟩⟩
  refine TR.drop (g' := (r₀, o₀) :: g) (by kwd_less) ?_
  repeat tb_rel
  refine EX_forlist ?_
  repeat tb_rel
  refine ⟨l, o, _, rfl, by tb_start, hi, ?_⟩
  refine FORB_nums (fun i loc g' => E4 fun u acc c o₀ => A7 (loc = [(Str.ofString "a", .ref l), (Str.ofString "n", .int (n : Nat)), (Str.ofString "w", .int (b : Nat)), (Str.ofString "spots", .int 0), (Str.ofString "few", .int (n : Nat)), (Str.ofString "found", .ref r₀), (Str.ofString "carry", .int c), (Str.ofString "mask", .int (2 ^ b - 1)), (Str.ofString "one", u)]) ((r₀, o₀) :: g = g') (Is (.list (nums acc)) o₀) (Dg b acc) (acc.length = i) ((0 ≤ c ∧ c < 2 ^ n)) (vl b acc + 2 ^ (b * i) * c = 2 ^ n * vl b (xs.take i)))
    ⟨_, [], 0, _, rfl, rfl, ho₀, Dg.nil, rfl, by tlg_ne, by simp [vl]⟩ ?_ ?_
  · rintro i _ _ hlt N hN ⟨u, acc, c, o₀, rfl, rfl, ho₀, da, la, hc, hv⟩
    refine ⟨_, .name (by kwd_rel), ?_⟩
    have dx := nx.1.get i
    repeat tb_rel
    refine BIN_shlN (by tlg_ne) (by tlg_ne) (by tlg_ne) ?_
    repeat tb_rel
    refine IOP_orN dx.1 hc.1 hc.2 ?_
    repeat tb_rel
    refine EV_appendN (by tb_start) mem_hd ho₀ ?_ (by decide) (by exact rfl) (by exact rfl)
    repeat tb_rel
    refine ⟨_, _, _, rfl, ho₀, by tlg_ne, fun o₁ ho₁ => ⟨_, by ktd_rel, ?_⟩⟩
    repeat tb_rel
    have hs := shl_step (pos2 b) hc.1 hc.2 dx.1 dx.2
    refine ⟨fun p hp => by rw [List.mem_singleton.mp hp]; tb_start, _, _, _, _, rfl, rfl, ho₁, push_dg da, by simp [la], hs, ?_⟩
    have := push_vl (b := b) (acc := acc) (t := c + xs.getD i 0 * 2 ^ n)
    rw [la, Int.mul_add] at this
    rw [this, vl_take_succ b xs i (by tlg_ne), Int.mul_add, Int.mul_left_comm (2 ^ n) (2 ^ (b * i)), Int.mul_comm (2 ^ n) (xs.getD i 0)]
    omega
  · rintro _ _ ⟨u, acc, c, o₀, rfl, rfl, ho₀, da, la, hc, hv⟩
    rw [List.take_length, nx.2.1] at hv
    repeat tb_rel
    refine ⟨fun h => ?_, fun h => ?_⟩
    · simp only [decide_eq_true_eq] at h
      repeat tb_rel
      refine EV_appendN (by tb_start) mem_hd ho₀ ?_ (by decide) (by exact rfl) (by exact rfl)
      repeat tb_rel
      refine ⟨_, _, _, rfl, ho₀, by tlg_ne, fun o₁ ho₁ => ⟨_, by ktd_rel, ?_⟩⟩
      repeat tb_rel
      refine endK_ret (q r₀ o₁ ⟨hz, _, ⟨da.app (Dg.one (by tlg_ne) (by tlg_ne)), ?_, by simp; omega⟩, ho₁⟩) (by kwd_less)
      rw [vl_app, la]
      simp only [vl, Int.mul_zero, Int.add_zero]
      push_cast
      rw [Int.mul_comm (x : Int)]
      omega
    · simp only [decide_eq_false_iff_not] at h
      have hc1 : c = 0 := by tlg_ne
      subst hc1
      repeat tb_rel
      refine endK_ret (q r₀ o₀ ⟨hz, _, ⟨da, ?_, ?_⟩, ho₀⟩) (by kwd_less)
      · push_cast
        rw [Int.mul_comm (x : Int)]
        omega
      · refine last_of da ?_
        have h1 := last_ge nx.1 nx.2.2 (by intro e; subst e; exact absurd (nx.2.1) (by simp [vl]; omega))
        rw [nx.2.1] at h1
        rw [la]
        have : (1 : Int) * x ≤ 2 ^ n * x := Int.mul_le_mul_of_nonneg_right (by tlg_ne) (by tlg_ne)
        omega
inductive sp_shift_right (vs : List MV) (g : Gl) (Q : MV → Gl → Prop) : Prop where
  | mk : ∀ b l o x n, vs = [.ref l, .int (n : Nat), .int (b : Nat)] → (l, o) ∈ g → IsN b x o → (6 ≤ b ∧ b ≤ 8) → n < b → 0 < x → x < 2 ^ b → (∀ r q, IsN b (x / 2 ^ n) q → Q (.ref r) ((r, q) :: g)) → sp_shift_right vs g Q
theorem shift_right_ok (w : World) : SoundF PR w (hK w.params) 2 133 sp_shift_right := by
  refine soundF (by k_is) (by k_is) [Str.ofString "a", Str.ofString "n", Str.ofString "w"] [Str.ofString "spots", Str.ofString "few", Str.ofString "found", Str.ofString "mask", Str.ofString "at", Str.ofString "above"] (by intro s vals h; obtain ⟨_, _, _, rfl⟩ := len3 h; exact BindsTo.of_eq rfl) (by rfl) (by decide) rfl rfl rfl (by decide) ?_
  rintro A L h₀ vs g Q ⟨b, l, o, x, n, rfl, hm, ⟨hx, xs, nx, hi⟩, hb, hn, hx0, hxB, q⟩
  refine ⟨rfl, ?_⟩
  simp only [List.zip_cons_cons, List.zip_nil_left, List.cons_append, List.nil_append, List.map_cons, List.map_nil]
  have hB := B_rng hb
  obtain rfl := nx.one_limb hx0 hxB
  have hxI : (x : Int) < 2 ^ b := by rw [← pow_two_nat]; omega
  have hle : x / 2 ^ n ≤ x := Nat.div_le_self _ _
  have hdv : (x : Int) / 2 ^ n = ((x / 2 ^ n : Nat) : Int) := by push_cast; rfl
  have hd0 : 0 ≤ (x : Int) / 2 ^ n := by rw [hdv]; exact Int.natCast_nonneg _
  have hd1 : (x : Int) / 2 ^ n < 2 ^ b := by rw [hdv]; have : ((x / 2 ^ n : Nat) : Int) ≤ x := Int.ofNat_le.mpr hle; exact Int.lt_of_le_of_lt this hxI
  repeat tb_rel
  refine EX_swap (xs := [Str.ofString "spots", Str.ofString "few"]) ?_ (by exact rfl) (by exact rfl)
  repeat tb_rel
  refine BIN_div0 hn (by tlg_ne) ?_
  repeat tb_rel
  refine BIN_mod0 hn (by tlg_ne) ?_
  repeat tb_rel
  refine ⟨by simp, fun t o' ho' => ⟨t, o', _, _, rfl, mem_hd, ho', .cons (by kwd_rel) (.cons (by kwd_rel) .nil), ?_⟩⟩
  refine TR.drop (g' := g) (by kwd_less) ?_
  repeat tb_rel
  refine EX_swap (xs := [Str.ofString "found", Str.ofString "mask"]) ?_ (by exact rfl) (by exact rfl)
  repeat tb_rel
  rintro r₀ o₀ ho₀
  repeat tb_rel
  refine ⟨by simp, fun t o' ho' => ⟨t, o', _, _, rfl, mem_hd, ho', .cons (by kwd_rel) (.cons (by kwd_rel) .nil), ?_⟩⟩
  refine TR.drop (g' := (r₀, o₀) :: g) (by kwd_less) ?_
  repeat tb_rel
  refine EX_range (by dsimp only; k_is) boot_range (by exact rfl) ?_
  repeat tb_rel
  refine ⟨_, _, _, .two _ _, .inl rfl, by simp, ?_⟩
  refine FORB_one fun N hN => ⟨_, .name (by kwd_rel), ?_⟩
  repeat tb_rel
  refine EV_ife ?_
  repeat tb_rel
  refine ⟨fun hc => absurd hc (by simp), fun _ => ?_⟩
  repeat tb_rel
  refine EV_appendN (by tb_start) mem_hd ho₀ ?_ (by decide) (by exact rfl) (by exact rfl)
  repeat tb_rel
  refine ITEM_num (by tb_start) hi (by tlg_ne) (by simp) (by simp) ?_
  repeat tb_rel
  rw [show (b : Int) - n = ((b - n : Nat) : Int) by tlg_ne]
  refine BIN_shlN (by tlg_ne) (by tlg_ne) (by tlg_ne) ?_
  refine BIN_or ?_
  rw [Int.zero_mul, show [(x : Int)].getD (0 : Int).toNat 0 = (x : Int) from rfl, hdv, bitOr_zero (by tlg_ne)]
  repeat tb_rel
  rw [Int.emod_eq_of_lt (by tlg_ne) (by tlg_ne)]
  refine ⟨_, _, _, rfl, ho₀, by simp, fun o₁ ho₁ => ⟨_, by ktd_rel, ?_⟩⟩
  repeat tb_rel
  refine ⟨fun _ h => (nomatch h), ?_⟩
  repeat tb_rel
  refine normal_ok w _ _ _ _ _ _ _ _ _ (by decide) _ _ _ _ ⟨r₀, o₁, _, rfl, mem_hd, ho₁, by simp, fun r₁ o₁ h₁ => ?_⟩
  repeat tb_rel
  refine endK_ret (q r₁ o₁ ⟨by tlg_ne, _, strip_num (Dg.one (by tlg_ne) (by tlg_ne)) (by simp [vl]), h₁⟩) (by kwd_less)
inductive sp_bits (vs : List MV) (g : Gl) (Q : MV → Gl → Prop) : Prop where
  | mk : ∀ b l o x, vs = [.ref l, .int (b : Nat)] → (l, o) ∈ g → IsN b x o → (6 ≤ b ∧ b ≤ 8) → x < 2 ^ b → Q (.int (Builtin.Int.intBits (x : Int) : Nat)) g → sp_bits vs g Q
theorem bits_ok (w : World) : SoundF PR w (hK w.params) 1 140 sp_bits := by
  refine soundF (by k_is) (by k_is) [Str.ofString "a", Str.ofString "w"] [] (by intro s vals h; obtain ⟨_, _, rfl⟩ := len2 h; exact BindsTo.of_eq rfl) (by rfl) (by decide) rfl rfl rfl (by decide) ?_
  rintro A L h₀ vs g Q ⟨b, l, o, x, rfl, hm, ⟨hx, xs, nx, hi⟩, hb, hxB, q⟩
  refine ⟨rfl, ?_⟩
  simp only [List.zip_cons_cons, List.zip_nil_left, List.cons_append, List.nil_append, List.map_cons, List.map_nil]
  have hlx := IsN.len hb.1 hx nx
  have hB := B_rng hb
  repeat tb_rel
  refine EV_ife ?_
  repeat tb_rel
  refine ⟨fun hc => ?_, fun hc => ?_⟩
  · simp only [decide_eq_true_eq] at hc
    obtain rfl := nx.one_limb (nx.pos' (by tlg_ne)) hxB
    repeat tb_rel
    refine BIN_mul (by simp) (by simp) ?_
    repeat tb_rel
    refine ITEM_last hm hi (by simp) (by simp) ?_
    repeat tb_rel
    refine endK_ret ?_ (by kwd_less)
    rw [show (([(x : Int)].length : Nat) : Int) - 1 = 0 from rfl, Int.zero_mul, Int.zero_add]
    exact q
  · simp only [decide_eq_false_iff_not] at hc
    repeat tb_rel
    refine endK_ret ?_ (by kwd_less)
    obtain rfl := nx.nil_iff.mp (by tlg_ne)
    exact q
inductive sp_bit (vs : List MV) (g : Gl) (Q : MV → Gl → Prop) : Prop where
  | mk : ∀ b l o x n, vs = [.ref l, .int (n : Nat), .int (b : Nat)] → (l, o) ∈ g → IsN b x o → (6 ≤ b ∧ b ≤ 8) → x < 2 ^ b → n < b → Q (.int ((x / 2 ^ n % 2 : Nat) : Int)) g → sp_bit vs g Q
theorem bit_ok (w : World) : SoundF PR w (hK w.params) 1 147 sp_bit := by
  refine soundF (by k_is) (by k_is) [Str.ofString "a", Str.ofString "n", Str.ofString "w"] [] (by intro s vals h; obtain ⟨_, _, _, rfl⟩ := len3 h; exact BindsTo.of_eq rfl) (by rfl) (by decide) rfl rfl rfl (by decide) ?_
  rintro A L h₀ vs g Q ⟨b, l, o, x, n, rfl, hm, ⟨hx, xs, nx, hi⟩, hb, hxB, hn, q⟩
  refine ⟨rfl, ?_⟩
  simp only [List.zip_cons_cons, List.zip_nil_left, List.cons_append, List.nil_append, List.map_cons, List.map_nil]
  have hlx := IsN.len hb.1 hx nx
  have hB := B_rng hb
  repeat tb_rel
  refine EV_ife ?_
  repeat tb_rel
  refine BIN_div0 hn (by tlg_ne) ?_
  repeat tb_rel
  refine ⟨fun hc => ?_, fun hc => ?_⟩
  · simp only [decide_eq_true_eq] at hc
    obtain rfl := nx.one_limb (nx.pos' (by tlg_ne)) hxB
    repeat tb_rel
    refine BIN_div0 hn (by tlg_ne) ?_
    refine ITEM_num hm hi (by tlg_ne) (by simp) (by simp) ?_
    repeat tb_rel
    refine BIN_mod0 hn (by tlg_ne) ?_
    repeat tb_rel
    refine endK_ret ?_ (by kwd_less)
    push_cast at q
    exact q
  · simp only [decide_eq_false_iff_not] at hc
    repeat tb_rel
    refine endK_ret ?_ (by kwd_less)
    obtain rfl := nx.nil_iff.mp (by tlg_ne)
    simp at q
    exact q
inductive sp_low (vs : List MV) (g : Gl) (Q : MV → Gl → Prop) : Prop where
  | mk : ∀ b l o x n, vs = [.ref l, .int (n : Nat), .int (b : Nat)] → (l, o) ∈ g → IsN b x o → (6 ≤ b ∧ b ≤ 8) → n < b → (∀ r q, IsN b (x % 2 ^ n) q → Q (.ref r) ((r, q) :: g)) → sp_low vs g Q
theorem low_ok (w : World) : SoundF PR w (hK w.params) 2 154 sp_low := by
  refine soundF (by k_is) (by k_is) [Str.ofString "a", Str.ofString "n", Str.ofString "w"] [Str.ofString "spots", Str.ofString "few"] (by intro s vals h; obtain ⟨_, _, _, rfl⟩ := len3 h; exact BindsTo.of_eq rfl) (by rfl) (by decide) rfl rfl rfl (by decide) ?_
  rintro A L h₀ vs g Q ⟨b, l, o, x, n, rfl, hm, ⟨hx, xs, nx, hi⟩, hb, hn, q⟩
  refine ⟨rfl, ?_⟩
  simp only [List.zip_cons_cons, List.zip_nil_left, List.cons_append, List.nil_append, List.map_cons, List.map_nil]
  have hlx := IsN.len hb.1 hx nx
  have hB := B_rng hb
  repeat tb_rel
  refine EX_swap (xs := [Str.ofString "spots", Str.ofString "few"]) ?_ (by exact rfl) (by exact rfl)
  repeat tb_rel
  refine BIN_div0 hn (by tlg_ne) ?_
  repeat tb_rel
  refine BIN_mod0 hn (by tlg_ne) ?_
  repeat tb_rel
  refine ⟨by simp, fun t o' ho' => ⟨t, o', _, _, rfl, mem_hd, ho', .cons (by kwd_rel) (.cons (by kwd_rel) .nil), ?_⟩⟩
  refine TR.drop (g' := g) (by kwd_less) ?_
  repeat tb_rel
  have hz : x % 2 ^ n < 2 ^ 32 := Nat.lt_of_le_of_lt (Nat.mod_le _ _) hx
  refine ⟨fun hc => ?_, fun hc => ?_⟩
  · simp only [decide_eq_true_eq] at hc
    repeat tb_rel
    refine ⟨l, o, xs, none, none, rfl, hm, hi, by tlg_ne, .none, .none, fun r₁ o₁ h₁ => ?_⟩
    repeat tb_rel
    rw [pickN_all] at h₁
    refine endK_ret (q r₁ o₁ ⟨hz, _, ?_, h₁⟩) (by kwd_less)
    obtain rfl := nx.nil_iff.mp (by tlg_ne)
    rw [Nat.zero_mod]
    exact nx
  · simp only [decide_eq_false_iff_not] at hc
    repeat tb_rel
    refine ⟨l, o, xs, none, some (0 : Int), rfl, hm, hi, by tlg_ne, .none, .int _, fun r₁ o₁ h₁ => ?_⟩
    rw [pickN_upto _ _ (by tlg_ne), show xs.take (0 : Int).toNat = [] from rfl] at h₁
    repeat tb_rel
    refine EV_one ?_
    repeat tb_rel
    refine ITEM_num (by tb_start) hi (by tlg_ne) (by tlg_ne) (by tlg_ne) ?_
    repeat tb_rel
    rintro r₂ o₂ h₂
    repeat tb_rel
    refine BIN_catN (by tb_start) h₁ mem_hd h₂ (by simp) fun r₃ o₃ h₃ => ?_
    repeat tb_rel
    refine normal_ok w _ _ _ _ _ _ _ _ _ (by decide) _ _ _ _ ⟨r₃, o₃, _, rfl, mem_hd, h₃, by simp, fun r₁ o₁ h₁ => ?_⟩
    repeat tb_rel
    have dx := nx.1.get 0
    have hN := pos2 n
    have hNB : (2 : Int) ^ n < 2 ^ b := by rw [← pow_two_nat, ← pow_two_nat]; have := Nat.pow_lt_pow_right (a := 2) (by decide) hn; omega
    have hm0 : 0 ≤ xs.getD 0 0 % 2 ^ n := Int.emod_nonneg _ (by tlg_ne)
    have hm1 : xs.getD 0 0 % 2 ^ n < 2 ^ n := Int.emod_lt_of_pos _ (by tlg_ne)
    refine endK_ret (q r₁ o₁ ⟨hz, _, strip_num ?_ ?_, h₁⟩) (by kwd_less)
    · exact Dg.one hm0 (by show xs.getD 0 0 % 2 ^ n < _; omega)
    · show xs.getD 0 0 % 2 ^ n + 2 ^ b * 0 = _
      exact low_limb nx (by tlg_ne) (by tlg_ne)
inductive sp_piece (vs : List MV) (g : Gl) (Q : MV → Gl → Prop) : Prop where
  | mk : ∀ b l o x s e, vs = [.ref l, .int (s : Nat), .int (e : Nat)] → (l, o) ∈ g → IsN b x o → (6 ≤ b ∧ b ≤ 8) → (∀ r q, IsN b (x / 2 ^ (b * s) % 2 ^ (b * (e - s))) q → Q (.ref r) ((r, q) :: g)) → sp_piece vs g Q
theorem piece_ok (w : World) : SoundF PR w (hK w.params) 2 161 sp_piece := by
  refine soundF (by k_is) (by k_is) [Str.ofString "a", Str.ofString "begin", Str.ofString "end"] [] (by intro s vals h; obtain ⟨_, _, _, rfl⟩ := len3 h; exact BindsTo.of_eq rfl) (by rfl) (by decide) rfl rfl rfl (by decide) ?_
  rintro A L h₀ vs g Q ⟨b, l, o, x, s, e, rfl, hm, ⟨hx, xs, nx, hi⟩, hb, q⟩
  refine ⟨rfl, ?_⟩
  simp only [List.zip_cons_cons, List.zip_nil_left, List.cons_append, List.nil_append, List.map_cons, List.map_nil]
  have hlx := IsN.len hb.1 hx nx
  repeat tb_rel
  refine ⟨l, o, xs, some (s : Int), some (e : Int), rfl, hm, hi, by tlg_ne, .int _, .int _, fun r₁ o₁ h₁ => ?_⟩
  rw [pickN_run _ _ _ (by tlg_ne) (by tlg_ne), Int.toNat_natCast, Int.toNat_natCast] at h₁
  repeat tb_rel
  refine normal_ok w _ _ _ _ _ _ _ _ _ (by decide) _ _ _ _ ⟨r₁, o₁, _, rfl, mem_hd, h₁, by simp; omega, fun r₂ o₂ h₂ => ?_⟩
  repeat tb_rel
  have nd := nx.drop s
  exact endK_ret (q r₂ o₂ ⟨Nat.lt_of_le_of_lt (Nat.le_trans (Nat.mod_le _ _) (Nat.div_le_self _ _)) hx, _, strip_num (nd.1.take _) (vl_take_mod nd _), h₂⟩) (by kwd_less)
theorem tz_small : ∀ x : Fin 64, 0 < x.val → ∃ n : Nat, n < 6 ∧ 0 * (6 : Int) + (Builtin.Int.intBits (Builtin.bitAnd (x.val : Int) (-(x.val : Int))) : Nat) - 1 = (n : Int) ∧ x.val % 2 ^ n = 0 ∧ x.val / 2 ^ n % 2 = 1 := by
  have key : ∀ x : Fin 64, 0 < x.val → (Builtin.Int.intBits (Builtin.bitAnd (x.val : Int) (-(x.val : Int)))) = (Builtin.Int.intBits (Builtin.bitAnd (x.val : Int) (-(x.val : Int))) - 1) + 1 ∧ (Builtin.Int.intBits (Builtin.bitAnd (x.val : Int) (-(x.val : Int))) - 1) < 6 ∧ x.val % 2 ^ (Builtin.Int.intBits (Builtin.bitAnd (x.val : Int) (-(x.val : Int))) - 1) = 0 ∧ x.val / 2 ^ (Builtin.Int.intBits (Builtin.bitAnd (x.val : Int) (-(x.val : Int))) - 1) % 2 = 1 := by decide +kernel
  intro x hx
  obtain ⟨h1, h2, h3, h4⟩ := key x hx
  refine ⟨_, h2, ?_, h3, h4⟩
  omega
inductive sp_trailing (vs : List MV) (g : Gl) (Q : MV → Gl → Prop) : Prop where
  | mk : ∀ b l o x, vs = [.ref l, .int (b : Nat)] → (l, o) ∈ g → IsN b x o → (6 ≤ b ∧ b ≤ 8) → 0 < x → x < 64 → (∀ n : Nat, n < 6 → x % 2 ^ n = 0 → x / 2 ^ n % 2 = 1 → Q (.int n) g) → sp_trailing vs g Q
theorem trailing_ok (w : World) : SoundF PR w (hK w.params) 1 168 sp_trailing := by
  refine soundF (by k_is) (by k_is) [Str.ofString "a", Str.ofString "w"] [Str.ofString "at", Str.ofString "limb"] (by intro s vals h; obtain ⟨_, _, rfl⟩ := len2 h; exact BindsTo.of_eq rfl) (by rfl) (by decide) rfl rfl rfl (by decide) ?_
  rintro A L h₀ vs g Q ⟨b, l, o, x, rfl, hm, ⟨hx, xs, nx, hi⟩, hb, hx0, hxB, q⟩
  refine ⟨rfl, ?_⟩
  simp only [List.zip_cons_cons, List.zip_nil_left, List.cons_append, List.nil_append, List.map_cons, List.map_nil]
  have hB := BN_rng hb
  obtain rfl := nx.one_limb hx0 (by tlg_ne)
  repeat tb_rel
  refine EX_forenum (by dsimp only; k_is) boot_enum (by exact rfl) ?_
  repeat tb_rel
  refine ⟨l, o, _, rfl, hm, hi, ?_⟩
  refine FORB_one fun N hN => ⟨_, .pair (by kwd_rel) (by kwd_rel), ?_⟩
  repeat tb_rel
  refine ⟨fun hc => ?_, fun hc => ?_⟩
  · repeat tb_rel
    refine BIN_mul (by simp) (by simp) ?_
    repeat tb_rel
    refine BIN_and ?_
    repeat tb_rel
    obtain ⟨n, h1, h2, h3, h4⟩ := tz_small ⟨x, hxB⟩ hx0
    refine endK_ret ?_ (by kwd_less)
    rw [Int.zero_mul] at h2
    rw [show ((0 : Nat) : Int) = 0 from rfl, Int.zero_mul, h2]
    exact q n h1 h3 h4
  · simp only [decide_eq_false_iff_not] at hc
    omega
-- part F4
def itv (d b : Nat) : Nat → Int
  | 0 => (d : Int) % 2 ^ b
  | i + 1 => itv d b i * ((2 - d * itv d b i) % 2 ^ b) % 2 ^ b
theorem itv_rng {d b : Nat} : ∀ i, 0 ≤ itv d b i ∧ itv d b i < 2 ^ b
  | 0 => ⟨Int.emod_nonneg _ (by have := pos2 b; omega), Int.emod_lt_of_pos _ (pos2 b)⟩
  | i + 1 => ⟨Int.emod_nonneg _ (by have := pos2 b; omega), Int.emod_lt_of_pos _ (pos2 b)⟩
theorem itv_ok : ∀ d : Fin 64, d.val % 2 = 1 → ∀ b : Fin 9, 6 ≤ b.val → (b.val = 6 → (d.val : Int) * itv d.val b.val 1 % 2 ^ b.val = 1) ∧ (d.val : Int) * itv d.val b.val 2 % 2 ^ b.val = 1 := by decide +kernel
inductive sp_inverse_limb (vs : List MV) (g : Gl) (Q : MV → Gl → Prop) : Prop where
  | mk : ∀ b d, vs = [.int (d : Nat), .int (b : Nat)] → (6 ≤ b ∧ b ≤ 8) → d < 64 → d % 2 = 1 → (∀ v : Nat, v < 2 ^ b → d * v % 2 ^ b = 1 → Q (.int v) g) → sp_inverse_limb vs g Q
theorem inverse_limb_ok (w : World) : SoundF PR w (hK w.params) 1 175 sp_inverse_limb := by
  refine soundF (by k_is) (by k_is) [Str.ofString "d", Str.ofString "w"] [Str.ofString "whole", Str.ofString "found", Str.ofString "sure"] (by intro s vals h; obtain ⟨_, _, rfl⟩ := len2 h; exact BindsTo.of_eq rfl) (by rfl) (by decide) rfl rfl rfl (by decide) ?_
  rintro A L h₀ vs g Q ⟨b, d, rfl, hb, hd, ho, q⟩
  refine ⟨rfl, ?_⟩
  simp only [List.zip_cons_cons, List.zip_nil_left, List.cons_append, List.nil_append, List.map_cons, List.map_nil]
  have hB := B_rng hb
  repeat tb_rel
  refine BIN_modN (n := d) (b := 2) (by decide) ?_
  repeat tb_rel
  refine ⟨fun hc => ?_, fun _ => ?_⟩
  · simp only [decide_eq_true_eq] at hc
    omega
  repeat tb_rel
  refine EX_swap (xs := [Str.ofString "found", Str.ofString "sure"]) ?_ (by exact rfl) (by exact rfl)
  repeat tb_rel
  refine BIN_mod (by tlg_ne) ?_
  repeat tb_rel
  refine ⟨by simp, fun t o' ho' => ⟨t, o', _, _, rfl, mem_hd, ho', .cons (by kwd_rel) (.cons (by kwd_rel) .nil), ?_⟩⟩
  refine TR.drop (g' := g) (by kwd_less) ?_
  repeat tb_rel
  refine EX_while_inv (fun n loc g' => E1 fun (i : Nat) => A4 (i ≤ 2) (n = 2 - i) (loc = [(Str.ofString "d", .int (d : Nat)), (Str.ofString "w", .int (b : Nat)), (Str.ofString "whole", .int (2 ^ b)), (Str.ofString "found", .int (itv d b i)), (Str.ofString "sure", .int (3 * 2 ^ i))]) (g = g')) (n := 2) ⟨0, by tlg_ne, rfl, rfl, rfl⟩ ?_
  rintro n _ _ N M hN hM ⟨i, hi, rfl, rfl, rfl⟩
  have hr := itv_rng (d := d) (b := b) i
  repeat tb_rel
  refine ⟨fun hc => ?_, fun hc => ?_⟩
  · simp only [decide_eq_true_eq] at hc
    have hi2 : i < 2 := by
      rcases Nat.lt_or_ge i 2 with h | h
      · exact h
      · have : i = 2 := by tlg_ne
        subst this
        simp at hc
        omega
    repeat tb_rel
    refine BIN_mul (by tlg_ne) (by tlg_ne) ?_
    refine BIN_sub ?_
    repeat tb_rel
    refine BIN_mod (by tlg_ne) ?_
    refine BIN_mul (by tlg_ne) (by tlg_ne) ?_
    repeat tb_rel
    refine BIN_mod (by tlg_ne) ?_
    repeat tb_rel
    refine BIN_mul (by tlg_ne) (by tlg_ne) ?_
    repeat tb_rel
    refine ⟨2 - (i + 1), by tlg_ne, i + 1, by tlg_ne, rfl, ?_, rfl⟩
    rw [show (2 : Int) * (3 * 2 ^ i) = 3 * 2 ^ (i + 1) by rw [Int.pow_succ]; omega]
    rfl
  · simp only [decide_eq_false_iff_not] at hc
    repeat tb_rel
    refine endK_ret (g' := g) ?_ (by kwd_less)
    have hk := itv_ok ⟨d, hd⟩ ho ⟨b, by tlg_ne⟩ hb.1
    have hv : (d : Int) * itv d b i % 2 ^ b = 1 := by
      rcases (by tlg_ne : i = 0 ∨ i = 1 ∨ i = 2) with rfl | rfl | rfl
      · exfalso; simp at hc; omega
      · exact hk.1 (by simp at hc; show b = 6; omega)
      · exact hk.2
    obtain ⟨v, hv'⟩ := Int.eq_ofNat_of_zero_le hr.1
    rw [hv'] at hr hv ⊢
    refine q v ?_ ?_
    · have := hr.2; rw [← pow_two_nat] at this; omega
    · rw [← pow_two_nat] at hv
      exact Int.ofNat.inj (by push_cast; push_cast at hv; exact hv)
inductive sp_inverse_low (vs : List MV) (g : Gl) (Q : MV → Gl → Prop) : Prop where
  | mk : ∀ b l o d c, vs = [.ref l, .int 1, .int (b : Nat), c] → c ≠ .undef → (l, o) ∈ g → IsN b d o → (6 ≤ b ∧ b ≤ 8) → d < 64 → d % 2 = 1 → (∀ r q v, v < 2 ^ b → d * v % 2 ^ b = 1 → IsN b v q → Q (.ref r) ((r, q) :: g)) → sp_inverse_low vs g Q
theorem inverse_low_ok (w : World) : SoundF PR w (hK w.params) 2 194 sp_inverse_low := by
  refine soundF (by k_is) (by k_is) [Str.ofString "b", Str.ofString "n", Str.ofString "w", Str.ofString "mul"] [Str.ofString "found", Str.ofString "size", Str.ofString "rest", Str.ofString "wanted"] (by intro s vals h; obtain ⟨_, _, _, _, rfl⟩ := len4 h; exact BindsTo.of_eq rfl) (by rfl) (by decide) rfl rfl rfl (by decide) ?_
  rintro A L h₀ vs g Q ⟨b, l, o, d, c, rfl, hcd, hm, ⟨hx, xs, nx, hi⟩, hb, hd, hod, q⟩
  refine ⟨rfl, ?_⟩
  simp only [List.zip_cons_cons, List.zip_nil_left, List.cons_append, List.nil_append, List.map_cons, List.map_nil]
  have hB := B_rng hb
  have hBN := BN_rng hb
  obtain rfl := nx.one_limb (by tlg_ne) (by tlg_ne)
  repeat tb_rel
  refine ⟨fun hc => ?_, fun hc => absurd hc (by simp)⟩
  repeat tb_rel
  refine ITEM_num (by tb_start) hi (by tlg_ne) (by simp) (by simp) ?_
  repeat tb_rel
  rw [show [(d : Int)].getD (0 : Int).toNat 0 = (d : Int) from rfl]
  refine BIN_modN (n := d) (b := 2) (by decide) ?_
  repeat tb_rel
  refine ⟨fun hc => ?_, fun hc => ?_⟩
  · simp only [decide_eq_true_eq] at hc
    omega
  repeat tb_rel
  refine ⟨fun hc => absurd hc (by simp), fun hc => ?_⟩
  repeat tb_rel
  refine EX_swap (xs := [Str.ofString "found", Str.ofString "size"]) ?_ (by exact rfl) (by exact rfl)
  repeat tb_rel
  refine EV_one ?_
  repeat tb_rel
  refine ITEM_num (by tb_start) hi (by tlg_ne) (by simp) (by simp) ?_
  repeat tb_rel
  rw [show [(d : Int)].getD (0 : Int).toNat 0 = (d : Int) from rfl]
  refine inverse_limb_ok w _ _ _ _ _ _ _ _ _ (by decide) _ _ _ _ ⟨b, d, rfl, hb, hd, hod, fun v hv hdv => ?_⟩
  repeat tb_rel
  rintro r₀ o₀ ho₀
  repeat tb_rel
  refine ⟨by simp, fun t o' ho' => ⟨t, o', _, _, rfl, mem_hd, ho', .cons (by kwd_rel) (.cons (by kwd_rel) .nil), ?_⟩⟩
  refine TR.drop (g' := (r₀, o₀) :: g) (by kwd_less) ?_
  repeat tb_rel
  refine EX_while 1 ?_
  show TST _ _ _ _ _
  repeat tb_rel
  refine ⟨fun hc => absurd hc (by simp), fun hc => ?_⟩
  repeat tb_rel
  have hv0 : 0 < v := by
    rcases Nat.eq_zero_or_pos v with rfl | h
    · simp at hdv
    · exact h
  refine endK_ret (q r₀ o₀ v hv hdv ⟨by tlg_ne, _, Num.single hv0 hv, ho₀⟩) (by kwd_less)
inductive sp_mul_school (vs : List MV) (g : Gl) (Q : MV → Gl → Prop) : Prop where
  | mk : ∀ b l o k p x y, vs = [.ref l, .ref k, .int (b : Nat)] → (l, o) ∈ g → IsN b x o → (k, p) ∈ g → IsN b y p → (6 ≤ b ∧ b ≤ 8) → x * y < 2 ^ 32 → (∀ r q, IsN b (x * y) q → Q (.ref r) ((r, q) :: g)) → sp_mul_school vs g Q
theorem mul_school_ok (w : World) : SoundF PR w (hK w.params) 2 437 sp_mul_school := by
  refine soundF (by k_is) (by k_is) [Str.ofString "a", Str.ofString "b", Str.ofString "w"] [Str.ofString "found", Str.ofString "mask", Str.ofString "at", Str.ofString "limb", Str.ofString "carry", Str.ofString "spot", Str.ofString "other"] (by intro s vals h; obtain ⟨_, _, _, rfl⟩ := len3 h; exact BindsTo.of_eq rfl) (by rfl) (by decide) rfl rfl rfl (by decide) ?_
  rintro A L h₀ vs g Q ⟨b, l, o, k, p, x, y, rfl, hm, ⟨hx, xs, nx, hi⟩, hm', ⟨hy, ys, ny, hi'⟩, hb, hz, q⟩
  refine ⟨rfl, ?_⟩
  simp only [List.zip_cons_cons, List.zip_nil_left, List.cons_append, List.nil_append, List.map_cons, List.map_nil]
  have hlx := IsN.len hb.1 hx nx
  have hly := IsN.len hb.1 hy ny
  have hB := B_rng hb
  repeat tb_rel
  refine EX_swap (xs := [Str.ofString "found", Str.ofString "mask"]) ?_ (by exact rfl) (by exact rfl)
  repeat tb_rel
  refine EV_one ?_
  repeat tb_rel
  rintro r₁ o₁ h₁
  repeat tb_rel
  refine BIN_repN mem_hd h₁ (by tlg_ne) (by tlg_ne) fun r₀ o₀ ho₀ => ?_
  rw [show ((xs.length : Int) + (ys.length : Int)).toNat = xs.length + ys.length by tlg_ne] at ho₀
  repeat tb_rel
  refine ⟨by simp, fun t o' ho' => ⟨t, o', _, _, rfl, mem_hd, ho', .cons (by kwd_rel) (.cons (by kwd_rel) .nil), ?_⟩⟩
  refine TR.drop (g' := (r₀, o₀) :: g) (by kwd_less) ?_
  repeat tb_rel
  refine EX_forenum (by dsimp only; k_is) boot_enum (by exact rfl) ?_
  repeat tb_rel
  refine ⟨l, o, _, rfl, by tb_start, hi, ?_⟩
  refine FORB_enum (fun i loc g' => E7 fun u1 u2 u3 u4 u5 F o₀ => A7 (loc = [(Str.ofString "a", .ref l), (Str.ofString "b", .ref k), (Str.ofString "w", .int (b : Nat)), (Str.ofString "found", .ref r₀), (Str.ofString "mask", .int (2 ^ b - 1)), (Str.ofString "at", u1), (Str.ofString "limb", u2), (Str.ofString "carry", u3), (Str.ofString "spot", u4), (Str.ofString "other", u5)]) ((r₀, o₀) :: g = g') (Is (.list (nums F)) o₀) (Dg b F) (F.length = xs.length + ys.length) ((∀ t, i + ys.length ≤ t → F.getD t 0 = 0)) (vl b F = vl b (xs.take i) * y))
    ⟨_, _, _, _, _, _, _, rfl, rfl, ho₀, Dg.rep, by simp, by intro t _; simp [List.getElem?_replicate]; split <;> rfl, by simp [vl, vl_rep]⟩ ?_ ?_
  · clear ho₀ h₁
    rintro i _ _ hlt N hN ⟨u1, u2, u3, u4, u5, F, o₀, rfl, rfl, ho₀, dF, lF, hF0, hv⟩
    refine ⟨_, .pair (by kwd_rel) (by kwd_rel), ?_⟩
    have dx := nx.1.get i
    repeat tb_rel
    refine EX_forenum (by dsimp only; k_is) boot_enum (by exact rfl) ?_
    repeat tb_rel
    refine ⟨k, p, _, rfl, by tb_start, hi', ?_⟩
    refine FORB_enum (fun j loc g' => E5 fun u4 u5 F' c o₀ => A8 (loc = [(Str.ofString "a", .ref l), (Str.ofString "b", .ref k), (Str.ofString "w", .int (b : Nat)), (Str.ofString "found", .ref r₀), (Str.ofString "mask", .int (2 ^ b - 1)), (Str.ofString "at", .int (i : Nat)), (Str.ofString "limb", .int (xs.getD i 0)), (Str.ofString "carry", .int c), (Str.ofString "spot", u4), (Str.ofString "other", u5)]) ((r₀, o₀) :: g = g') (Is (.list (nums F')) o₀) (Dg b F') (F'.length = xs.length + ys.length) ((∀ t, i + ys.length ≤ t → F'.getD t 0 = 0)) ((0 ≤ c ∧ c < 2 ^ b)) (vl b F' + 2 ^ (b * (i + j)) * c = vl b F + 2 ^ (b * i) * (xs.getD i 0 * vl b (ys.take j))))
      ⟨_, _, F, 0, _, rfl, rfl, ho₀, dF, lF, hF0, by tlg_ne, by simp [vl]⟩ ?_ ?_
    · clear ho₀
      rintro j _ _ hlt' N hN ⟨u4, u5, F', c, o₀, rfl, rfl, ho₀, dF', lF', hF0', hc, hv'⟩
      refine ⟨_, .pair (by kwd_rel) (by kwd_rel), ?_⟩
      have dy := ny.1.get j
      have df := dF'.get (i + j)
      repeat tb_rel
      rw [show (i : Int) + (j : Int) = ((i + j : Nat) : Int) by tlg_ne]
      refine ITEM_num mem_hd ho₀ (by tlg_ne) (by tlg_ne) (by tlg_ne) ?_
      rw [Int.toNat_natCast]
      repeat tb_rel
      refine BIN_mul (by tlg_ne) (by tlg_ne) ?_
      repeat tb_rel
      refine EX_setN ?_
      repeat tb_rel
      rw [show (i : Int) + (j : Int) = ((i + j : Nat) : Int) by tlg_ne]
      refine ⟨_, _, _, _, _, rfl, rfl, rfl, ho₀, by tlg_ne, fun o₁ ho₁ => ⟨_, by ktd_rel, ?_⟩⟩
      rw [Int.toNat_natCast] at ho₁
      repeat tb_rel
      have hm' := mul_digit (pos2 b) hc df dx dy
      refine ⟨fun p hp => by rw [List.mem_singleton.mp hp]; tb_start, _, _, _, _, _, rfl, rfl, ho₁, dF'.set (Int.emod_nonneg _ (by tlg_ne)) (Int.emod_lt_of_pos _ (by tlg_ne)), by simp [lF'], ?_, hm', ?_⟩
      · intro t ht
        rw [getD_set_ne (by tlg_ne)]
        exact hF0' t ht
      · rw [vl_set (by tlg_ne), vl_take_succ b ys j (by tlg_ne), show i + (j + 1) = i + j + 1 by tlg_ne, Nat.mul_add b (i + j) 1, Nat.mul_one, Int.pow_add]
        exact mul_step (by rw [Nat.mul_add, Int.pow_add]) hv'
    · clear ho₀
      rintro _ _ ⟨u4, u5, F', c, o₀, rfl, rfl, ho₀, dF', lF', hF0', hc, hv'⟩
      rw [List.take_length, ny.2.1] at hv'
      repeat tb_rel
      refine EX_setN ?_
      repeat tb_rel
      rw [show (i : Int) + (ys.length : Int) = ((i + ys.length : Nat) : Int) by tlg_ne]
      refine ⟨_, _, _, _, _, rfl, rfl, rfl, ho₀, by tlg_ne, fun o₁ ho₁ => ⟨_, by ktd_rel, ?_⟩⟩
      rw [Int.toNat_natCast] at ho₁
      repeat tb_rel
      refine ⟨fun p hp => by rw [List.mem_singleton.mp hp]; tb_start, _, _, _, _, _, _, _, rfl, rfl, ho₁, dF'.set hc.1 hc.2, by simp [lF'], ?_, ?_⟩
      · intro t ht
        rw [getD_set_ne (by tlg_ne)]
        exact hF0' t (by tlg_ne)
      · rw [vl_set (by tlg_ne), hF0' _ (Nat.le_refl _), vl_take_succ b xs i (by tlg_ne), Int.sub_zero, hv', hv, Int.add_mul, Int.mul_assoc]
  · clear ho₀ h₁
    rintro _ _ ⟨u1, u2, u3, u4, u5, F, o₀, rfl, rfl, ho₀, dF, lF, hF0, hv⟩
    rw [List.take_length, nx.2.1] at hv
    repeat tb_rel
    refine normal_ok w _ _ _ _ _ _ _ _ _ (by decide) _ _ _ _ ⟨r₀, o₀, F, rfl, mem_hd, ho₀, by tlg_ne, fun r₁ o₁ h₁ => ?_⟩
    repeat tb_rel
    refine endK_ret (q r₁ o₁ ⟨hz, _, strip_num dF (by rw [hv]; push_cast; rfl), h₁⟩) (by kwd_less)
inductive sp_divrem_small (vs : List MV) (g : Gl) (Q : MV → Gl → Prop) : Prop where
  | mk : ∀ b l o k p x d, vs = [.ref l, .ref k, .int (b : Nat)] → (l, o) ∈ g → IsN b x o → (k, p) ∈ g → IsN b d p → (6 ≤ b ∧ b ≤ 8) → 0 < d → d < 2 ^ b → (∀ r q r' q' t o', IsN b (x / d) q → IsN b (x % d) q' → Is (.tup [.ref r, .ref r']) o' → Q (.ref t) ((t, o') :: (r', q') :: (r, q) :: g)) → sp_divrem_small vs g Q
theorem divrem_small_ok (w : World) : SoundF PR w (hK w.params) 3 444 sp_divrem_small := by
  refine soundF (by k_is) (by k_is) [Str.ofString "a", Str.ofString "b", Str.ofString "w"] [Str.ofString "quotient", Str.ofString "rest"] (by intro s vals h; obtain ⟨_, _, _, rfl⟩ := len3 h; exact BindsTo.of_eq rfl) (by rfl) (by decide) rfl rfl rfl (by decide) ?_
  rintro A L h₀ vs g Q ⟨b, l, o, k, p, x, d, rfl, hm, hxx, hm', ⟨hy, ys, ny, hi'⟩, hb, hd0, hd, q⟩
  refine ⟨rfl, ?_⟩
  simp only [List.zip_cons_cons, List.zip_nil_left, List.cons_append, List.nil_append, List.map_cons, List.map_nil]
  obtain rfl := ny.one_limb hd0 hd
  have hxl := hxx.1
  have hz : x % d < 2 ^ 32 := Nat.lt_of_le_of_lt (Nat.mod_le _ _) hxl
  repeat tb_rel
  refine EX_tup (xs := [Str.ofString "quotient", Str.ofString "rest"]) (.cons (.cons .nil)) ?_ (by exact rfl) (by exact rfl)
  repeat tb_rel
  refine ITEM_num (by tb_start) hi' (by tlg_ne) (by simp) (by simp) ?_
  repeat tb_rel
  rw [show [(d : Int)].getD (0 : Int).toNat 0 = (d : Int) from rfl]
  refine divrem_limb_ok w _ _ _ _ _ _ _ _ _ (by decide) _ _ _ _ ⟨b, l, o, x, d, rfl, hm, hxx, hb, hd0, hd, fun r₀ o₀ t o' ho₀ ho' => ?_⟩
  refine ⟨t, o', _, _, rfl, mem_hd, ho', .cons (by kwd_rel) (.cons (by kwd_rel) .nil), ?_⟩
  refine TR.drop (g' := (r₀, o₀) :: g) (by kwd_less) ?_
  repeat tb_rel
  refine EV_ife ?_
  repeat tb_rel
  refine ⟨fun hc => ?_, fun hc => ?_⟩
  · simp only [decide_eq_true_eq] at hc
    repeat tb_rel
    refine EV_one ?_
    repeat tb_rel
    rintro r₁ o₁ h₁
    repeat tb_rel
    refine ⟨by simp, fun t o' ho' => ?_⟩
    repeat tb_rel
    refine endK_ret (q r₀ o₀ r₁ o₁ t o' ho₀ ⟨hz, _, Num.single (by tlg_ne) (Nat.lt_trans (Nat.mod_lt _ hd0) hd), h₁⟩ ho') (by kwd_less)
  · simp only [decide_eq_false_iff_not] at hc
    repeat tb_rel
    rintro r₁ o₁ h₁
    repeat tb_rel
    refine ⟨by simp, fun t o' ho' => ?_⟩
    repeat tb_rel
    refine endK_ret (q r₀ o₀ r₁ o₁ t o' ho₀ ⟨hz, _, ?_, h₁⟩ ho') (by kwd_less)
    rw [show x % d = 0 by tlg_ne]
    exact Num.nil
inductive sp_divrem_school (vs : List MV) (g : Gl) (Q : MV → Gl → Prop) : Prop where
  | mk : ∀ b l o k p x d, vs = [.ref l, .ref k, .int (b : Nat)] → (l, o) ∈ g → IsN b x o → (k, p) ∈ g → IsN b d p → (6 ≤ b ∧ b ≤ 8) → 0 < d → d < 2 ^ b → (∀ r q r' q' t o', IsN b (x / d) q → IsN b (x % d) q' → Is (.tup [.ref r, .ref r']) o' → Q (.ref t) ((t, o') :: (r', q') :: (r, q) :: g)) → sp_divrem_school vs g Q
theorem divrem_school_ok (w : World) : SoundF PR w (hK w.params) 4 479 sp_divrem_school := by
  refine soundF (by k_is) (by k_is) [Str.ofString "a", Str.ofString "b", Str.ofString "w"] [Str.ofString "shift", Str.ofString "divisor", Str.ofString "rest", Str.ofString "quotient"] (by intro s vals h; obtain ⟨_, _, _, rfl⟩ := len3 h; exact BindsTo.of_eq rfl) (by rfl) (by decide) rfl rfl rfl (by decide) ?_
  rintro A L h₀ vs g Q ⟨b, l, o, k, p, x, d, rfl, hm, hxx, hm', hyy, hb, hd0, hd, q⟩
  refine ⟨rfl, ?_⟩
  simp only [List.zip_cons_cons, List.zip_nil_left, List.cons_append, List.nil_append, List.map_cons, List.map_nil]
  obtain ⟨hx, xs, nx, hi⟩ := id hxx
  obtain ⟨hy, ys, ny, hi'⟩ := id hyy
  have hlx := IsN.len hb.1 hx nx
  obtain rfl := ny.one_limb hd0 hd
  repeat tb_rel
  refine ⟨fun hc => absurd hc (by simp), fun _ => ?_⟩
  repeat tb_rel
  refine compare_ok w _ _ _ _ _ _ _ _ _ (by decide) _ _ _ _ ⟨b, l, o, k, p, x, d, rfl, hm, hxx, hm', hyy, hb.1, ?_⟩
  repeat tb_rel
  refine ⟨fun hc => ?_, fun hc => ?_⟩
  · simp only [decide_eq_true_eq] at hc
    have hlt : x < d := by
      unfold sgn at hc
      repeat' split at hc
      all_goals omega
    repeat tb_rel
    rintro r₁ o₁ h₁
    repeat tb_rel
    refine ⟨l, o, xs, none, none, rfl, by tb_start, hi, by tlg_ne, .none, .none, fun r₂ o₂ h₂ => ?_⟩
    rw [pickN_all] at h₂
    repeat tb_rel
    refine ⟨by simp, fun t o' ho' => ?_⟩
    repeat tb_rel
    refine endK_ret (q r₁ o₁ r₂ o₂ t o' ⟨by rw [Nat.div_eq_of_lt hlt]; decide, _, by rw [Nat.div_eq_of_lt hlt]; exact Num.nil, h₁⟩ ⟨by rw [Nat.mod_eq_of_lt hlt]; exact hx, _, by rw [Nat.mod_eq_of_lt hlt]; exact nx, h₂⟩ ho') (by kwd_less)
  · repeat tb_rel
    refine ⟨fun _ => ?_, fun hc => absurd hc (by simp)⟩
    repeat tb_rel
    refine divrem_small_ok w _ _ _ _ _ _ _ _ _ (by decide) _ _ _ _ ⟨b, l, o, k, p, x, d, rfl, hm, hxx, hm', hyy, hb, hd0, hd, fun r₀ o₀ r₁ o₁ t o' h₀ h₁ ho' => ?_⟩
    repeat tb_rel
    refine endK_ret (q r₀ o₀ r₁ o₁ t o' h₀ h₁ ho') (by kwd_less)
-- part F5
theorem IsN.one {b : Nat} {r : Obj} (hb : 6 ≤ b) (h : Is (.list (nums [1])) r) : IsN b 1 r := ⟨by decide, _, Num.single (by decide) (Nat.one_lt_two_pow (by tlg_ne)), h⟩
inductive sp_barrett_make (vs : List MV) (g : Gl) (Q : MV → Gl → Prop) : Prop where
  | mk : ∀ b k p m, vs = [.ref k, .int (b : Nat), .ref 479] → (k, p) ∈ g → IsN b m p → (6 ≤ b ∧ b ≤ 8) → 0 < m → m < 2 ^ b → (∀ r q t o', IsN b (2 ^ (b * 2) / m) q → Is (.tup [.ref k, .ref r]) o' → Q (.ref t) ((t, o') :: (r, q) :: g)) → sp_barrett_make vs g Q
theorem barrett_make_ok (w : World) : SoundF PR w (hK w.params) 5 201 sp_barrett_make := by
  refine soundF (by k_is) (by k_is) [Str.ofString "m", Str.ofString "w", Str.ofString "divrem"] [] (by intro s vals h; obtain ⟨_, _, _, rfl⟩ := len3 h; exact BindsTo.of_eq rfl) (by rfl) (by decide) rfl rfl rfl (by decide) ?_
  rintro A L h₀ vs g Q ⟨b, k, p, m, rfl, hm, hmm, hb, hm0, hmB, q⟩
  refine ⟨rfl, ?_⟩
  simp only [List.zip_cons_cons, List.zip_nil_left, List.cons_append, List.nil_append, List.map_cons, List.map_nil]
  obtain ⟨hx, xs, nx, hi⟩ := id hmm
  obtain rfl := nx.one_limb hm0 hmB
  have hP : 2 ^ (b * 2) < 2 ^ 32 := Nat.pow_lt_pow_right (by decide) (by tlg_ne)
  repeat tb_rel
  rintro r₁ o₁ h₁
  refine CMP_list (by tb_start) hi mem_hd h₁ ?_
  repeat tb_rel
  refine ⟨fun hc => absurd hc (by simp), fun _ => ?_⟩
  repeat tb_rel
  refine EV_one ?_
  repeat tb_rel
  rintro r₂ o₂ h₂
  repeat tb_rel
  refine BIN_mul (by tlg_ne) (by tlg_ne) ?_
  rw [show (2 : Int) * (([(m : Int)].length : Nat) : Int) = ((2 : Nat) : Int) from rfl]
  repeat tb_rel
  refine lifted_ok w _ _ _ _ _ _ _ _ _ (by decide) _ _ _ _ ⟨b, r₂, o₂, 1, 2, rfl, mem_hd, IsN.one hb.1 h₂, hb.1, by tlg_ne, by tlg_ne, fun r₃ o₃ h₃ => ?_⟩
  rw [Nat.one_mul] at h₃
  repeat tb_rel
  refine divrem_school_ok w _ _ _ _ _ _ _ _ _ (by decide) _ _ _ _ ⟨b, r₃, o₃, k, p, _, m, rfl, mem_hd, h₃, by tb_start, hmm, hb, hm0, hmB, fun r₄ o₄ r₅ o₅ t o' h₄ h₅ ho' => ?_⟩
  repeat tb_rel
  refine ITEM_tup mem_hd ho' (by tlg_ne) rfl (by tlg_ne) ?_
  repeat tb_rel
  refine ⟨by simp, fun t₂ o₂' ho₂' => ?_⟩
  repeat tb_rel
  refine endK_ret (q r₄ o₄ t₂ o₂' h₄ ho₂') (by kwd_less)
inductive sp_barrett_once (vs : List MV) (g : Gl) (Q : MV → Gl → Prop) : Prop where
  | mk : ∀ b l o k p n pn t ot x m, vs = [.ref l, .ref t, .int (b : Nat), .ref 437] → (l, o) ∈ g → IsN b x o → (t, ot) ∈ g → Is (.tup [.ref k, .ref n]) ot → (k, p) ∈ g → IsN b m p → (n, pn) ∈ g → IsN b (2 ^ (b * 2) / m) pn → (6 ≤ b ∧ b ≤ 8) → 0 < m → m < 2 ^ b → x < 2 ^ b * m → (∀ r q r' q' t o', IsN b (x / m) q → IsN b (x % m) q' → Is (.tup [.ref r, .ref r']) o' → Q (.ref t) ((t, o') :: (r', q') :: (r, q) :: g)) → sp_barrett_once vs g Q
theorem barrett_once_ok (w : World) : SoundF PR w (hK w.params) 5 208 sp_barrett_once := by
  refine soundF (by k_is) (by k_is) [Str.ofString "a", Str.ofString "told", Str.ofString "w", Str.ofString "mul"] [Str.ofString "m", Str.ofString "inverse", Str.ofString "size", Str.ofString "guess", Str.ofString "rest"] (by intro s vals h; obtain ⟨_, _, _, _, rfl⟩ := len4 h; exact BindsTo.of_eq rfl) (by rfl) (by decide) rfl rfl rfl (by decide) ?_
  rintro A L h₀ vs g Q ⟨b, l, o, k, p, n, pn, t, ot, x, m, rfl, hm, hxx, ht, hot, hk, hmm, hn, hnn, hb, hm0, hmB, hxm, q⟩
  refine ⟨rfl, ?_⟩
  simp only [List.zip_cons_cons, List.zip_nil_left, List.cons_append, List.nil_append, List.map_cons, List.map_nil]
  obtain ⟨hx, xs, nx, hi⟩ := id hxx
  have hlx := IsN.len hb.1 hx nx
  obtain ⟨hmz, ms, nm, him⟩ := id hmm
  obtain rfl := nm.one_limb hm0 hmB
  have hz := bar_bound hb.2 hm0 hxm
  have hg := bar_guess (P := 2 ^ (b * 2)) (i := 2 ^ (b * 2) / m) (m := m) (x := x) (Nat.two_pow_pos _) (Nat.div_mul_le_self _ _)
  repeat tb_rel
  refine EX_tup (xs := [Str.ofString "m", Str.ofString "inverse"]) (.cons (.cons .nil)) ?_ (by exact rfl) (by exact rfl)
  repeat tb_rel
  refine ⟨t, ot, _, _, rfl, ht, hot, .cons (by kwd_rel) (.cons (by kwd_rel) .nil), ?_⟩
  repeat tb_rel
  refine ⟨l, o, xs, some (0 : Int), none, rfl, hm, hi, by tlg_ne, .int _, .none, fun r₁ o₁ h₁ => ?_⟩
  rw [pickN_from _ _ (by tlg_ne), show (0 : Int).toNat = 0 from rfl, List.drop_zero] at h₁
  repeat tb_rel
  refine mul_school_ok w _ _ _ _ _ _ _ _ _ (by decide) _ _ _ _ ⟨b, r₁, o₁, n, pn, x, _, rfl, mem_hd, ⟨hx, _, nx, h₁⟩, by tb_start, hnn, hb, hz, fun r₂ o₂ h₂ => ?_⟩
  obtain ⟨_, zs, nz, hz2⟩ := h₂
  have hlz := IsN.len hb.1 hz nz
  repeat tb_rel
  refine ⟨r₂, o₂, zs, some (2 : Int), none, rfl, mem_hd, hz2, by tlg_ne, .int _, .none, fun r₃ o₃ h₃ => ?_⟩
  rw [pickN_from _ _ (by tlg_ne), show (2 : Int).toNat = 2 from rfl] at h₃
  have n3 := nz.drop 2
  have hG : IsN b (x * (2 ^ (b * 2) / m) / 2 ^ (b * 2)) o₃ := ⟨Nat.lt_of_le_of_lt (Nat.div_le_self _ _) hz, _, n3, h₃⟩
  clear nz hz2 hlz
  generalize x * (2 ^ (b * 2) / m) / 2 ^ (b * 2) = G at *
  repeat tb_rel
  refine mul_school_ok w _ _ _ _ _ _ _ _ _ (by decide) _ _ _ _ ⟨b, r₃, o₃, k, p, G, m, rfl, mem_hd, hG, by tb_start, hmm, hb, by tlg_ne, fun r₄ o₄ h₄ => ?_⟩
  repeat tb_rel
  refine sub_ok w _ _ _ _ _ _ _ _ _ (by decide) _ _ _ _ ⟨b, l, o, r₄, o₄, x, _, rfl, by tb_start, hxx, mem_hd, h₄, hb, hg, fun r₅ o₅ h₅ => ?_⟩
  repeat tb_rel
  refine TR.drop (g' := (r₅, o₅) :: (r₃, o₃) :: g) (by kwd_less) ?_
  refine TR.swap ?_
  repeat tb_rel
  refine EX_while_inv (fun N loc g' => E6 fun r s R G p q => A6 (R = N) (loc = [(Str.ofString "a", .ref l), (Str.ofString "told", .ref t), (Str.ofString "w", .int (b : Nat)), (Str.ofString "mul", .ref 437), (Str.ofString "m", .ref k), (Str.ofString "inverse", .ref n), (Str.ofString "size", .int 1), (Str.ofString "guess", .ref r), (Str.ofString "rest", .ref s)]) (List.Sublist ((r, p) :: (s, q) :: g) g') (IsN b G p) (IsN b R q) (R + G * m = x)) (n := x - G * m) ⟨r₃, r₅, _, G, _, _, rfl, rfl, List.Sublist.refl _, hG, h₅, by tlg_ne⟩ ?_
  clear hG h₃ n3 h₅ hg h₄
  rintro _ _ _ N M hN hM ⟨r, s, R, G, pG, pR, rfl, rfl, hsub, hG, hR, he⟩
  refine TR.drop hsub ?_
  clear hsub
  show TST _ _ _ _ _
  repeat tb_rel
  refine compare_ok w _ _ _ _ _ _ _ _ _ (by decide) _ _ _ _ ⟨b, s, pR, k, p, R, m, rfl, by tb_start, hR, by tb_start, hmm, hb.1, ?_⟩
  repeat tb_rel
  refine ⟨fun hc => ?_, fun hc => ?_⟩
  · have hge : m ≤ R := by
      simp only [decide_eq_true_eq] at hc
      unfold sgn at hc
      repeat' split at hc
      all_goals omega
    repeat tb_rel
    refine sub_ok w _ _ _ _ _ _ _ _ _ (by decide) _ _ _ _ ⟨b, s, pR, k, p, R, m, rfl, by tb_start, hR, by tb_start, hmm, hb, hge, fun r₁ o₁ h₁ => ?_⟩
    repeat tb_rel
    refine EV_one ?_
    repeat tb_rel
    rintro r₂ o₂ h₂
    repeat tb_rel
    have hle : G + 1 ≤ (G + 1) * m := Nat.le_mul_of_pos_right _ hm0
    rw [Nat.add_mul, Nat.one_mul] at hle
    refine add_ok w _ _ _ _ _ _ _ _ _ (by decide) _ _ _ _ ⟨b, r, pG, r₂, o₂, G, 1, rfl, by tb_start, hG, mem_hd, IsN.one hb.1 h₂, hb, by tlg_ne, fun r₃ o₃ h₃ => ?_⟩
    repeat tb_rel
    refine ⟨R - m, by tlg_ne, r₃, r₁, R - m, G + 1, o₃, o₁, rfl, rfl, by kwd_less, h₃, h₁, ?_⟩
    rw [Nat.add_mul, Nat.one_mul]
    omega
  · have hlt : R < m := by
      simp only [decide_eq_false_iff_not] at hc
      unfold sgn at hc
      repeat' split at hc
      all_goals omega
    first | refine seqK_next ?_ | refine Seal.go (by assumption) (seqK_next ?_)
    refine TR.swap ?_
    repeat tb_rel
    refine ⟨by simp, fun t o' ho' => ?_⟩
    repeat tb_rel
    have h1 : x / m = G := by rw [← he, Nat.add_mul_div_right _ _ hm0, Nat.div_eq_of_lt hlt, Nat.zero_add]
    have h2 : x % m = R := by rw [← he, Nat.add_mul_mod_self_right, Nat.mod_eq_of_lt hlt]
    rw [h1, h2] at q
    refine endK_ret (q r pG s pR t o' hG hR ho') (by kwd_less)
inductive sp_barrett_divrem (vs : List MV) (g : Gl) (Q : MV → Gl → Prop) : Prop where
  | mk : ∀ b l o k p n pn t ot x m, vs = [.ref l, .ref t, .int (b : Nat), .ref 437] → (l, o) ∈ g → IsN b x o → (t, ot) ∈ g → Is (.tup [.ref k, .ref n]) ot → (k, p) ∈ g → IsN b m p → (n, pn) ∈ g → IsN b (2 ^ (b * 2) / m) pn → (6 ≤ b ∧ b ≤ 8) → 0 < m → m < 2 ^ b → (∀ r q r' q' t o', IsN b (x / m) q → IsN b (x % m) q' → Is (.tup [.ref r, .ref r']) o' → Q (.ref t) ((t, o') :: (r', q') :: (r, q) :: g)) → sp_barrett_divrem vs g Q
theorem barrett_divrem_ok (w : World) : SoundF PR w (hK w.params) 6 215 sp_barrett_divrem := by
  refine soundF (by k_is) (by k_is) [Str.ofString "a", Str.ofString "told", Str.ofString "w", Str.ofString "mul"] [Str.ofString "size", Str.ofString "quotient", Str.ofString "rest", Str.ofString "spot", Str.ofString "part"] (by intro s vals h; obtain ⟨_, _, _, _, rfl⟩ := len4 h; exact BindsTo.of_eq rfl) (by rfl) (by decide) rfl rfl rfl (by decide) ?_
  rintro A L h₀ vs g Q ⟨b, l, o, k, p, n, pn, t, ot, x, m, rfl, hm, hxx, ht, hot, hk, hmm, hn, hnn, hb, hm0, hmB, q⟩
  refine ⟨rfl, ?_⟩
  simp only [List.zip_cons_cons, List.zip_nil_left, List.cons_append, List.nil_append, List.map_cons, List.map_nil]
  obtain ⟨hx, xs, nx, hi⟩ := id hxx
  have hlx := IsN.len hb.1 hx nx
  obtain ⟨hmz, ms, nm, him⟩ := id hmm
  obtain rfl := nm.one_limb hm0 hmB
  have hB0 : 0 < 2 ^ b := Nat.two_pow_pos _
  repeat tb_rel
  refine ITEM_tup ht hot (by tlg_ne) rfl (by tlg_ne) ?_
  repeat tb_rel
  refine EX_swap (xs := [Str.ofString "quotient", Str.ofString "rest"]) ?_ (by exact rfl) (by exact rfl)
  repeat tb_rel
  rintro r₁ o₁ h₁
  repeat tb_rel
  rintro r₂ o₂ h₂
  repeat tb_rel
  refine ⟨by simp, fun tt o' ho' => ⟨tt, o', _, _, rfl, mem_hd, ho', .cons (by kwd_rel) (.cons (by kwd_rel) .nil), ?_⟩⟩
  refine TR.drop (g' := (r₂, o₂) :: (r₁, o₁) :: g) (by kwd_less) ?_
  refine TR.swap ?_
  repeat tb_rel
  refine BIN_div (by simp) (by simp) ?_
  repeat tb_rel
  refine BIN_mul (by simp; omega) (by simp; omega) ?_
  rw [show ((xs.length : Int) + (([(m : Int)].length : Nat) : Int) - 1) / (([(m : Int)].length : Nat) : Int) * (([(m : Int)].length : Nat) : Int) = (xs.length : Int) by simp]
  repeat tb_rel
  have hx0 : x / 2 ^ (b * xs.length) = 0 := by
    have := vl_lt nx.1
    rw [nx.2.1, ← pow_two_nat] at this
    exact Nat.div_eq_of_lt (by tlg_ne)
  refine EX_while_inv (fun N loc g' => E6 fun s r r' p p' u => A6 (s = N) (loc = [(Str.ofString "a", .ref l), (Str.ofString "told", .ref t), (Str.ofString "w", .int (b : Nat)), (Str.ofString "mul", .ref 437), (Str.ofString "size", .int 1), (Str.ofString "quotient", .ref r), (Str.ofString "rest", .ref r'), (Str.ofString "spot", .int (s : Nat)), (Str.ofString "part", u)]) (List.Sublist ((r, p) :: (r', p') :: g) g') (s ≤ xs.length) (IsN b (x / 2 ^ (b * s) / m * 2 ^ (b * s)) p) (IsN b (x / 2 ^ (b * s) % m) p')) (n := xs.length) ⟨xs.length, r₁, r₂, _, _, _, rfl, rfl, List.Sublist.refl _, Nat.le_refl _, ?_, ?_⟩ ?_
  · rw [hx0, Nat.zero_div, Nat.zero_mul]; exact ⟨by decide, _, Num.nil, h₁⟩
  · rw [hx0, Nat.zero_mod]; exact ⟨by decide, _, Num.nil, h₂⟩
  clear h₁ h₂ hx0
  rintro _ _ _ N M hN hM ⟨s, r, r', pq, pr, u, rfl, rfl, hsub, hsl, hq, hr⟩
  refine TR.drop hsub ?_
  clear hsub
  show TST _ _ _ _ _
  repeat tb_rel
  refine ⟨fun hc => ?_, fun hc => ?_⟩
  · simp only [decide_eq_true_eq] at hc
    obtain ⟨n', rfl⟩ : ∃ n', s = n' + 1 := ⟨s - 1, by tlg_ne⟩
    repeat tb_rel
    rw [show ((n' + 1 : Nat) : Int) - 1 = (n' : Int) by tlg_ne]
    repeat tb_rel
    refine EX_tup (xs := [Str.ofString "part", Str.ofString "rest"]) (.cons (.cons .nil)) ?_ (by exact rfl) (by exact rfl)
    repeat tb_rel
    rw [show (n' : Int) + 1 = ((n' + 1 : Nat) : Int) by tlg_ne]
    refine piece_ok w _ _ _ _ _ _ _ _ _ (by decide) _ _ _ _ ⟨b, l, o, x, n', n' + 1, rfl, by tb_start, hxx, hb, fun r₁ o₁ h₁ => ?_⟩
    rw [show n' + 1 - n' = 1 by tlg_ne, Nat.mul_one] at h₁
    have e1 : x / 2 ^ (b * (n' + 1)) = x / 2 ^ (b * n') / 2 ^ b := by
      rw [Nat.mul_add, Nat.mul_one, Nat.pow_add, Nat.div_div_eq_div_mul]
    rw [e1] at hq hr
    obtain ⟨s1, s2, s3⟩ := bar_step (Y := x / 2 ^ (b * n')) hm0 hB0
    repeat tb_rel
    have hxs : x / 2 ^ (b * n') ≤ x := Nat.div_le_self _ _
    have hB8 : 2 ^ b * m < 2 ^ 32 := Nat.lt_of_lt_of_le (Nat.mul_lt_mul_of_lt_of_le (Nat.lt_of_le_of_lt (BN_rng hb).2 (by decide : 256 < 257)) (Nat.le_trans (Nat.le_of_lt hmB) (BN_rng hb).2) (by decide)) (by decide)
    refine add_at_ok w _ _ _ _ _ _ _ _ _ (by decide) _ _ _ _ ⟨b, r₁, o₁, r', pr, _, _, 1, rfl, mem_hd, h₁, by tb_start, hr, hb, by tlg_ne, by rw [Nat.mul_one]; omega, fun r₂ o₂ h₂ => ?_⟩
    rw [Nat.mul_one] at h₂
    repeat tb_rel
    refine barrett_once_ok w _ _ _ _ _ _ _ _ _ (by decide) _ _ _ _ ⟨b, r₂, o₂, k, p, n, pn, t, ot, _, m, rfl, mem_hd, h₂, by tb_start, hot, by tb_start, hmm, by tb_start, hnn, hb, hm0, hmB, s3, fun r₃ o₃ r₄ o₄ t' o' h₃ h₄ ho' => ?_⟩
    refine ⟨t', o', _, _, rfl, mem_hd, ho', .cons (by kwd_rel) (.cons (by kwd_rel) .nil), ?_⟩
    repeat tb_rel
    have e2 : x / 2 ^ (b * n') / 2 ^ b / m * 2 ^ (b * (n' + 1)) + (x / 2 ^ (b * n') % 2 ^ b + x / 2 ^ (b * n') / 2 ^ b % m * 2 ^ b) / m * 2 ^ (b * n') = x / 2 ^ (b * n') / m * 2 ^ (b * n') := by
      conv => rhs; rw [← s2]
      rw [Nat.add_mul, Nat.mul_add b n' 1, Nat.mul_one, Nat.pow_add, Nat.mul_assoc _ (2 ^ b), Nat.mul_comm (2 ^ b)]
    have e3 : x / 2 ^ (b * n') / m * 2 ^ (b * n') ≤ x := Nat.le_trans (Nat.mul_le_mul_right _ (Nat.div_le_self _ _)) (Nat.div_mul_le_self _ _)
    refine add_at_ok w _ _ _ _ _ _ _ _ _ (by decide) _ _ _ _ ⟨b, r, pq, r₃, o₃, _, _, n', rfl, by tb_start, hq, by tb_start, h₃, hb, by tlg_ne, by rw [e2]; omega, fun r₅ o₅ h₅ => ?_⟩
    rw [e2] at h₅
    rw [s1] at h₄
    repeat tb_rel
    refine ⟨n', by tlg_ne, n', r₅, r₄, o₅, o₄, _, rfl, rfl, by kwd_less, by tlg_ne, h₅, h₄⟩
  · have hs0 : s = 0 := by simp only [decide_eq_false_iff_not] at hc; omega
    subst hs0
    first | refine seqK_next ?_ | refine Seal.go (by assumption) (seqK_next ?_)
    refine TR.swap ?_
    repeat tb_rel
    refine ⟨by simp, fun tt o' ho' => ?_⟩
    repeat tb_rel
    simp only [Nat.mul_zero, Nat.pow_zero, Nat.div_one, Nat.mul_one] at hq hr
    refine endK_ret (q r pq r' pr tt o' hq hr ho') (by kwd_less)
inductive sp_barrett_rest (vs : List MV) (g : Gl) (Q : MV → Gl → Prop) : Prop where
  | mk : ∀ b l o k p n pn t ot x m, vs = [.ref l, .ref t, .int (b : Nat), .ref 437] → (l, o) ∈ g → IsN b x o → (t, ot) ∈ g → Is (.tup [.ref k, .ref n]) ot → (k, p) ∈ g → IsN b m p → (n, pn) ∈ g → IsN b (2 ^ (b * 2) / m) pn → (6 ≤ b ∧ b ≤ 8) → 0 < m → m < 2 ^ b → (∀ r q, IsN b (x % m) q → Q (.ref r) ((r, q) :: g)) → sp_barrett_rest vs g Q
theorem barrett_rest_ok (w : World) : SoundF PR w (hK w.params) 7 222 sp_barrett_rest := by
  refine soundF (by k_is) (by k_is) [Str.ofString "a", Str.ofString "told", Str.ofString "w", Str.ofString "mul"] [] (by intro s vals h; obtain ⟨_, _, _, _, rfl⟩ := len4 h; exact BindsTo.of_eq rfl) (by rfl) (by decide) rfl rfl rfl (by decide) ?_
  rintro A L h₀ vs g Q ⟨b, l, o, k, p, n, pn, t, ot, x, m, rfl, hm, hxx, ht, hot, hk, hmm, hn, hnn, hb, hm0, hmB, q⟩
  refine ⟨rfl, ?_⟩
  simp only [List.zip_cons_cons, List.zip_nil_left, List.cons_append, List.nil_append, List.map_cons, List.map_nil]
  repeat tb_rel
  refine barrett_divrem_ok w _ _ _ _ _ _ _ _ _ (by decide) _ _ _ _ ⟨b, l, o, k, p, n, pn, t, ot, x, m, rfl, hm, hxx, ht, hot, hk, hmm, hn, hnn, hb, hm0, hmB, fun r₁ o₁ r₂ o₂ t' o' h₁ h₂ ho' => ?_⟩
  repeat tb_rel
  refine ITEM_tup mem_hd ho' (by tlg_ne) rfl (by tlg_ne) ?_
  repeat tb_rel
  refine endK_ret (q r₂ o₂ h₂) (by kwd_less)
inductive sp_doubled_rest (vs : List MV) (g : Gl) (Q : MV → Gl → Prop) : Prop where
  | mk : ∀ b l o k p x m, vs = [.ref l, .ref k, .int (b : Nat)] → (l, o) ∈ g → IsN b x o → (k, p) ∈ g → IsN b m p → (6 ≤ b ∧ b ≤ 8) → x < m → m < 2 ^ b → (∀ r q, IsN b (2 * x % m) q → Q (.ref r) ((r, q) :: g)) → sp_doubled_rest vs g Q
theorem doubled_rest_ok (w : World) : SoundF PR w (hK w.params) 3 250 sp_doubled_rest := by
  refine soundF (by k_is) (by k_is) [Str.ofString "a", Str.ofString "m", Str.ofString "w"] [Str.ofString "found"] (by intro s vals h; obtain ⟨_, _, _, rfl⟩ := len3 h; exact BindsTo.of_eq rfl) (by rfl) (by decide) rfl rfl rfl (by decide) ?_
  rintro A L h₀ vs g Q ⟨b, l, o, k, p, x, m, rfl, hm, hxx, hk, hmm, hb, hxm, hmB, q⟩
  refine ⟨rfl, ?_⟩
  simp only [List.zip_cons_cons, List.zip_nil_left, List.cons_append, List.nil_append, List.map_cons, List.map_nil]
  have hB := BN_rng hb
  repeat tb_rel
  refine shift_left_ok w _ _ _ _ _ _ _ _ _ (by decide) _ _ _ _ ⟨b, l, o, x, 1, rfl, hm, hxx, hb, by tlg_ne, by tlg_ne, fun r₁ o₁ h₁ => ?_⟩
  rw [Nat.pow_one, Nat.mul_comm] at h₁
  repeat tb_rel
  refine EV_ife ?_
  repeat tb_rel
  refine compare_ok w _ _ _ _ _ _ _ _ _ (by decide) _ _ _ _ ⟨b, r₁, o₁, k, p, _, m, rfl, mem_hd, h₁, by tb_start, hmm, hb.1, ?_⟩
  repeat tb_rel
  refine ⟨fun hc => ?_, fun hc => ?_⟩
  · have hge : m ≤ 2 * x := by
      simp only [decide_eq_true_eq] at hc
      unfold sgn at hc
      repeat' split at hc
      all_goals omega
    repeat tb_rel
    refine sub_ok w _ _ _ _ _ _ _ _ _ (by decide) _ _ _ _ ⟨b, r₁, o₁, k, p, _, m, rfl, mem_hd, h₁, by tb_start, hmm, hb, hge, fun r₂ o₂ h₂ => ?_⟩
    repeat tb_rel
    refine endK_ret (q r₂ o₂ ?_) (by kwd_less)
    rw [Nat.mod_eq_sub_mod hge, Nat.mod_eq_of_lt (by tlg_ne)]
    exact h₂
  · have hlt : 2 * x < m := by
      simp only [decide_eq_false_iff_not] at hc
      unfold sgn at hc
      repeat' split at hc
      all_goals omega
    repeat tb_rel
    refine endK_ret (q r₁ o₁ ?_) (by kwd_less)
    rw [Nat.mod_eq_of_lt hlt]
    exact h₁
inductive sp_taken_once (vs : List MV) (g : Gl) (Q : MV → Gl → Prop) : Prop where
  | mk : ∀ b l o k p x m g₁, vs = [.ref l, .ref k, .int (b : Nat)] → g = (l, o) :: g₁ → IsN b x o → (k, p) ∈ g₁ → IsN b m p → (6 ≤ b ∧ b ≤ 8) → x < 2 * m → (∀ r q, IsN b (x % m) q → Q (.ref r) ((r, q) :: g₁)) → sp_taken_once vs g Q
theorem taken_once_ok (w : World) : SoundF PR w (hK w.params) 3 271 sp_taken_once := by
  refine soundF (by k_is) (by k_is) [Str.ofString "a", Str.ofString "m", Str.ofString "w"] [] (by intro s vals h; obtain ⟨_, _, _, rfl⟩ := len3 h; exact BindsTo.of_eq rfl) (by rfl) (by decide) rfl rfl rfl (by decide) ?_
  rintro A L h₀ vs g Q ⟨b, l, o, k, p, x, m, g₁, rfl, rfl, hxx, hk, hmm, hb, hxm, q⟩
  refine ⟨rfl, ?_⟩
  simp only [List.zip_cons_cons, List.zip_nil_left, List.cons_append, List.nil_append, List.map_cons, List.map_nil]
  have hB := BN_rng hb
  repeat tb_rel
  refine EV_ife ?_
  repeat tb_rel
  refine compare_ok w _ _ _ _ _ _ _ _ _ (by decide) _ _ _ _ ⟨b, l, o, k, p, _, m, rfl, mem_hd, hxx, by tb_start, hmm, hb.1, ?_⟩
  repeat tb_rel
  refine ⟨fun hc => ?_, fun hc => ?_⟩
  · have hge : m ≤ x := by
      simp only [decide_eq_true_eq] at hc
      unfold sgn at hc
      repeat' split at hc
      all_goals omega
    repeat tb_rel
    refine sub_ok w _ _ _ _ _ _ _ _ _ (by decide) _ _ _ _ ⟨b, l, o, k, p, _, m, rfl, mem_hd, hxx, by tb_start, hmm, hb, hge, fun r₂ o₂ h₂ => ?_⟩
    repeat tb_rel
    refine endK_ret (q r₂ o₂ ?_) (by kwd_less)
    rw [Nat.mod_eq_sub_mod hge, Nat.mod_eq_of_lt (by tlg_ne)]
    exact h₂
  · have hlt : x < m := by
      simp only [decide_eq_false_iff_not] at hc
      unfold sgn at hc
      repeat' split at hc
      all_goals omega
    repeat tb_rel
    refine endK_ret (q l o ?_) (by kwd_less)
    rw [Nat.mod_eq_of_lt hlt]
    exact hxx
-- part F6
inductive sp_init (vs : List MV) (g : Gl) (Q : MV → Gl → Prop) : Prop where
  | mk : ∀ x dx g₁ k mi r1 r2, vs = [.ref x, .ref k, .int mi, .ref r1, .ref r2] → g = (x, instObj 239 dx) :: (dx, dictOf [] 0) :: g₁ → (∀ es n, Attrs es [(Str.ofString "modulus", .ref k), (Str.ofString "minus", .int mi), (Str.ofString "one", .ref r1), (Str.ofString "square", .ref r2)] → Q .none ((x, instObj 239 dx) :: (dx, dictOf es n) :: g₁)) → sp_init vs g Q
theorem init_ok (w : World) : SoundC PR w (hK w.params) 1 236 sp_init := by
  refine soundC (by k_is) (by k_is) [Str.ofString "self", Str.ofString "modulus", Str.ofString "minus", Str.ofString "one", Str.ofString "square"] [] (by intro s vals h; obtain ⟨_, _, _, _, _, rfl⟩ := len5 h; exact BindsTo.of_eq rfl) (by rfl) (by decide) rfl rfl rfl (by decide) ?_
  rintro A L h₀ vs g Q ⟨x, dx, g₁, k, mi, r1, r2, rfl, rfl, q⟩
  refine ⟨rfl, ?_⟩
  simp only [List.zip_cons_cons, List.zip_nil_left, List.cons_append, List.nil_append, List.map_cons, List.map_nil]
  repeat tb_rel
  refine EX_setattr ?_
  repeat tb_rel
  refine ⟨x, 239, dx, [], 0, [], rfl, mem_hd, ⟨by dsimp only; k_is, by dsimp only; k_is, by dsimp only; k_is, by dsimp only; k_is⟩, .nil, by decide, by decide, fun es n ha => ⟨_, by ktd_rel, ?_⟩⟩
  repeat tb_rel
  refine EX_setattr ?_
  repeat tb_rel
  refine ⟨x, 239, dx, _, _, _, rfl, mem_hd, ⟨by dsimp only; k_is, by dsimp only; k_is, by dsimp only; k_is, by dsimp only; k_is⟩, ha, by simp only [List.nil_append, List.cons_append, List.map_cons, List.map_nil]; decide, by simp, fun es n ha => ⟨_, by ktd_rel, ?_⟩⟩
  repeat tb_rel
  refine EX_setattr ?_
  repeat tb_rel
  refine ⟨x, 239, dx, _, _, _, rfl, mem_hd, ⟨by dsimp only; k_is, by dsimp only; k_is, by dsimp only; k_is, by dsimp only; k_is⟩, ha, by simp only [List.nil_append, List.cons_append, List.map_cons, List.map_nil]; decide, by simp, fun es n ha => ⟨_, by ktd_rel, ?_⟩⟩
  repeat tb_rel
  refine EX_setattr ?_
  repeat tb_rel
  refine ⟨x, 239, dx, _, _, _, rfl, mem_hd, ⟨by dsimp only; k_is, by dsimp only; k_is, by dsimp only; k_is, by dsimp only; k_is⟩, ha, by simp only [List.nil_append, List.cons_append, List.map_cons, List.map_nil]; decide, by simp, fun es n ha => ⟨_, by ktd_rel, ?_⟩⟩
  repeat tb_rel
  exact endK_next (q es n ha) (by kwd_less)
inductive Mont (b m : Nat) (x : Addr) (g : Gl) : Prop where
  | mk : ∀ dx es n k p mi r1 q1 r2 q2, (x, instObj 239 dx) ∈ g → (dx, dictOf es n) ∈ g → Attrs es [(Str.ofString "modulus", .ref k), (Str.ofString "minus", .int (mi : Nat)), (Str.ofString "one", .ref r1), (Str.ofString "square", .ref r2)] →
      (k, p) ∈ g → IsN b m p → (r1, q1) ∈ g → IsN b (2 ^ b % m) q1 → (r2, q2) ∈ g → IsN b (2 ^ (b + b) % m) q2 → mi < 2 ^ b → (m * mi + 1) % 2 ^ b = 0 → Mont b m x g
theorem Mont.mono {b m : Nat} {x : Addr} {g g' : Gl} (h : Mont b m x g) (s : ∀ p ∈ g, p ∈ g') : Mont b m x g' := by
  obtain ⟨dx, es, n, k, p, mi, r1, q1, r2, q2, hx, hdx, hA, hk, hmm, h1, h1', h2, h2', r, r'⟩ := h
  exact ⟨dx, es, n, k, p, mi, r1, q1, r2, q2, s _ hx, s _ hdx, hA, s _ hk, hmm, s _ h1, h1', s _ h2, h2', r, r'⟩
theorem Mont.up {b m : Nat} {x : Addr} {g : Gl} {e : Addr × Obj} (h : Mont b m x g) : Mont b m x (e :: g) := h.mono fun _ => mem_tl
theorem mont_to {b m a : Nat} (ho : m % 2 = 1) : a * (2 ^ (b + b) % m) * Ri b m % m = a * 2 ^ b % m := by
  rw [Nat.mul_assoc, Nat.mul_mod, Nat.mul_mod (2 ^ (b + b) % m), Nat.mod_mod, ← Nat.mul_mod (2 ^ (b + b)), Nat.pow_add, Nat.mul_assoc, Nat.mul_mod (2 ^ b), Nat.mul_comm _ (Ri b m), Ri_ok ho, ← Nat.mul_mod (2 ^ b) 1, Nat.mul_one, ← Nat.mul_mod]
inductive sp_mont_make (vs : List MV) (g : Gl) (Q : MV → Gl → Prop) : Prop where
  | mk : ∀ b k p m, vs = [.ref k, .int (b : Nat)] → (k, p) ∈ g → IsN b m p → (6 ≤ b ∧ b ≤ 8) → m < 64 → m % 2 = 1 → (∀ x dx es n r1 q1 r2 q2 mi, Attrs es [(Str.ofString "modulus", .ref k), (Str.ofString "minus", .int (mi : Nat)), (Str.ofString "one", .ref r1), (Str.ofString "square", .ref r2)] → IsN b (2 ^ b % m) q1 → IsN b (2 ^ (b + b) % m) q2 → mi < 2 ^ b → (m * mi + 1) % 2 ^ b = 0 →
  Q (.ref x) ((x, instObj 239 dx) :: (dx, dictOf es n) :: (r2, q2) :: (r1, q1) :: g)) → sp_mont_make vs g Q
theorem mont_make_ok (w : World) : SoundF PR w (hK w.params) 4 257 sp_mont_make := by
  refine soundF (by k_is) (by k_is) [Str.ofString "m", Str.ofString "w"] [Str.ofString "one", Str.ofString "turn", Str.ofString "square"] (by intro s vals h; obtain ⟨_, _, rfl⟩ := len2 h; exact BindsTo.of_eq rfl) (by rfl) (by decide) rfl rfl rfl (by decide) ?_
  rintro A L h₀ vs g Q ⟨b, k, p, m, rfl, hk, hmm, hb, hm64, hodd, q⟩
  refine ⟨rfl, ?_⟩
  simp only [List.zip_cons_cons, List.zip_nil_left, List.cons_append, List.nil_append, List.map_cons, List.map_nil]
  obtain ⟨hz, ms, nm, him⟩ := id hmm
  have hB := B_rng hb
  have hBN := BN_rng hb
  have hm0 : 0 < m := by tlg_ne
  have hmB : m < 2 ^ b := by tlg_ne
  obtain rfl := nm.one_limb hm0 hmB
  repeat tb_rel
  refine TST_plain ?_
  repeat tb_rel
  refine is_even_ok w _ _ _ _ _ _ _ _ _ (by decide) _ _ _ _ ⟨k, p, _, rfl, hk, him, by simp, ?_⟩
  repeat tb_rel
  refine ⟨fun hc => ?_, fun _ => ?_⟩
  · exfalso
    simp only [decide_eq_true_eq, List.length_cons, List.length_nil, List.getD_cons_zero] at hc
    omega
  refine EXS_nil ?_
  first | refine seqK_next ?_ | refine Seal.go (by assumption) (seqK_next ?_)
  refine EXS_join (fun loc g' => E2 fun r q => A3 (loc = [(Str.ofString "m", .ref k), (Str.ofString "w", .int (b : Nat)), (Str.ofString "one", .ref r), (Str.ofString "turn", .undef), (Str.ofString "square", .undef)]) (g' = (r, q) :: g) (IsN b (2 ^ 0 % m) q)) ?_ ?_
  · repeat tb_rel
    refine EV_ife ?_
    repeat tb_rel
    refine EV_one ?_
    repeat tb_rel
    rintro r₁ o₁ h₁
    refine CMP_list (by tb_start) him mem_hd h₁ ?_
    repeat tb_rel
    refine ⟨fun hc => ?_, fun hc => ?_⟩
    · simp only [decide_eq_true_eq] at hc
      repeat tb_rel
      rintro r₂ o₂ h₂
      repeat tb_rel
      refine ⟨rfl, (r₂, o₂) :: g, by kwd_less, r₂, o₂, rfl, rfl, Nat.lt_trans (Nat.mod_lt _ hm0) hz, _, ?_, h₂⟩
      have : m = 1 := by simp at hc; omega
      subst this
      exact Num.nil
    · simp only [decide_eq_false_iff_not] at hc
      have hm1 : m ≠ 1 := fun e => hc (by rw [e]; rfl)
      repeat tb_rel
      refine EV_one ?_
      repeat tb_rel
      rintro r₂ o₂ h₂
      repeat tb_rel
      refine ⟨rfl, (r₂, o₂) :: g, by kwd_less, r₂, o₂, rfl, rfl, ?_⟩
      rw [Nat.pow_zero, Nat.mod_eq_of_lt (by tlg_ne)]
      exact IsN.one hb.1 h₂
  rintro _ _ ⟨r₀, o₀, rfl, rfl, h₀⟩
  repeat tb_rel
  refine EX_range (by dsimp only; k_is) boot_range (by exact rfl) ?_
  repeat tb_rel
  refine BIN_mul (by simp) (by simp) ?_
  repeat tb_rel
  refine ⟨_, _, _, .one _, .inl rfl, by simp; omega, ?_⟩
  rw [if_pos rfl, show ((([(m : Int)].length : Nat) : Int) * (b : Int) - 0).toNat = b by simp]
  refine FORB_rng (fun i loc g' => E3 fun u r q => A3 (loc = [(Str.ofString "m", .ref k), (Str.ofString "w", .int (b : Nat)), (Str.ofString "one", .ref r), (Str.ofString "turn", u), (Str.ofString "square", .undef)]) (List.Sublist ((r, q) :: g) g') (IsN b (2 ^ i % m) q))
    ⟨_, r₀, o₀, rfl, List.Sublist.refl _, h₀⟩ ?_ ?_
  · clear h₀
    rintro i _ g' hlt N hN ⟨u, r, q, rfl, hsub, hq⟩
    refine ⟨_, .name (by kwd_rel), ?_⟩
    refine TR.drop hsub ?_
    clear hsub
    repeat tb_rel
    refine doubled_rest_ok w _ _ _ _ _ _ _ _ _ (by decide) _ _ _ _ ⟨b, r, q, k, p, _, m, rfl, mem_hd, hq, by tb_start, hmm, hb, Nat.mod_lt _ hm0, hmB, fun r₁ o₁ h₁ => ?_⟩
    repeat tb_rel
    rw [dbl_mod] at h₁
    exact ⟨fun _ h => (nomatch h), _, r₁, o₁, rfl, by kwd_less, h₁⟩
  clear h₀
  rintro _ _ ⟨u, r₁, o₁, rfl, hsub, h₁⟩
  first | refine seqK_next ?_ | refine Seal.go (by assumption) (seqK_next ?_)
  refine TR.drop hsub ?_
  clear hsub
  repeat tb_rel
  refine EX_range (by dsimp only; k_is) boot_range (by exact rfl) ?_
  repeat tb_rel
  refine BIN_mul (by simp) (by simp) ?_
  repeat tb_rel
  refine ⟨_, _, _, .one _, .inl rfl, by simp; omega, ?_⟩
  rw [if_pos rfl, show ((([(m : Int)].length : Nat) : Int) * (b : Int) - 0).toNat = b by simp]
  refine FORB_rng (fun i loc g' => E3 fun u r q => A5 (loc = [(Str.ofString "m", .ref k), (Str.ofString "w", .int (b : Nat)), (Str.ofString "one", .ref r₁), (Str.ofString "turn", u), (Str.ofString "square", .ref r)]) ((r, q) ∈ g') (List.Sublist ((r₁, o₁) :: g) g') ((0 < i → List.Sublist ((r, q) :: (r₁, o₁) :: g) g')) (IsN b (2 ^ (b + i) % m) q))
    ⟨_, r₁, o₁, rfl, mem_hd, List.Sublist.refl _, fun h => absurd h (by decide), h₁⟩ ?_ ?_
  · rintro i _ g' hlt N hN ⟨u, r, q, rfl, hr, hsub, -, hq⟩
    refine ⟨_, .name (by kwd_rel), ?_⟩
    have hk' := hsub.subset (mem_tl hk)
    repeat tb_rel
    refine doubled_rest_ok w _ _ _ _ _ _ _ _ _ (by decide) _ _ _ _ ⟨b, r, q, k, p, _, m, rfl, hr, hq, hk', hmm, hb, Nat.mod_lt _ hm0, hmB, fun r₂ o₂ h₂ => ?_⟩
    repeat tb_rel
    rw [dbl_mod] at h₂
    exact ⟨fun _ h => (nomatch h), _, r₂, o₂, rfl, mem_hd, hsub.cons _, fun _ => hsub.cons_cons _, h₂⟩
  rintro _ _ ⟨u, r₂, o₂, rfl, -, -, hsub, h₂⟩
  first | refine seqK_next ?_ | refine Seal.go (by assumption) (seqK_next ?_)
  refine TR.drop (hsub (by tlg_ne)) ?_
  clear hsub
  repeat tb_rel
  refine ITEM_num (by tb_start) him (by tlg_ne) (by simp) (by simp) ?_
  repeat tb_rel
  rw [show [(m : Int)].getD (0 : Int).toNat 0 = (m : Int) from rfl]
  refine inverse_limb_ok w _ _ _ _ _ _ _ _ _ (by decide) _ _ _ _ ⟨b, m, rfl, hb, hm64, hodd, fun v hv hdv => ?_⟩
  repeat tb_rel
  obtain ⟨mi, hmi, he, hmm2⟩ := neg_inv (Nat.two_pow_pos b) hdv
  rw [pow_two_nat] at he
  rw [he]
  refine CALL_make (init_ok w) (by dsimp only; k_is) (by dsimp only; k_is) (by dsimp only; k_is) (by dsimp only; decide) fun x dx => ?_
  refine ⟨x, dx, _, k, mi, r₁, r₂, rfl, rfl, fun es n ha => ⟨rfl, ?_⟩⟩
  repeat tb_rel
  exact endK_ret (q x dx es n r₁ o₁ r₂ o₂ mi ha h₁ h₂ hmi hmm2) (by kwd_less)
inductive sp_add_row (vs : List MV) (g : Gl) (Q : MV → Gl → Prop) : Prop where
  | mk : ∀ b r o g₁ k p m lm F, vs = [.ref r, .ref k, .int lm, .int 0, .int (b : Nat)] → g = (r, o) :: g₁ → Is (.list (nums F)) o → F.length = 3 → Dg b F → (k, p) ∈ g₁ → IsN b m p → (6 ≤ b ∧ b ≤ 8) → 0 < m → m < 2 ^ b → 0 ≤ lm → vl b F + m * lm < 2 ^ (b * 3) → (∀ o' F', Is (.list (nums F')) o' → F'.length = 3 → Dg b F' → vl b F' = vl b F + m * lm → Q .none ((r, o') :: g₁)) → sp_add_row vs g Q
theorem add_row_ok (w : World) : SoundF PR w (hK w.params) 1 264 sp_add_row := by
  refine soundF (by k_is) (by k_is) [Str.ofString "rest", Str.ofString "m", Str.ofString "limb", Str.ofString "at", Str.ofString "w"] [Str.ofString "carry", Str.ofString "mask", Str.ofString "one"] (by intro s vals h; obtain ⟨_, _, _, _, _, rfl⟩ := len5 h; exact BindsTo.of_eq rfl) (by rfl) (by decide) rfl rfl rfl (by decide) ?_
  rintro A L h₀ vs g Q ⟨b, r, o, g₁, k, p, m, lm, F, rfl, rfl, hF, lF, dF, hk, ⟨hz, ms, nm, him⟩, hb, hm0, hmB, hl0, hV, q⟩
  refine ⟨rfl, ?_⟩
  simp only [List.zip_cons_cons, List.zip_nil_left, List.cons_append, List.nil_append, List.map_cons, List.map_nil]
  have hB := B_rng hb
  have hmI : (m : Int) < 2 ^ b := by rw [← pow_two_nat]; omega
  obtain rfl := nm.one_limb hm0 hmB
  repeat tb_rel
  refine EX_swap (xs := [Str.ofString "carry", Str.ofString "mask"]) ?_ (by exact rfl) (by exact rfl)
  repeat tb_rel
  refine ⟨by simp, fun tt o' ho' => ⟨tt, o', _, _, rfl, mem_hd, ho', .cons (by kwd_rel) (.cons (by kwd_rel) .nil), ?_⟩⟩
  refine TR.drop (g' := (r, o) :: g₁) (by kwd_less) ?_
  repeat tb_rel
  refine EX_forlist ?_
  repeat tb_rel
  refine ⟨k, p, _, rfl, by tb_start, him, ?_⟩
  refine FORB_one fun N hN => ⟨_, .name (by kwd_rel), ?_⟩
  have d0 := dF.get 0
  repeat tb_rel
  refine ITEM_num mem_hd hF (by tlg_ne) (by tlg_ne) (by tlg_ne) ?_
  repeat tb_rel
  refine BIN_mul (by tlg_ne) (by tlg_ne) ?_
  repeat tb_rel
  refine EX_setN ?_
  repeat tb_rel
  refine ⟨_, _, _, _, _, rfl, rfl, rfl, hF, by tlg_ne, fun o₁ ho₁ => ⟨_, by ktd_rel, ?_⟩⟩
  repeat tb_rel
  refine ⟨fun p hp => by rw [List.mem_singleton.mp hp]; tb_start, ?_⟩
  repeat tb_rel
  rw [show (0 : Int).toNat = 0 from rfl] at *
  have hml : 0 ≤ (m : Int) * lm := Int.mul_nonneg (by tlg_ne) hl0
  refine EX_while_inv (fun N loc g' => E4 fun j c F' o' => A10 (3 - j = N) (1 ≤ j) (j ≤ 3) (loc = [(Str.ofString "rest", .ref r), (Str.ofString "m", .ref k), (Str.ofString "limb", .int lm), (Str.ofString "at", .int (j : Nat)), (Str.ofString "w", .int (b : Nat)), (Str.ofString "carry", .int c), (Str.ofString "mask", .int (2 ^ b - 1)), (Str.ofString "one", .int m)]) (g' = (r, o') :: g₁) (Is (.list (nums F')) o') (F'.length = 3) (Dg b F') (0 ≤ c) (vl b F' + 2 ^ (b * j) * c = vl b F + m * lm)) (n := 2)
    ⟨1, _, _, _, rfl, by tlg_ne, by tlg_ne, rfl, rfl, ho₁, by simp [lF], dF.set (Int.emod_nonneg _ (by tlg_ne)) (Int.emod_lt_of_pos _ (by tlg_ne)), Int.ediv_nonneg (by tlg_ne) (by tlg_ne), ?_⟩ ?_
  · rw [vl_set (by tlg_ne), Nat.mul_zero, Nat.mul_one, Int.pow_zero, Int.one_mul]
    have := Int.mul_ediv_add_emod (0 + (F.getD 0 0 + m * lm)) (2 ^ b)
    omega
  · clear ho₁
    rintro _ _ _ N M hN hM ⟨j, c, F', o', rfl, h1, h3, rfl, rfl, ho', lF', dF', hc0, hv⟩
    have dj := dF'.get j
    repeat tb_rel
    refine ⟨fun hc => ?_, fun hc => ?_⟩
    · simp only [decide_eq_true_eq] at hc
      have hj : j < 3 := by
        rcases Nat.lt_or_ge j 3 with h | h
        · exact h
        · exfalso
          have : j = 3 := by tlg_ne
          subst this
          have h0 := vl_nonneg dF'
          have h4 : (2 : Int) ^ (b * 3) * 1 ≤ 2 ^ (b * 3) * c := Int.mul_le_mul_of_nonneg_left (by tlg_ne) (Int.le_of_lt (pos2 _))
          omega
      repeat tb_rel
      refine ITEM_num mem_hd ho' (by tlg_ne) (by tlg_ne) (by tlg_ne) ?_
      rw [Int.toNat_natCast]
      repeat tb_rel
      refine EX_setN ?_
      repeat tb_rel
      refine ⟨_, _, _, _, _, rfl, rfl, rfl, ho', by tlg_ne, fun o₁ ho₁ => ⟨_, by ktd_rel, ?_⟩⟩
      rw [Int.toNat_natCast] at ho₁
      repeat tb_rel
      refine ⟨3 - (j + 1), by tlg_ne, j + 1, _, _, _, rfl, by tlg_ne, by tlg_ne, rfl, rfl, ho₁, by simp [lF'], dF'.set (Int.emod_nonneg _ (by tlg_ne)) (Int.emod_lt_of_pos _ (by tlg_ne)), Int.ediv_nonneg (by tlg_ne) (by tlg_ne), ?_⟩
      rw [vl_set (by tlg_ne), Nat.mul_add, Nat.mul_one, Int.pow_add, Int.mul_assoc, Int.add_assoc, ← Int.mul_add]
      have h5 := Int.mul_ediv_add_emod (c + F'.getD j 0) (2 ^ b)
      rw [show (c + F'.getD j 0) % 2 ^ b - F'.getD j 0 + 2 ^ b * ((c + F'.getD j 0) / 2 ^ b) = c by tlg_ne]
      exact hv
    · simp only [decide_eq_false_iff_not] at hc
      have hc1 : c = 0 := by tlg_ne
      subst hc1
      repeat tb_rel
      exact endK_next (q o' F' ho' lF' dF' (by tlg_ne)) (by kwd_less)
inductive sp_redc (vs : List MV) (g : Gl) (Q : MV → Gl → Prop) : Prop where
  | mk : ∀ b l o x a m, vs = [.ref l, .ref x, .int (b : Nat)] → (l, o) ∈ g → IsN b a o → Mont b m x g → (6 ≤ b ∧ b ≤ 8) → m < 64 → m % 2 = 1 → a < m * 2 ^ b → (∀ r q, IsN b (a * Ri b m % m) q → Q (.ref r) ((r, q) :: g)) → sp_redc vs g Q
theorem redc_ok (w : World) : SoundF PR w (hK w.params) 4 278 sp_redc := by
  refine soundF (by k_is) (by k_is) [Str.ofString "a", Str.ofString "told", Str.ofString "w"] [Str.ofString "m", Str.ofString "size", Str.ofString "rest", Str.ofString "mask", Str.ofString "at"] (by intro s vals h; obtain ⟨_, _, _, rfl⟩ := len3 h; exact BindsTo.of_eq rfl) (by rfl) (by decide) rfl rfl rfl (by decide) ?_
  rintro A L h₀ vs g Q ⟨b, l, o, x, a, m, rfl, hm, haa, ⟨dx, es, n, k, p, mi, r1, q1, r2, q2, hx, hdx, hA, hk, hmm, h1, h1', h2, h2', hmi, hinv⟩, hb, hm64, hodd, ham, q⟩
  refine ⟨rfl, ?_⟩
  simp only [List.zip_cons_cons, List.zip_nil_left, List.cons_append, List.nil_append, List.map_cons, List.map_nil]
  obtain ⟨hz, ms, nm, him⟩ := id hmm
  obtain ⟨haz, xs, nx, hi⟩ := id haa
  have hB := B_rng hb
  have hBN := BN_rng hb
  have hm0 : 0 < m := by tlg_ne
  have hmB : m < 2 ^ b := by tlg_ne
  obtain rfl := nm.one_limb hm0 hmB
  have hlx : xs.length ≤ 2 := nx.len_le (Nat.lt_of_lt_of_le ham (by rw [Nat.mul_comm b 2, Nat.two_mul, Nat.pow_add]; exact Nat.mul_le_mul_right _ (by tlg_ne)))
  have hmB2 : m * 2 ^ b ≤ 64 * 256 := Nat.mul_le_mul (by tlg_ne) hBN.2
  repeat tb_rel
  refine EV_attr ?_
  repeat tb_rel
  refine ⟨x, 239, dx, es, n, _, .ref k, rfl, hx, hdx, ⟨by dsimp only; k_is, by dsimp only; k_is, by dsimp only; k_is⟩, hA, by simp only [List.map_cons, List.map_nil]; decide, by first | exact mem_hd | exact mem_tl mem_hd | exact mem_tl (mem_tl mem_hd) | exact mem_tl (mem_tl (mem_tl mem_hd)), (fun _ h => nomatch h), ?_⟩
  repeat tb_rel
  refine lifted_ok w _ _ _ _ _ _ _ _ _ (by decide) _ _ _ _ ⟨b, k, p, m, 1, rfl, hk, hmm, hb.1, by tlg_ne, by rw [Nat.mul_one]; omega, fun r₁ o₁ h₁ => ?_⟩
  rw [Nat.mul_one] at h₁
  repeat tb_rel
  refine compare_ok w _ _ _ _ _ _ _ _ _ (by decide) _ _ _ _ ⟨b, l, o, r₁, o₁, a, _, rfl, by tb_start, haa, mem_hd, h₁, hb.1, ?_⟩
  repeat tb_rel
  refine ⟨fun hc => ?_, fun _ => ?_⟩
  · exfalso
    simp only [decide_eq_true_eq] at hc
    unfold sgn at hc
    rw [if_pos (by tlg_ne)] at hc
    omega
  refine EXS_nil ?_
  first | refine seqK_next ?_ | refine Seal.go (by assumption) (seqK_next ?_)
  refine TR.drop (g' := g) (by kwd_less) ?_
  repeat tb_rel
  refine EX_swap (xs := [Str.ofString "rest", Str.ofString "mask"]) ?_ (by exact rfl) (by exact rfl)
  repeat tb_rel
  refine EV_one ?_
  repeat tb_rel
  rintro r₂ o₂ h₂
  repeat tb_rel
  refine BIN_mul (by simp) (by simp) ?_
  repeat tb_rel
  rw [show (2 : Int) * (([(m : Int)].length : Nat) : Int) + 1 - (xs.length : Int) = 3 - (xs.length : Int) by simp]
  refine BIN_repN mem_hd h₂ (by tlg_ne) (by tlg_ne) fun r₃ o₃ h₃ => ?_
  refine BIN_catN (by tb_start) hi mem_hd h₃ (by simp; omega) fun r₀ o₀ ho₀ => ?_
  rw [show (3 - (xs.length : Int)).toNat = 3 - xs.length by tlg_ne] at ho₀
  repeat tb_rel
  refine ⟨by simp, fun tt o' ho' => ⟨tt, o', _, _, rfl, mem_hd, ho', .cons (by kwd_rel) (.cons (by kwd_rel) .nil), ?_⟩⟩
  refine TR.drop (g' := (r₀, o₀) :: g) (by kwd_less) ?_
  obtain ⟨F, hF⟩ : ∃ F, F = xs ++ List.replicate (3 - xs.length) 0 := ⟨_, rfl⟩
  rw [← hF] at ho₀
  have dF : Dg b F := by rw [hF]; exact nx.1.app Dg.rep
  have lF : F.length = 3 := by rw [hF]; simp; omega
  have vF : vl b F = a := by rw [hF, vl_app, vl_rep, nx.2.1]; omega
  clear hF h₂ h₃ ho' h₁
  have f0 : F.getD 0 0 = ((a % 2 ^ b : Nat) : Int) := by
    have h := vl_drop_cons (b := b) (xs := F) (j := 0) (by tlg_ne)
    rw [List.drop_zero, vF] at h
    push_cast
    rw [h, Int.add_mul_emod_self_left, Int.emod_eq_of_lt (dF.get 0).1 (dF.get 0).2]
  repeat tb_rel
  refine EX_range (by dsimp only; k_is) boot_range (by exact rfl) ?_
  repeat tb_rel
  refine ⟨_, _, _, .one _, .inl rfl, by simp, ?_⟩
  refine FORB_one fun N hN => ⟨_, .name (by kwd_rel), ?_⟩
  repeat tb_rel
  refine ITEM_num mem_hd ho₀ (by tlg_ne) (by tlg_ne) (by tlg_ne) ?_
  rw [show F.getD (0 : Int).toNat 0 = _ from f0]
  refine EV_attr ?_
  repeat tb_rel
  refine ⟨x, 239, dx, es, n, _, .int (mi : Nat), rfl, by tb_start, by tb_start, ⟨by dsimp only; k_is, by dsimp only; k_is, by dsimp only; k_is⟩, hA, by simp only [List.map_cons, List.map_nil]; decide, by first | exact mem_hd | exact mem_tl mem_hd | exact mem_tl (mem_tl mem_hd) | exact mem_tl (mem_tl (mem_tl mem_hd)), (fun _ h => nomatch h), ?_⟩
  have ha0 : a % 2 ^ b < 2 ^ b := Nat.mod_lt _ (by tlg_ne)
  refine BIN_mul (by tlg_ne) (by tlg_ne) ?_
  repeat tb_rel
  obtain ⟨lm, hlm⟩ : ∃ lm, lm = a % 2 ^ b * mi % 2 ^ b := ⟨_, rfl⟩
  have hlmB : lm < 2 ^ b := by rw [hlm]; exact Nat.mod_lt _ (by tlg_ne)
  rw [show ((a % 2 ^ b : Nat) : Int) * (mi : Int) % 2 ^ b = (lm : Int) by rw [hlm]; push_cast; rfl]
  have hzero : (a + m * lm) % 2 ^ b = 0 := by rw [hlm]; exact row_zero hinv
  have hml : m * lm < m * 2 ^ b := Nat.mul_lt_mul_of_pos_left hlmB hm0
  have hV : (a : Int) + m * lm < 2 ^ (b * 3) := by
    rw [← pow_two_nat]
    have e : 2 ^ (b * 3) = 2 ^ b * 2 ^ b * 2 ^ b := by rw [← Nat.pow_add, ← Nat.pow_add]; congr 1; omega
    have : 64 * 64 * 2 ^ b ≤ 2 ^ b * 2 ^ b * 2 ^ b := Nat.mul_le_mul_right _ (Nat.mul_le_mul hBN.1 hBN.1)
    have h5 : a + m * lm < 2 * (m * 2 ^ b) := by tlg_ne
    have h6 : m * 2 ^ b ≤ 64 * 2 ^ b := Nat.mul_le_mul_right _ (by tlg_ne)
    have h7 : a + m * lm < 2 ^ (b * 3) := by tlg_ne
    have := Int.ofNat_lt.mpr h7
    push_cast at this ⊢
    exact this
  refine add_row_ok w _ _ _ _ _ _ _ _ _ (by decide) _ _ _ _ ⟨b, r₀, o₀, g, k, p, m, lm, F, rfl, rfl, ho₀, lF, dF, hk, hmm, hb, hm0, hmB, by tlg_ne, by rw [vF]; exact hV, fun o₁ F' ho₁ lF' dF' vF' => ?_⟩
  rw [vF] at vF'
  clear vF ho₀ f0 lF dF hV
  repeat tb_rel
  refine ⟨fun _ h => (nomatch h), ?_⟩
  first | refine seqK_next ?_ | refine Seal.go (by assumption) (seqK_next ?_)
  repeat tb_rel
  refine ⟨r₀, o₁, F', some ((([(m : Int)].length : Nat)) : Int), none, rfl, mem_hd, ho₁, by tlg_ne, .int _, .none, fun r₂ o₂ h₂ => ?_⟩
  rw [pickN_from _ _ (by tlg_ne), show ((([(m : Int)].length : Nat)) : Int).toNat = 1 from rfl] at h₂
  have vD : vl b (F'.drop 1) = (((a + m * lm) / 2 ^ b : Nat) : Int) := by
    have h := vl_drop_cons (b := b) (xs := F') (j := 0) (by tlg_ne)
    rw [List.drop_zero, vF'] at h
    have h0 := dF'.get 0
    push_cast
    rw [h, Int.add_mul_ediv_left _ _ (by tlg_ne), Int.ediv_eq_zero_of_lt h0.1 h0.2]
    show _ = 0 + vl b (List.drop 1 F')
    omega
  have hy2 : (a + m * lm) / 2 ^ b < 2 * m := Nat.div_lt_of_lt_mul (by rw [Nat.mul_comm (2 ^ b), Nat.mul_assoc]; omega)
  have hyB : (a + m * lm) / 2 ^ b * 2 ^ b = a + m * lm := Nat.div_mul_cancel (Nat.dvd_of_mod_eq_zero hzero)
  have hyv := redc_val (b := b) (m := m) (a := a) (y := (a + m * lm) / 2 ^ b) hodd (by rw [hyB, Nat.add_mul_mod_self_left])
  generalize (a + m * lm) / 2 ^ b = y at *
  repeat tb_rel
  refine normal_ok w _ _ _ _ _ _ _ _ _ (by decide) _ _ _ _ ⟨r₂, o₂, _, rfl, mem_hd, h₂, by simp; omega, fun r₃ o₃ h₃ => ?_⟩
  repeat tb_rel
  refine taken_once_ok w _ _ _ _ _ _ _ _ _ (by decide) _ _ _ _ ⟨b, r₃, o₃, k, p, y, m, _, rfl, rfl, ⟨by tlg_ne, _, strip_num (dF'.drop 1) vD, h₃⟩, by tb_start, hmm, hb, hy2, fun r₄ o₄ h₄ => ?_⟩
  rw [hyv] at h₄
  repeat tb_rel
  exact endK_ret (q r₄ o₄ h₄) (by kwd_less)
inductive sp_to_mont (vs : List MV) (g : Gl) (Q : MV → Gl → Prop) : Prop where
  | mk : ∀ b l o x a m, vs = [.ref l, .ref x, .int (b : Nat), .ref 437] → (l, o) ∈ g → IsN b a o → Mont b m x g → (6 ≤ b ∧ b ≤ 8) → m < 64 → m % 2 = 1 → a < m → (∀ r q, IsN b (a * 2 ^ b % m) q → Q (.ref r) ((r, q) :: g)) → sp_to_mont vs g Q
theorem to_mont_ok (w : World) : SoundF PR w (hK w.params) 5 285 sp_to_mont := by
  refine soundF (by k_is) (by k_is) [Str.ofString "a", Str.ofString "told", Str.ofString "w", Str.ofString "mul"] [] (by intro s vals h; obtain ⟨_, _, _, _, rfl⟩ := len4 h; exact BindsTo.of_eq rfl) (by rfl) (by decide) rfl rfl rfl (by decide) ?_
  rintro A L h₀ vs g Q ⟨b, l, o, x, a, m, rfl, hm, haa, hM, hb, hm64, hodd, ham, q⟩
  refine ⟨rfl, ?_⟩
  simp only [List.zip_cons_cons, List.zip_nil_left, List.cons_append, List.nil_append, List.map_cons, List.map_nil]
  obtain ⟨dx, es, n, k, p, mi, r1, q1, r2, q2, hx, hdx, hA, hk, hmm, h1, h1', h2, h2', hmi, hinv⟩ := id hM
  have hBN := BN_rng hb
  repeat tb_rel
  refine EV_attr ?_
  repeat tb_rel
  refine ⟨x, 239, dx, es, n, _, .ref k, rfl, hx, hdx, ⟨by dsimp only; k_is, by dsimp only; k_is, by dsimp only; k_is⟩, hA, by simp only [List.map_cons, List.map_nil]; decide, by first | exact mem_hd | exact mem_tl mem_hd | exact mem_tl (mem_tl mem_hd) | exact mem_tl (mem_tl (mem_tl mem_hd)), (fun _ h => nomatch h), ?_⟩
  repeat tb_rel
  refine compare_ok w _ _ _ _ _ _ _ _ _ (by decide) _ _ _ _ ⟨b, l, o, k, p, a, m, rfl, by tb_start, haa, hk, hmm, hb.1, ?_⟩
  repeat tb_rel
  refine ⟨fun hc => ?_, fun _ => ?_⟩
  · exfalso
    simp only [decide_eq_true_eq] at hc
    unfold sgn at hc
    rw [if_pos (by tlg_ne)] at hc
    omega
  repeat tb_rel
  refine EV_attr ?_
  repeat tb_rel
  refine ⟨x, 239, dx, es, n, _, .ref r2, rfl, hx, hdx, ⟨by dsimp only; k_is, by dsimp only; k_is, by dsimp only; k_is⟩, hA, by simp only [List.map_cons, List.map_nil]; decide, by first | exact mem_hd | exact mem_tl mem_hd | exact mem_tl (mem_tl mem_hd) | exact mem_tl (mem_tl (mem_tl mem_hd)), (fun _ h => nomatch h), ?_⟩
  repeat tb_rel
  have hs : 2 ^ (b + b) % m < m := Nat.mod_lt _ (by tlg_ne)
  have hp : a * (2 ^ (b + b) % m) < m * 64 := Nat.lt_of_le_of_lt (Nat.mul_le_mul_left a (Nat.le_of_lt hs)) (Nat.mul_lt_mul_of_lt_of_le ham (by tlg_ne) (by tlg_ne))
  have hp2 : m * 64 ≤ m * 2 ^ b := Nat.mul_le_mul_left _ hBN.1
  refine mul_school_ok w _ _ _ _ _ _ _ _ _ (by decide) _ _ _ _ ⟨b, l, o, r2, q2, a, _, rfl, hm, haa, h2, h2', hb, by tlg_ne, fun r₁ o₁ h₁ => ?_⟩
  repeat tb_rel
  refine redc_ok w _ _ _ _ _ _ _ _ _ (by decide) _ _ _ _ ⟨b, r₁, o₁, x, _, m, rfl, mem_hd, h₁, Mont.up hM, hb, hm64, hodd, by tlg_ne, fun r₂ o₂ h₂ => ?_⟩
  rw [mont_to hodd] at h₂
  repeat tb_rel
  exact endK_ret (q r₂ o₂ h₂) (by kwd_less)
inductive sp_from_mont (vs : List MV) (g : Gl) (Q : MV → Gl → Prop) : Prop where
  | mk : ∀ b l o x a m, vs = [.ref l, .ref x, .int (b : Nat)] → (l, o) ∈ g → IsN b a o → Mont b m x g → (6 ≤ b ∧ b ≤ 8) → m < 64 → m % 2 = 1 → a < m * 2 ^ b → (∀ r q, IsN b (a * Ri b m % m) q → Q (.ref r) ((r, q) :: g)) → sp_from_mont vs g Q
theorem from_mont_ok (w : World) : SoundF PR w (hK w.params) 5 292 sp_from_mont := by
  refine soundF (by k_is) (by k_is) [Str.ofString "a", Str.ofString "told", Str.ofString "w"] [] (by intro s vals h; obtain ⟨_, _, _, rfl⟩ := len3 h; exact BindsTo.of_eq rfl) (by rfl) (by decide) rfl rfl rfl (by decide) ?_
  rintro A L h₀ vs g Q ⟨b, l, o, x, a, m, rfl, hm, haa, hM, hb, hm64, hodd, ham, q⟩
  refine ⟨rfl, ?_⟩
  simp only [List.zip_cons_cons, List.zip_nil_left, List.cons_append, List.nil_append, List.map_cons, List.map_nil]
  repeat tb_rel
  refine redc_ok w _ _ _ _ _ _ _ _ _ (by decide) _ _ _ _ ⟨b, l, o, x, a, m, rfl, hm, haa, hM, hb, hm64, hodd, ham, fun r₂ o₂ h₂ => ?_⟩
  repeat tb_rel
  exact endK_ret (q r₂ o₂ h₂) (by kwd_less)
inductive sp_mont_mul (vs : List MV) (g : Gl) (Q : MV → Gl → Prop) : Prop where
  | mk : ∀ b l o k p x a c m, vs = [.ref l, .ref k, .ref x, .int (b : Nat), .ref 437] → (l, o) ∈ g → IsN b a o → (k, p) ∈ g → IsN b c p → Mont b m x g → (6 ≤ b ∧ b ≤ 8) → m < 64 → m % 2 = 1 → a < m → c < m → (∀ r q, IsN b (a * c * Ri b m % m) q → Q (.ref r) ((r, q) :: g)) → sp_mont_mul vs g Q
theorem mont_mul_ok (w : World) : SoundF PR w (hK w.params) 5 299 sp_mont_mul := by
  refine soundF (by k_is) (by k_is) [Str.ofString "a", Str.ofString "b", Str.ofString "told", Str.ofString "w", Str.ofString "mul"] [] (by intro s vals h; obtain ⟨_, _, _, _, _, rfl⟩ := len5 h; exact BindsTo.of_eq rfl) (by rfl) (by decide) rfl rfl rfl (by decide) ?_
  rintro A L h₀ vs g Q ⟨b, l, o, k, p, x, a, c, m, rfl, hm, haa, hk, hcc, hM, hb, hm64, hodd, ham, hcm, q⟩
  refine ⟨rfl, ?_⟩
  simp only [List.zip_cons_cons, List.zip_nil_left, List.cons_append, List.nil_append, List.map_cons, List.map_nil]
  have hBN := BN_rng hb
  have hp : a * c < m * 64 := Nat.lt_of_le_of_lt (Nat.mul_le_mul_left a (Nat.le_of_lt hcm)) (Nat.mul_lt_mul_of_lt_of_le ham (by tlg_ne) (by tlg_ne))
  have hp2 : m * 64 ≤ m * 2 ^ b := Nat.mul_le_mul_left _ hBN.1
  repeat tb_rel
  refine mul_school_ok w _ _ _ _ _ _ _ _ _ (by decide) _ _ _ _ ⟨b, l, o, k, p, a, c, rfl, hm, haa, hk, hcc, hb, by tlg_ne, fun r₁ o₁ h₁ => ?_⟩
  repeat tb_rel
  refine redc_ok w _ _ _ _ _ _ _ _ _ (by decide) _ _ _ _ ⟨b, r₁, o₁, x, _, m, rfl, mem_hd, h₁, Mont.up hM, hb, hm64, hodd, by tlg_ne, fun r₂ o₂ h₂ => ?_⟩
  repeat tb_rel
  exact endK_ret (q r₂ o₂ h₂) (by kwd_less)
-- part F7
def TimesOk (w : World) (b : Nat) (P : Nat → Nat) (f : Addr) (g₀ : Gl) : Prop := (∃ fo fd, (f, fo) ∈ g₀ ∧ fo.data = .func fd) ∧ ∀ (Γ : Fm) loc g Q, Γ.prog = PR → Γ.w = w → Γ.K = hK w.params → 8 ≤ Γ.k → (∀ p ∈ g₀, p ∈ g) →
  ∀ i j l o k p, 1 ≤ i → 1 ≤ j → (l, o) ∈ g → IsN b (P i) o → (k, p) ∈ g → IsN b (P j) p → (∀ r q, IsN b (P (i + j)) q → Q (.ref r) loc ((r, q) :: g)) → CALL Γ (.ref f) [.ref l, .ref k] loc g Q
theorem TimesOk.mono {w : World} {b : Nat} {P : Nat → Nat} {f : Addr} {g g' : Gl} (h : TimesOk w b P f g) (s : ∀ p ∈ g, p ∈ g') : TimesOk w b P f g' := by
  obtain ⟨⟨fo, fd, hm, hd⟩, h⟩ := h
  exact ⟨⟨fo, fd, s _ hm, hd⟩, fun Γ loc g Q e1 e2 e3 hk hs => h Γ loc g Q e1 e2 e3 hk fun p hp => hs p (s p hp)⟩
inductive sp_check_modulus (vs : List MV) (g : Gl) (Q : MV → Gl → Prop) : Prop where
  | mk : ∀ b k p m, vs = [.ref k] → (k, p) ∈ g → IsN b m p → 0 < m → Q .none g → sp_check_modulus vs g Q
theorem check_modulus_ok (w : World) : SoundF PR w (hK w.params) 1 327 sp_check_modulus := by
  refine soundF (by k_is) (by k_is) [Str.ofString "m"] [] (by intro s vals h; obtain ⟨_, rfl⟩ := len1 h; exact BindsTo.of_eq rfl) (by rfl) (by decide) rfl rfl rfl (by decide) ?_
  rintro A L h₀ vs g Q ⟨b, k, p, m, rfl, hk, ⟨hz, ms, nm, him⟩, hm0, q⟩
  refine ⟨rfl, ?_⟩
  simp only [List.zip_cons_cons, List.zip_nil_left, List.cons_append, List.nil_append, List.map_cons, List.map_nil]
  repeat tb_rel
  rintro r₁ o₁ h₁
  refine CMP_list (by tb_start) him mem_hd h₁ ?_
  repeat tb_rel
  have hne : ms ≠ [] := fun e => by subst e; exact absurd (nm.pos hm0) (by simp)
  refine ⟨fun hc => absurd (of_decide_eq_true hc) hne, fun _ => ?_⟩
  repeat tb_rel
  exact endK_next q (by kwd_less)
inductive sp_unit_rest (vs : List MV) (g : Gl) (Q : MV → Gl → Prop) : Prop where
  | mk : ∀ b k p m, vs = [.ref k] → (k, p) ∈ g → IsN b m p → 0 < m → 6 ≤ b → m < 2 ^ b → (∀ r q, IsN b (1 % m) q → Q (.ref r) ((r, q) :: g)) → sp_unit_rest vs g Q
theorem unit_rest_ok (w : World) : SoundF PR w (hK w.params) 1 334 sp_unit_rest := by
  refine soundF (by k_is) (by k_is) [Str.ofString "m"] [] (by intro s vals h; obtain ⟨_, rfl⟩ := len1 h; exact BindsTo.of_eq rfl) (by rfl) (by decide) rfl rfl rfl (by decide) ?_
  rintro A L h₀ vs g Q ⟨b, k, p, m, rfl, hk, ⟨hz, ms, nm, him⟩, hm0, hb, hmB, q⟩
  refine ⟨rfl, ?_⟩
  simp only [List.zip_cons_cons, List.zip_nil_left, List.cons_append, List.nil_append, List.map_cons, List.map_nil]
  obtain rfl := nm.one_limb hm0 hmB
  repeat tb_rel
  refine EV_ife ?_
  repeat tb_rel
  refine EV_one ?_
  repeat tb_rel
  rintro r₁ o₁ h₁
  refine CMP_list (by tb_start) him mem_hd h₁ ?_
  repeat tb_rel
  refine ⟨fun hc => ?_, fun hc => ?_⟩
  · simp only [decide_eq_true_eq] at hc
    have hm1 : m = 1 := by simp at hc; omega
    repeat tb_rel
    rintro r₂ o₂ h₂
    repeat tb_rel
    refine endK_ret (q r₂ o₂ ⟨Nat.lt_trans (Nat.mod_lt _ hm0) hz, _, ?_, h₂⟩) (by kwd_less)
    subst hm1
    exact Num.nil
  · simp only [decide_eq_false_iff_not] at hc
    have hm1 : m ≠ 1 := fun e => hc (by rw [e]; rfl)
    repeat tb_rel
    refine EV_one ?_
    repeat tb_rel
    rintro r₂ o₂ h₂
    repeat tb_rel
    refine endK_ret (q r₂ o₂ ?_) (by kwd_less)
    rw [Nat.mod_eq_of_lt (by tlg_ne)]
    exact IsN.one hb h₂
inductive sp_window_at (vs : List MV) (g : Gl) (Q : MV → Gl → Prop) : Prop where
  | mk : ∀ b ke pe e top size, vs = [.ref ke, .int (top : Nat), .int (size : Nat), .int (b : Nat)] → (ke, pe) ∈ g → IsN b e pe → (6 ≤ b ∧ b ≤ 8) → e < 64 → top < b → e / 2 ^ top % 2 = 1 → 1 ≤ size → size ≤ 3 → (∀ t o' V M, 1 ≤ M → M ≤ top + 1 → V = e / 2 ^ (top + 1 - M) % 2 ^ M → V % 2 = 1 → V < 2 ^ size → Is (.tup [.int (V : Nat), .int (M : Nat)]) o' → Q (.ref t) ((t, o') :: g)) → sp_window_at vs g Q
theorem window_at_ok (w : World) : SoundF PR w (hK w.params) 2 313 sp_window_at := by
  refine soundF (by k_is) (by k_is) [Str.ofString "e", Str.ofString "top", Str.ofString "size", Str.ofString "w"] [Str.ofString "last", Str.ofString "value", Str.ofString "spot"] (by intro s vals h; obtain ⟨_, _, _, _, rfl⟩ := len4 h; exact BindsTo.of_eq rfl) (by rfl) (by decide) rfl rfl rfl (by decide) ?_
  rintro A L h₀ vs g Q ⟨b, ke, pe, e, top, size, rfl, hke, hee, hb, he64, htop, hbit, hs1, hs3, q⟩
  refine ⟨rfl, ?_⟩
  simp only [List.zip_cons_cons, List.zip_nil_left, List.cons_append, List.nil_append, List.map_cons, List.map_nil]
  have hBN := BN_rng hb
  repeat tb_rel
  refine CALL_max ?_
  repeat tb_rel
  obtain ⟨L0, hL0, hLt, hLs⟩ : ∃ L0 : Nat, (if (0 : Int) > (top : Int) - size + 1 then (0 : Int) else (top : Int) - size + 1) = (L0 : Int) ∧ L0 ≤ top ∧ top + 1 ≤ L0 + size := by
    by_cases h : (0 : Int) > (top : Int) - size + 1
    · exact ⟨0, by rw [if_pos h]; rfl, by tlg_ne, by tlg_ne⟩
    · exact ⟨top + 1 - size, by rw [if_neg h]; omega, by tlg_ne, by tlg_ne⟩
  rw [hL0]
  clear hL0
  refine EX_while_inv (fun N loc g' => E1 fun (L : Nat) => A5 (top - L = N) (L0 ≤ L) (L ≤ top) (loc = [(Str.ofString "e", .ref ke), (Str.ofString "top", .int (top : Nat)), (Str.ofString "size", .int (size : Nat)), (Str.ofString "w", .int (b : Nat)), (Str.ofString "last", .int (L : Nat)), (Str.ofString "value", .undef), (Str.ofString "spot", .undef)]) (g = g')) (n := top - L0) ⟨L0, rfl, Nat.le_refl _, hLt, rfl, rfl⟩ ?_
  rintro _ _ _ N M hN hM ⟨L, rfl, hL1, hL2, rfl, rfl⟩
  repeat tb_rel
  refine bit_ok w _ _ _ _ _ _ _ _ _ (by decide) _ _ _ _ ⟨b, ke, pe, e, L, rfl, hke, hee, hb, by tlg_ne, by tlg_ne, ?_⟩
  repeat tb_rel
  refine ⟨fun hc => ?_, fun hc => ?_⟩
  · simp only [decide_eq_true_eq] at hc
    have hne : L ≠ top := fun h => by subst h; omega
    repeat tb_rel
    exact ⟨top - (L + 1), by tlg_ne, L + 1, rfl, by tlg_ne, by tlg_ne, rfl, rfl⟩
  · simp only [decide_eq_false_iff_not] at hc
    have hodd : e / 2 ^ L % 2 = 1 := by tlg_ne
    repeat tb_rel
    refine EX_range (by dsimp only; k_is) boot_range (by exact rfl) ?_
    repeat tb_rel
    refine ⟨_, _, _, .three _ _ _, .inr rfl, by tlg_ne, ?_⟩
    rw [if_neg (by decide), show ((top : Int) - ((L : Int) - 1)).toNat = top + 1 - L by tlg_ne]
    refine FORB_rng (fun i loc g' => E2 fun u v => A3 (loc = [(Str.ofString "e", .ref ke), (Str.ofString "top", .int (top : Nat)), (Str.ofString "size", .int (size : Nat)), (Str.ofString "w", .int (b : Nat)), (Str.ofString "last", .int (L : Nat)), (Str.ofString "value", .int (v : Nat)), (Str.ofString "spot", u)]) (g = g') (v = e / 2 ^ (top + 1 - i) % 2 ^ i)) ⟨_, 0, rfl, rfl, by simp [Nat.mod_one]⟩ ?_ ?_
    · rintro i _ _ hlt N hN ⟨u, v, rfl, rfl, hv⟩
      refine ⟨_, .name (by kwd_rel), ?_⟩
      rw [show (top : Int) + (i : Int) * -1 = ((top - i : Nat) : Int) by tlg_ne]
      repeat tb_rel
      refine BIN_mul (by tlg_ne) (by tlg_ne) ?_
      repeat tb_rel
      refine bit_ok w _ _ _ _ _ _ _ _ _ (by decide) _ _ _ _ ⟨b, ke, pe, e, top - i, rfl, hke, hee, hb, by tlg_ne, by tlg_ne, ?_⟩
      repeat tb_rel
      refine ⟨fun _ h => (nomatch h), _, 2 * v + e / 2 ^ (top - i) % 2, rfl, rfl, ?_⟩
      rw [show top + 1 - (i + 1) = top - i by tlg_ne, win_step, hv, show top + 1 - i = top - i + 1 by tlg_ne, Nat.pow_succ, ← Nat.div_div_eq_div_mul]
    · rintro _ _ ⟨u, v, rfl, rfl, hv⟩
      repeat tb_rel
      refine ⟨by simp, fun t o' ho' => ?_⟩
      repeat tb_rel
      rw [show (top : Int) - L + 1 = ((top + 1 - L : Nat) : Int) by tlg_ne] at ho'
      refine endK_ret (q t o' v (top + 1 - L) (by tlg_ne) (by tlg_ne) hv ?_ ?_ ho') (by kwd_less)
      · rw [hv, show top + 1 - (top + 1 - L) = L by tlg_ne, show top + 1 - L = (top - L) + 1 by tlg_ne, win_step]
        omega
      · rw [hv]
        exact Nat.lt_of_lt_of_le (Nat.mod_lt _ (Nat.two_pow_pos _)) (Nat.pow_le_pow_right (by decide) (by tlg_ne))
-- part F8
inductive sp_odd_powers (w : World) (vs : List MV) (g : Gl) (Q : MV → Gl → Prop) : Prop where
  | mk : ∀ b l o size f P, vs = [.ref l, .int (size : Nat), .ref f] → (l, o) ∈ g → IsN b (P 1) o → 1 ≤ size → size ≤ 3 → TimesOk w b P f g → (∀ t ot E (rs : List Addr), Is (.list (rs.map .ref)) ot → rs.length = 2 ^ (size - 1) → (∀ j, j < rs.length → ∃ r o', rs[j]? = some r ∧ IsN b (P (2 * j + 1)) o' ∧ ((j = 0 ∧ r = l ∧ o' = o) ∨ (r, o') ∈ E)) → Q (.ref t) ((t, ot) :: (E ++ g))) → sp_odd_powers w vs g Q
theorem odd_powers_ok (w : World) : SoundF PR w (hK w.params) 9 306 (sp_odd_powers w) := by
  refine soundF (by k_is) (by k_is) [Str.ofString "base", Str.ofString "size", Str.ofString "times"] [Str.ofString "found", Str.ofString "square", Str.ofString "turn"] (by intro s vals h; obtain ⟨_, _, _, rfl⟩ := len3 h; exact BindsTo.of_eq rfl) (by rfl) (by decide) rfl rfl rfl (by decide) ?_
  rintro A L h₀ vs g Q ⟨b, l, o, size, f, P, rfl, hm, ho, hs1, hs3, hT, q⟩
  refine ⟨rfl, ?_⟩
  simp only [List.zip_cons_cons, List.zip_nil_left, List.cons_append, List.nil_append, List.map_cons, List.map_nil]
  obtain ⟨⟨fo, fd, hfm, hfd⟩, hT'⟩ := id hT
  have hpw : (2 : Int) ^ (size - 1) = ((2 ^ (size - 1) : Nat) : Int) := (pow_two_nat _).symm
  have hp1 : 1 ≤ 2 ^ (size - 1) ∧ 2 ^ (size - 1) ≤ 4 := ⟨Nat.two_pow_pos _, Nat.le_trans (Nat.pow_le_pow_right (by decide) (show size - 1 ≤ 2 by tlg_ne)) (by decide)⟩
  repeat tb_rel
  refine EX_swap (xs := [Str.ofString "found", Str.ofString "square"]) ?_ (by exact rfl) (by exact rfl)
  repeat tb_rel
  refine EV_list ?_
  repeat tb_rel
  refine ⟨by simp, fun r₀ o₀ ho₀ => ?_⟩
  repeat tb_rel
  refine ⟨.made (mem_tl hfm) hfd, ?_⟩
  refine hT' _ _ _ _ rfl rfl rfl (by dsimp only; decide) (fun _ => mem_tl) 1 1 l o l o (by decide) (by decide) (mem_tl hm) ho (mem_tl hm) ho fun sq osq hsq => ?_
  repeat tb_rel
  refine ⟨by simp, fun tt o' ho' => ⟨tt, o', _, _, rfl, mem_hd, ho', .cons (by kwd_rel) (.cons (by kwd_rel) .nil), ?_⟩⟩
  refine TR.drop (g' := (sq, osq) :: (r₀, o₀) :: g) (by kwd_less) ?_
  refine TR.swap ?_
  repeat tb_rel
  refine EX_range (by dsimp only; k_is) boot_range (by exact rfl) ?_
  repeat tb_rel
  rw [show (size : Int) - 1 = ((size - 1 : Nat) : Int) by tlg_ne]
  repeat tb_rel
  refine ⟨_, _, _, .one _, .inl rfl, by tlg_ne, ?_⟩
  rw [if_pos rfl, show ((2 : Int) ^ (size - 1) - 1 - 0).toNat = 2 ^ (size - 1) - 1 by tlg_ne]
  refine FORB_rng (fun i loc g' => E4 fun u o₀ E (rs : List Addr) => A5 (loc = [(Str.ofString "base", .ref l), (Str.ofString "size", .int (size : Nat)), (Str.ofString "times", .ref f), (Str.ofString "found", .ref r₀), (Str.ofString "square", .ref sq), (Str.ofString "turn", u)]) (List.Perm ((r₀, o₀) :: (sq, osq) :: (E ++ g)) g') (Is (.list (rs.map .ref)) o₀) (rs.length = i + 1) (∀ j, j < rs.length → ∃ r o', rs[j]? = some r ∧ IsN b (P (2 * j + 1)) o' ∧ ((j = 0 ∧ r = l ∧ o' = o) ∨ (r, o') ∈ E)))
    ⟨_, o₀, [], [l], rfl, List.Perm.refl _, ho₀, rfl, fun j hj => ⟨l, o, by simp at hj; subst hj; rfl, by simp at hj; subst hj; exact ho, .inl ⟨by simpa using hj, rfl, rfl⟩⟩⟩ ?_ ?_
  · clear ho₀
    rintro i _ g' hlt N hN ⟨u, o₀, E, rs, rfl, hperm, ho₀, hlen, hrs⟩
    refine ⟨_, .name (by kwd_rel), ?_⟩
    refine TR.perm hperm ?_
    clear hperm
    obtain ⟨r, o', hr, hv, hwh⟩ := hrs i (by tlg_ne)
    have hrm : (r, o') ∈ (r₀, o₀) :: (sq, osq) :: (E ++ g) := by
      rcases hwh with ⟨_, rfl, rfl⟩ | h
      · exact mem_tl (mem_tl (List.mem_append_right _ hm))
      · exact mem_tl (mem_tl (List.mem_append_left _ h))
    repeat tb_rel
    refine EV_appendM (by tb_start) mem_hd ho₀ ?_ (by decide) (by exact rfl) (by exact rfl)
    repeat tb_rel
    refine ITEM_neg mem_hd ho₀ (by tlg_ne) (by simp; omega) (x := .ref r) ?_ (by tlg_ne) ?_
    · rw [List.length_map, hlen, show (-1 + ((i + 1 : Nat) : Int)).toNat = i by tlg_ne, List.getElem?_map, hr]; rfl
    repeat tb_rel
    refine ⟨.made (by tb_start) hfd, ?_⟩
    refine hT' _ _ _ _ rfl rfl rfl (by dsimp only; decide) (fun _ h => mem_tl (mem_tl (List.mem_append_right _ h))) (2 * i + 1) 2 r o' sq osq (by tlg_ne) (by decide) hrm hv (mem_tl mem_hd) hsq fun n on hn => ?_
    repeat tb_rel
    refine ⟨_, _, ho₀, by simp; omega, fun o₁ ho₁ => ⟨_, by ktd_rel, ?_⟩⟩
    repeat tb_rel
    refine ⟨fun _ h => (nomatch h), _, o₁, (n, on) :: E, rs ++ [n], rfl, ?_, by simpa using ho₁, by simp [hlen], fun j hj => ?_⟩
    · refine List.Perm.trans ?_ (List.Perm.swap _ _ _)
      exact List.Perm.cons _ (List.Perm.swap _ _ _)
    · rw [List.length_append, List.length_singleton] at hj
      by_cases hji : j < rs.length
      · obtain ⟨r', o'', h1, h2, h3⟩ := hrs j hji
        refine ⟨r', o'', by rw [List.getElem?_append_left hji]; exact h1, h2, h3.imp_right mem_tl⟩
      · have : j = rs.length := by tlg_ne
        subst this
        refine ⟨n, on, by simp, ?_, .inr mem_hd⟩
        rw [hlen]
        rw [show 2 * (i + 1) + 1 = 2 * i + 1 + 2 by tlg_ne]
        exact hn
  · clear ho₀
    rintro _ g' ⟨u, o₀, E, rs, rfl, hperm, ho₀, hlen, hrs⟩
    first | refine seqK_next ?_ | refine Seal.go (by assumption) (seqK_next ?_)
    refine TR.perm hperm ?_
    refine TR.drop (g' := (r₀, o₀) :: (E ++ g)) (by kwd_less) ?_
    repeat tb_rel
    exact endK_ret (q r₀ o₀ E rs ho₀ (by tlg_ne) hrs) (by kwd_less)
inductive sp_by_windows (w : World) (vs : List MV) (g : Gl) (Q : MV → Gl → Prop) : Prop where
  | mk : ∀ b l o ke pe size e lone f P, vs = [.ref l, .ref ke, .int (size : Nat), .int (b : Nat), .ref lone, .ref f] → (l, o) ∈ g → IsN b (P 1) o → (ke, pe) ∈ g → IsN b e pe → (6 ≤ b ∧ b ≤ 8) → e < 64 → 1 ≤ size → size ≤ 3 → TimesOk w b P f g → (e = 0 → Q (.ref lone) g) → (e = 1 → Q (.ref l) g) → (∀ r q, 0 < e → IsN b (P e) q → Q (.ref r) ((r, q) :: g)) → sp_by_windows w vs g Q
theorem by_windows_ok (w : World) : SoundF PR w (hK w.params) 10 320 (sp_by_windows w) := by
  refine soundF (by k_is) (by k_is) [Str.ofString "base", Str.ofString "e", Str.ofString "size", Str.ofString "w", Str.ofString "one", Str.ofString "times"] [Str.ofString "table", Str.ofString "found", Str.ofString "spot", Str.ofString "value", Str.ofString "many", Str.ofString "turn"] (by intro s vals h; obtain ⟨_, _, _, _, _, _, rfl⟩ := len6 h; exact BindsTo.of_eq rfl) (by rfl) (by decide) rfl rfl rfl (by decide) ?_
  rintro A L h₀ vs g Q ⟨b, l, o, ke, pe, size, e, lone, f, P, rfl, hm, ho, hke, hee, hb, he64, hs1, hs3, hT, q0, q1, q⟩
  refine ⟨rfl, ?_⟩
  simp only [List.zip_cons_cons, List.zip_nil_left, List.cons_append, List.nil_append, List.map_cons, List.map_nil]
  obtain ⟨⟨fo, fd, hfm, hfd⟩, hT'⟩ := id hT
  obtain ⟨hez, es, ne, hie⟩ := id hee
  have hBN := BN_rng hb
  repeat tb_rel
  rintro r₁ o₁ h₁
  refine CMP_list (by tb_start) hie mem_hd h₁ ?_
  repeat tb_rel
  refine ⟨fun hc => ?_, fun hc => ?_⟩
  · have he0 : e = 0 := ne.nil_iff.mp (by rw [of_decide_eq_true hc]; rfl)
    repeat tb_rel
    exact endK_ret (q0 he0) (by kwd_less)
  have he0 : 0 < e := by
    rcases Nat.eq_zero_or_pos e with h | h
    · subst h
      exact absurd (ne.zero) (of_decide_eq_false hc)
    · exact h
  clear hc
  refine EXS_nil ?_
  first | refine seqK_next ?_ | refine Seal.go (by assumption) (seqK_next ?_)
  refine TR.drop (g' := g) (by kwd_less) ?_
  repeat tb_rel
  refine EX_swap (xs := [Str.ofString "table", Str.ofString "found"]) ?_ (by exact rfl) (by exact rfl)
  repeat tb_rel
  refine odd_powers_ok w _ _ _ _ _ _ _ _ _ (by decide) _ _ _ _ ⟨b, l, o, size, f, P, rfl, hm, ho, hs1, hs3, hT, fun tb ot E rs hot hlen hrs => ?_⟩
  repeat tb_rel
  refine ⟨by simp, fun tt o' ho' => ⟨tt, o', _, _, rfl, mem_hd, ho', .cons (by kwd_rel) (.cons (by kwd_rel) .nil), ?_⟩⟩
  refine TR.drop (g' := (tb, ot) :: (E ++ g)) (by kwd_less) ?_
  repeat tb_rel
  obtain ⟨G, hG⟩ : ∃ G, G = (tb, ot) :: (E ++ g) := ⟨_, rfl⟩
  have hgG : List.Sublist g G := by rw [hG]; exact (List.sublist_append_right _ _).cons _
  have hEG : ∀ {r q}, (r, q) ∈ E → List.Sublist ((r, q) :: g) G := fun {r q} h => by
    rw [hG]
    exact (List.Sublist.append (List.singleton_sublist.mpr h) (List.Sublist.refl g)).cons _
  have htG : (tb, ot) ∈ G := by rw [hG]; exact mem_hd
  rw [← hG]
  clear hG
  refine bits_ok w _ _ _ _ _ _ _ _ _ (by decide) _ _ _ _ ⟨b, ke, pe, e, rfl, hgG.subset hke, hee, hb, by tlg_ne, ?_⟩
  repeat tb_rel
  obtain ⟨bt1, bt2, bt3, bt4⟩ := bits_top ⟨e, he64⟩ he0
  dsimp only at bt1 bt2 bt3 bt4
  replace bt2 : Builtin.Int.intBits (e : Int) ≠ 0 := by tlg_ne
  generalize Builtin.Int.intBits (e : Int) = nb at *
  refine EX_while_inv (fun N loc g' => E5 fun n F u1 u2 u3 => A5 (n = N) (n ≤ 6) (loc = [(Str.ofString "base", .ref l), (Str.ofString "e", .ref ke), (Str.ofString "size", .int (size : Nat)), (Str.ofString "w", .int (b : Nat)), (Str.ofString "one", .ref lone), (Str.ofString "times", .ref f), (Str.ofString "table", .ref tb), (Str.ofString "found", F), (Str.ofString "spot", .int ((n : Nat) - 1)), (Str.ofString "value", u1), (Str.ofString "many", u2), (Str.ofString "turn", u3)]) (List.Sublist G g') (((F = .none ∧ n = nb) ∨ ∃ r q, F = .ref r ∧ (r, q) ∈ g' ∧ IsN b (P (e / 2 ^ n)) q ∧ 1 ≤ e / 2 ^ n ∧ ((r = l ∧ e / 2 ^ n = 1) ∨ List.Sublist ((r, q) :: g) g'))))
    (n := nb) ⟨nb, .none, _, _, _, rfl, bt3, rfl, List.Sublist.refl _, .inl ⟨rfl, rfl⟩⟩ ?_
  rintro _ _ g' N M hN hM ⟨n, F, u1, u2, u3, rfl, hn6, rfl, hsub, hF⟩
  have hgs : List.Sublist g g' := hgG.trans hsub
  have hke' := hgs.subset hke
  have hfm' := hgs.subset hfm
  have htb' := hsub.subset htG
  repeat tb_rel
  refine ⟨fun hc => ?_, fun hc => ?_⟩
  · simp only [decide_eq_true_eq] at hc
    obtain ⟨n', rfl⟩ : ∃ n', n = n' + 1 := ⟨n - 1, by tlg_ne⟩
    rw [show ((n' + 1 : Nat) : Int) - 1 = (n' : Int) by tlg_ne]
    repeat tb_rel
    refine bit_ok w _ _ _ _ _ _ _ _ _ (by decide) _ _ _ _ ⟨b, ke, pe, e, n', rfl, hke', hee, hb, by tlg_ne, by tlg_ne, ?_⟩
    repeat tb_rel
    refine ⟨fun hz => ?_, fun hz => ?_⟩
    · simp only [decide_eq_true_eq] at hz
      rcases hF with ⟨rfl, rfl⟩ | ⟨r, q', rfl, hrm, hrv, hr1, hrw⟩
      · rw [show n' + 1 - 1 = n' by tlg_ne] at bt4
        omega
      repeat tb_rel
      refine ⟨.made hfm' hfd, ?_⟩
      refine hT' _ _ _ _ rfl rfl rfl (by dsimp only; decide) (fun p hp => hgs.subset hp) _ _ r q' r q' hr1 hr1 hrm hrv hrm hrv fun r₂ q₂ hr₂ => ?_
      have ex : e / 2 ^ (n' + 1) + e / 2 ^ (n' + 1) = e / 2 ^ n' := by
        rw [Nat.pow_succ, ← Nat.div_div_eq_div_mul]; omega
      rw [ex] at hr₂
      repeat tb_rel
      refine ⟨n', by tlg_ne, n', _, _, _, _, rfl, by tlg_ne, rfl, hsub.cons _, .inr ⟨r₂, q₂, rfl, mem_hd, hr₂, by tlg_ne, .inr (hgs.cons_cons _)⟩⟩
    · simp only [decide_eq_false_iff_not] at hz
      repeat tb_rel
      refine EX_tup (xs := [Str.ofString "value", Str.ofString "many"]) (.cons (.cons .nil)) ?_ (by exact rfl) (by exact rfl)
      repeat tb_rel
      refine window_at_ok w _ _ _ _ _ _ _ _ _ (by decide) _ _ _ _ ⟨b, ke, pe, e, n', size, rfl, hke', hee, hb, he64, by tlg_ne, by tlg_ne, hs1, hs3, fun t o' V M hM1 hM2 hV hVo hVs ho' => ?_⟩
      refine ⟨t, o', _, _, rfl, mem_hd, ho', .cons (by kwd_rel) (.cons (by kwd_rel) .nil), ?_⟩
      have hjoin : e / 2 ^ (n' + 1 - M) = e / 2 ^ (n' + 1) * 2 ^ M + V := by
        have := win_join e (n' + 1 - M) M
        rw [← hV, show n' + 1 - M + M = n' + 1 by tlg_ne] at this
        exact this
      have hVl : V / 2 < rs.length := by
        rw [hlen]
        have : 2 ^ size = 2 * 2 ^ (size - 1) := by rw [← Nat.pow_succ']; congr 1; omega
        omega
      have hV8 : V < 8 := Nat.lt_of_lt_of_le hVs (Nat.pow_le_pow_right (n := 2) (by decide) hs3)
      obtain ⟨rt, ot', hrt, hvt, hwt⟩ := hrs _ hVl
      rw [show 2 * (V / 2) + 1 = V by tlg_ne] at hvt
      have hrtm : (rt, ot') ∈ g' := by
        rcases hwt with ⟨_, rfl, rfl⟩ | h
        · exact hgs.subset hm
        · exact hsub.subset ((hEG h).subset mem_hd)
      have hix : (rs.map MV.ref)[((V / 2 : Nat) : Int).toNat]? = some (.ref rt) := by
        rw [Int.toNat_natCast, List.getElem?_map, hrt]; rfl
      rcases hF with ⟨rfl, rfl⟩ | ⟨r, q', rfl, hrm, hrv, hr1, hrw⟩
      · repeat tb_rel
        refine CMP_isnn ?_
        repeat tb_rel
        refine ⟨fun _ => ?_, fun hc => absurd hc (by simp)⟩
        repeat tb_rel
        refine BIN_divN (n := V) (b := 2) (by decide) (by decide) ?_
        refine ITEM_list (mem_tl htb') hot (by tlg_ne) hix (by tlg_ne) ?_
        repeat tb_rel
        rw [bt1, Nat.zero_mul, Nat.zero_add] at hjoin
        rw [show (n' : Int) - (M : Int) = ((n' + 1 - M : Nat) : Int) - 1 by tlg_ne]
        refine ⟨n' + 1 - M, by tlg_ne, n' + 1 - M, _, _, _, _, rfl, by tlg_ne, rfl, hsub.cons _, .inr ⟨rt, ot', rfl, mem_tl hrtm, by rw [hjoin]; exact hvt, by tlg_ne, ?_⟩⟩
        rcases hwt with ⟨hj, rfl, rfl⟩ | h
        · exact .inl ⟨rfl, by tlg_ne⟩
        · exact .inr (((hEG h).trans hsub).cons _)
      · repeat tb_rel
        refine CMP_isn (by intro h; cases h) ?_
        repeat tb_rel
        refine ⟨fun hc => absurd hc (by simp), fun _ => ?_⟩
        repeat tb_rel
        refine EX_range (by dsimp only; k_is) boot_range (by exact rfl) ?_
        repeat tb_rel
        refine ⟨_, _, _, .one _, .inl rfl, by tlg_ne, ?_⟩
        rw [if_pos rfl, show ((M : Int) - 0).toNat = M by tlg_ne]
        refine FORB_rng (fun i loc g'' => E3 fun u r q => A4 (loc = [(Str.ofString "base", .ref l), (Str.ofString "e", .ref ke), (Str.ofString "size", .int (size : Nat)), (Str.ofString "w", .int (b : Nat)), (Str.ofString "one", .ref lone), (Str.ofString "times", .ref f), (Str.ofString "table", .ref tb), (Str.ofString "found", .ref r), (Str.ofString "spot", .int (n' : Nat)), (Str.ofString "value", .int (V : Nat)), (Str.ofString "many", .int (M : Nat)), (Str.ofString "turn", u)]) (List.Sublist g' g'') ((r, q) ∈ g'') (IsN b (P (e / 2 ^ (n' + 1) * 2 ^ i)) q))
          ⟨_, r, q', rfl, List.sublist_cons_self _ _, mem_tl hrm, by rw [Nat.pow_zero, Nat.mul_one]; exact hrv⟩ ?_ ?_
        · rintro i _ g'' hlt N hN ⟨u, r, q', rfl, hs2, hrm, hrv⟩
          refine ⟨_, .name (by kwd_rel), ?_⟩
          have hpos : 1 ≤ e / 2 ^ (n' + 1) * 2 ^ i := Nat.mul_pos hr1 (Nat.two_pow_pos _)
          repeat tb_rel
          refine ⟨.made (hs2.subset hfm') hfd, ?_⟩
          refine hT' _ _ _ _ rfl rfl rfl (by dsimp only; decide) (fun p hp => hs2.subset (hgs.subset hp)) _ _ r q' r q' hpos hpos hrm hrv hrm hrv fun r₂ q₂ hr₂ => ?_
          repeat tb_rel
          refine ⟨fun _ h => (nomatch h), _, r₂, q₂, rfl, hs2.cons _, mem_hd, ?_⟩
          rw [show 2 ^ (i + 1) = 2 ^ i * 2 from Nat.pow_succ _ _, ← Nat.mul_assoc, Nat.mul_two]
          exact hr₂
        · rintro _ g'' ⟨u, r, q', rfl, hs2, hrm, hrv⟩
          have hpos : 1 ≤ e / 2 ^ (n' + 1) * 2 ^ M := Nat.mul_pos hr1 (Nat.two_pow_pos _)
          repeat tb_rel
          refine BIN_divN (n := V) (b := 2) (by decide) (by decide) ?_
          refine ITEM_list (hs2.subset htb') hot (by tlg_ne) hix (by tlg_ne) ?_
          repeat tb_rel
          refine ⟨.made (hs2.subset hfm') hfd, ?_⟩
          refine hT' _ _ _ _ rfl rfl rfl (by dsimp only; decide) (fun p hp => hs2.subset (hgs.subset hp)) _ _ r q' rt ot' hpos (by tlg_ne) hrm hrv (hs2.subset hrtm) hvt fun r₂ q₂ hr₂ => ?_
          repeat tb_rel
          rw [← hjoin] at hr₂
          rw [show (n' : Int) - (M : Int) = ((n' + 1 - M : Nat) : Int) - 1 by tlg_ne]
          refine ⟨n' + 1 - M, by tlg_ne, n' + 1 - M, _, _, _, _, rfl, by tlg_ne, rfl, (hsub.trans hs2).cons _, .inr ⟨r₂, q₂, rfl, mem_hd, hr₂, by tlg_ne, .inr ((hgs.trans hs2).cons_cons _)⟩⟩
  · simp only [decide_eq_false_iff_not] at hc
    have hn0 : n = 0 := by tlg_ne
    subst hn0
    rcases hF with ⟨rfl, h⟩ | ⟨r, q', rfl, hrm, hrv, hr1, hrw⟩
    · omega
    rw [Nat.pow_zero, Nat.div_one] at *
    repeat tb_rel
    rcases hrw with ⟨rfl, he1⟩ | h
    · exact endK_ret (q1 he1) hgs
    · exact endK_ret (q r q' he0 hrv) h
-- part F9
theorem CellsM.inv {bs : List (Str × MV)} {n : Str} {c : Addr} {r : List (Str × Addr)} {cells : Gl} (h : CellsM bs ((n, c) :: r) cells) : ∃ o cells', cells = (c, o) :: cells' ∧ (∀ v, (n, v) ∈ bs → Is (.cell v) o) ∧ CellsM bs r cells' := by
  cases h with | cons h1 h2 h3 => exact ⟨_, _, rfl, h1, h3⟩
theorem CellsM.nil_inv {bs : List (Str × MV)} {cells : Gl} (h : CellsM bs [] cells) : cells = [] := by cases h; rfl
theorem cells_ok3 {L : Nat} {a b c : Str} : (([(c, L + 1 + 1 + 1), (b, L + 1 + 1), (a, L + 1)] : List (Str × Addr)).map (·.2)).Nodup ∧ ∀ p ∈ ([(c, L + 1 + 1 + 1), (b, L + 1 + 1), (a, L + 1)] : List (Str × Addr)), @LT.lt Nat _ L p.2 := by
  refine ⟨by simp only [List.map_cons, List.map_nil, List.nodup_cons, List.mem_cons, List.not_mem_nil, or_false, not_or]; refine ⟨⟨?_, ?_⟩, ?_, ?_, ?_⟩ <;> first | exact Nat.ne_of_gt (by tlg_ne) | simp, fun p hp => ?_⟩
  simp only [List.mem_cons, List.not_mem_nil, or_false] at hp
  rcases hp with rfl | rfl | rfl <;> show L < _ <;> omega
theorem cells_ok4 {L : Nat} {a b c d : Str} : (([(d, L + 1 + 1 + 1 + 1), (c, L + 1 + 1 + 1), (b, L + 1 + 1), (a, L + 1)] : List (Str × Addr)).map (·.2)).Nodup ∧ ∀ p ∈ ([(d, L + 1 + 1 + 1 + 1), (c, L + 1 + 1 + 1), (b, L + 1 + 1), (a, L + 1)] : List (Str × Addr)), @LT.lt Nat _ L p.2 := by
  refine ⟨by simp only [List.map_cons, List.map_nil, List.nodup_cons, List.mem_cons, List.not_mem_nil, or_false, not_or]; refine ⟨⟨?_, ?_, ?_⟩, ⟨?_, ?_⟩, ?_, ?_, ?_⟩ <;> first | exact Nat.ne_of_gt (by tlg_ne) | simp, fun p hp => ?_⟩
  simp only [List.mem_cons, List.not_mem_nil, or_false] at hp
  rcases hp with rfl | rfl | rfl | rfl <;> show L < _ <;> omega
inductive sp_divided_times (w : World) (vs : List MV) (g : Gl) (Q : MV → Gl → Prop) : Prop where
  | mk : ∀ b k p m T g₁, vs = [.ref k, .int (b : Nat), .ref 437, .ref 479] → g = T ++ g₁ → Tabs T → (k, p) ∈ g₁ → IsN b m p → (6 ≤ b ∧ b ≤ 8) → 0 < m → m < 2 ^ b → (∀ f T' F, Tabs T' → (∀ P : Nat → Nat, (∀ i j, 1 ≤ i → 1 ≤ j → P i * P j % m = P (i + j) ∧ P i * P j < 2 ^ 32) → TimesOk w b P f (F ++ (T' ++ g₁))) → Q (.ref f) (F ++ (T' ++ g₁))) → sp_divided_times w vs g Q
theorem divided_times_ok (w : World) : SoundF PR w (hK w.params) 1 341 (sp_divided_times w) := by
  refine soundFC (by k_is) (by k_is) [Str.ofString "m", Str.ofString "w", Str.ofString "mul", Str.ofString "divrem"] [Str.ofString "multiplied"] [Str.ofString "divrem", Str.ofString "mul", Str.ofString "w", Str.ofString "m"] (fun L => [(Str.ofString "divrem", L + 1 + 1 + 1 + 1), (Str.ofString "mul", L + 1 + 1 + 1), (Str.ofString "w", L + 1 + 1), (Str.ofString "m", L + 1)]) (fun L => rfl) (fun L => rfl) (fun L => cells_ok4) (by intro s vals h; obtain ⟨_, _, _, _, rfl⟩ := len4 h; exact BindsTo.of_eq rfl) (by rfl) (by rfl) (by rfl) (by decide) (by decide) rfl rfl rfl ?_
  rintro A L h₀ vs g Q ⟨b, k, p, m, T, g₁, rfl, rfl, hT, hk, hmm, hb, hm0, hmB, q⟩
  refine ⟨rfl, fun cells hc => ?_⟩
  simp only [List.zip_cons_cons, List.zip_nil_left] at hc
  obtain ⟨oc3, _, rfl, hc3, hc⟩ := hc.inv
  obtain ⟨oc2, _, rfl, hc2, hc⟩ := hc.inv
  obtain ⟨oc1, _, rfl, hc1, hc⟩ := hc.inv
  obtain ⟨oc0, _, rfl, hc0, hc⟩ := hc.inv
  obtain rfl := hc.nil_inv
  replace hc0 := hc0 _ (mem_hd)
  replace hc1 := hc1 _ (mem_tl (mem_hd))
  replace hc2 := hc2 _ (mem_tl (mem_tl (mem_hd)))
  replace hc3 := hc3 _ (mem_tl (mem_tl (mem_tl (mem_hd))))
  refine (show EXS _ _ [(Str.ofString "multiplied", MV.undef)] ([(L + 1 + 1 + 1 + 1, oc3), (L + 1 + 1 + 1, oc2), (L + 1 + 1, oc1), (L + 1, oc0)] ++ (T ++ g₁)) _ from ?_)
  refine TR.perm (List.perm_append_comm_assoc T _ g₁) ?_
  refine EXS_cons ?_
  refine EX_def (clos := [(Str.ofString "w", L + 1 + 1), (Str.ofString "mul", L + 1 + 1 + 1), (Str.ofString "m", L + 1), (Str.ofString "divrem", L + 1 + 1 + 1 + 1)]) hT.2.2.2 (by simp [makerTabs]) rfl rfl (if_neg (show ¬ (((some NameKind.local : Option NameKind) == some NameKind.globalExplicit) = true) by decide)) rfl rfl rfl fun f c' ocd cvs tk9 ctv doc pm T' hkeep hst hcd hd2 hv2 => ⟨_, by kwd_rel, ?_⟩
  first | refine seqK_next ?_ | refine Seal.go (by assumption) (seqK_next ?_)
  refine TR.perm (List.Perm.cons _ (List.perm_append_comm_assoc [(L + 1 + 1 + 1 + 1, oc3), (L + 1 + 1 + 1, oc2), (L + 1 + 1, oc1), (L + 1, oc0)] T' g₁)) ?_
  repeat tb_rel
  refine endK_ret (q f T' ((f, _) :: [(L + 1 + 1 + 1 + 1, oc3), (L + 1 + 1 + 1, oc2), (L + 1 + 1, oc1), (L + 1, oc0)]) ⟨hkeep _ _ _ _ (by decide) hT.1, hkeep _ _ _ _ (by decide) hT.2.1, hkeep _ _ _ _ (by decide) hT.2.2.1, hst⟩ fun P hP => ⟨⟨_, _, mem_hd, rfl⟩, fun Γ loc g Q e1 e2 e3 hk8 hs i j l o k' p' hi hj hl ho hk' hp' qq => ?_⟩) (List.Sublist.refl _)
  rcases Γ with ⟨_, _, _, A, cn, cs, L', a, ccd, cl, h₀', k8⟩
  dsimp only at e1 e2 e3 hk8
  subst e1 e2 e3
  have mc0 := hs _ (mem_tl (mem_tl (mem_tl (mem_tl (mem_hd)))))
  have mc1 := hs _ (mem_tl (mem_tl (mem_tl (mem_hd))))
  have mc2 := hs _ (mem_tl (mem_tl (mem_hd)))
  have mc3 := hs _ (mem_tl (mem_hd))
  refine CALL_clos (hs _ mem_hd) (hs _ (List.mem_append_right _ (List.mem_append_left _ hcd))) hd2 hv2 [Str.ofString "x", Str.ofString "y"] [] (by intro s vals h; obtain ⟨_, _, rfl⟩ := len2 h; exact BindsTo.of_eq rfl) (by rfl) (by decide) rfl rfl rfl (by decide) (k := 7) (by dsimp only; omega) rfl fun A L h₀ => ?_
  simp only [List.zip_cons_cons, List.zip_nil_left, List.cons_append, List.nil_append, List.map_nil]
  have hkm := hs _ (List.mem_append_right _ (List.mem_append_right _ hk))
  repeat tb_rel
  refine mul_school_ok _ _ _ _ _ _ _ _ _ _ (by decide) _ _ _ _ ⟨b, l, o, k', p', _, _, rfl, hl, ho, hk', hp', hb, (hP i j hi hj).2, fun r₁ o₁ h₁ => ?_⟩
  repeat tb_rel
  refine divrem_school_ok _ _ _ _ _ _ _ _ _ _ (by decide) _ _ _ _ ⟨b, r₁, o₁, k, p, _, m, rfl, mem_hd, h₁, mem_tl hkm, hmm, hb, hm0, hmB, fun r₂ o₂ r₃ o₃ t' o' h₂ h₃ ho' => ?_⟩
  repeat tb_rel
  refine ITEM_tup mem_hd ho' (by tlg_ne) rfl (by tlg_ne) ?_
  repeat tb_rel
  rw [(hP i j hi hj).1] at h₃
  exact endK_ret (qq r₃ o₃ h₃) (by kwd_less)
inductive sp_barrett_times (w : World) (vs : List MV) (g : Gl) (Q : MV → Gl → Prop) : Prop where
  | mk : ∀ b k p n pn t ot m T g₁, vs = [.ref t, .int (b : Nat), .ref 437] → g = T ++ g₁ → Tabs T → (t, ot) ∈ g₁ → Is (.tup [.ref k, .ref n]) ot → (k, p) ∈ g₁ → IsN b m p → (n, pn) ∈ g₁ → IsN b (2 ^ (b * 2) / m) pn → (6 ≤ b ∧ b ≤ 8) → 0 < m → m < 2 ^ b → (∀ f T' F, Tabs T' → (∀ P : Nat → Nat, (∀ i j, 1 ≤ i → 1 ≤ j → P i * P j % m = P (i + j) ∧ P i * P j < 2 ^ 32) → TimesOk w b P f (F ++ (T' ++ g₁))) → Q (.ref f) (F ++ (T' ++ g₁))) → sp_barrett_times w vs g Q
theorem barrett_times_ok (w : World) : SoundF PR w (hK w.params) 1 348 (sp_barrett_times w) := by
  refine soundFC (by k_is) (by k_is) [Str.ofString "told", Str.ofString "w", Str.ofString "mul"] [Str.ofString "multiplied"] [Str.ofString "mul", Str.ofString "w", Str.ofString "told"] (fun L => [(Str.ofString "mul", L + 1 + 1 + 1), (Str.ofString "w", L + 1 + 1), (Str.ofString "told", L + 1)]) (fun L => rfl) (fun L => rfl) (fun L => cells_ok3) (by intro s vals h; obtain ⟨_, _, _, rfl⟩ := len3 h; exact BindsTo.of_eq rfl) (by rfl) (by rfl) (by rfl) (by decide) (by decide) rfl rfl rfl ?_
  rintro A L h₀ vs g Q ⟨b, k, p, n, pn, t, ot, m, T, g₁, rfl, rfl, hT, ht, hot, hk, hmm, hn, hnn, hb, hm0, hmB, q⟩
  refine ⟨rfl, fun cells hc => ?_⟩
  simp only [List.zip_cons_cons, List.zip_nil_left] at hc
  obtain ⟨oc2, _, rfl, hc2, hc⟩ := hc.inv
  obtain ⟨oc1, _, rfl, hc1, hc⟩ := hc.inv
  obtain ⟨oc0, _, rfl, hc0, hc⟩ := hc.inv
  obtain rfl := hc.nil_inv
  replace hc0 := hc0 _ (mem_hd)
  replace hc1 := hc1 _ (mem_tl (mem_hd))
  replace hc2 := hc2 _ (mem_tl (mem_tl (mem_hd)))
  refine (show EXS _ _ [(Str.ofString "multiplied", MV.undef)] ([(L + 1 + 1 + 1, oc2), (L + 1 + 1, oc1), (L + 1, oc0)] ++ (T ++ g₁)) _ from ?_)
  refine TR.perm (List.perm_append_comm_assoc T _ g₁) ?_
  refine EXS_cons ?_
  refine EX_def (clos := [(Str.ofString "w", L + 1 + 1), (Str.ofString "told", L + 1), (Str.ofString "mul", L + 1 + 1 + 1)]) hT.2.2.1 (by simp [makerTabs]) rfl rfl (if_neg (show ¬ (((some NameKind.local : Option NameKind) == some NameKind.globalExplicit) = true) by decide)) rfl rfl rfl fun f c' ocd cvs tk9 ctv doc pm T' hkeep hst hcd hd2 hv2 => ⟨_, by kwd_rel, ?_⟩
  first | refine seqK_next ?_ | refine Seal.go (by assumption) (seqK_next ?_)
  refine TR.perm (List.Perm.cons _ (List.perm_append_comm_assoc [(L + 1 + 1 + 1, oc2), (L + 1 + 1, oc1), (L + 1, oc0)] T' g₁)) ?_
  repeat tb_rel
  refine endK_ret (q f T' ((f, _) :: [(L + 1 + 1 + 1, oc2), (L + 1 + 1, oc1), (L + 1, oc0)]) ⟨hkeep _ _ _ _ (by decide) hT.1, hkeep _ _ _ _ (by decide) hT.2.1, hst, hkeep _ _ _ _ (by decide) hT.2.2.2⟩ fun P hP => ⟨⟨_, _, mem_hd, rfl⟩, fun Γ loc g Q e1 e2 e3 hk8 hs i j l o k' p' hi hj hl ho hk' hp' qq => ?_⟩) (List.Sublist.refl _)
  rcases Γ with ⟨_, _, _, A, cn, cs, L', a, ccd, cl, h₀', k8⟩
  dsimp only at e1 e2 e3 hk8
  subst e1 e2 e3
  have mc0 := hs _ (mem_tl (mem_tl (mem_tl (mem_hd))))
  have mc1 := hs _ (mem_tl (mem_tl (mem_hd)))
  have mc2 := hs _ (mem_tl (mem_hd))
  refine CALL_clos (hs _ mem_hd) (hs _ (List.mem_append_right _ (List.mem_append_left _ hcd))) hd2 hv2 [Str.ofString "x", Str.ofString "y"] [] (by intro s vals h; obtain ⟨_, _, rfl⟩ := len2 h; exact BindsTo.of_eq rfl) (by rfl) (by decide) rfl rfl rfl (by decide) (k := 7) (by dsimp only; omega) rfl fun A L h₀ => ?_
  simp only [List.zip_cons_cons, List.zip_nil_left, List.cons_append, List.nil_append, List.map_nil]
  have hkm := hs _ (List.mem_append_right _ (List.mem_append_right _ hk))
  have htm := hs _ (List.mem_append_right _ (List.mem_append_right _ ht))
  have hnm := hs _ (List.mem_append_right _ (List.mem_append_right _ hn))
  repeat tb_rel
  refine mul_school_ok _ _ _ _ _ _ _ _ _ _ (by decide) _ _ _ _ ⟨b, l, o, k', p', _, _, rfl, hl, ho, hk', hp', hb, (hP i j hi hj).2, fun r₁ o₁ h₁ => ?_⟩
  repeat tb_rel
  refine barrett_rest_ok _ _ _ _ _ _ _ _ _ _ (by decide) _ _ _ _ ⟨b, r₁, o₁, k, p, n, pn, t, ot, _, m, rfl, mem_hd, h₁, mem_tl htm, hot, mem_tl hkm, hmm, mem_tl hnm, hnn, hb, hm0, hmB, fun r₃ o₃ h₃ => ?_⟩
  repeat tb_rel
  rw [(hP i j hi hj).1] at h₃
  exact endK_ret (qq r₃ o₃ h₃) (by kwd_less)
inductive sp_mont_times (w : World) (vs : List MV) (g : Gl) (Q : MV → Gl → Prop) : Prop where
  | mk : ∀ b x m T g₁, vs = [.ref x, .int (b : Nat), .ref 437] → g = T ++ g₁ → Tabs T → Mont b m x g₁ → (6 ≤ b ∧ b ≤ 8) → m < 64 → m % 2 = 1 → (∀ f T' F, Tabs T' → (∀ P : Nat → Nat, (∀ i j, 1 ≤ i → 1 ≤ j → P i * P j * Ri b m % m = P (i + j) ∧ P i < m) → TimesOk w b P f (F ++ (T' ++ g₁))) → Q (.ref f) (F ++ (T' ++ g₁))) → sp_mont_times w vs g Q
theorem mont_times_ok (w : World) : SoundF PR w (hK w.params) 1 355 (sp_mont_times w) := by
  refine soundFC (by k_is) (by k_is) [Str.ofString "told", Str.ofString "w", Str.ofString "mul"] [Str.ofString "multiplied"] [Str.ofString "mul", Str.ofString "w", Str.ofString "told"] (fun L => [(Str.ofString "mul", L + 1 + 1 + 1), (Str.ofString "w", L + 1 + 1), (Str.ofString "told", L + 1)]) (fun L => rfl) (fun L => rfl) (fun L => cells_ok3) (by intro s vals h; obtain ⟨_, _, _, rfl⟩ := len3 h; exact BindsTo.of_eq rfl) (by rfl) (by rfl) (by rfl) (by decide) (by decide) rfl rfl rfl ?_
  rintro A L h₀ vs g Q ⟨b, x, m, T, g₁, rfl, rfl, hT, hM, hb, hm64, hodd, q⟩
  refine ⟨rfl, fun cells hc => ?_⟩
  simp only [List.zip_cons_cons, List.zip_nil_left] at hc
  obtain ⟨oc2, _, rfl, hc2, hc⟩ := hc.inv
  obtain ⟨oc1, _, rfl, hc1, hc⟩ := hc.inv
  obtain ⟨oc0, _, rfl, hc0, hc⟩ := hc.inv
  obtain rfl := hc.nil_inv
  replace hc0 := hc0 _ (mem_hd)
  replace hc1 := hc1 _ (mem_tl (mem_hd))
  replace hc2 := hc2 _ (mem_tl (mem_tl (mem_hd)))
  refine (show EXS _ _ [(Str.ofString "multiplied", MV.undef)] ([(L + 1 + 1 + 1, oc2), (L + 1 + 1, oc1), (L + 1, oc0)] ++ (T ++ g₁)) _ from ?_)
  refine TR.perm (List.perm_append_comm_assoc T _ g₁) ?_
  refine EXS_cons ?_
  refine EX_def (clos := [(Str.ofString "w", L + 1 + 1), (Str.ofString "told", L + 1), (Str.ofString "mul", L + 1 + 1 + 1)]) hT.2.1 (by simp [makerTabs]) rfl rfl (if_neg (show ¬ (((some NameKind.local : Option NameKind) == some NameKind.globalExplicit) = true) by decide)) rfl rfl rfl fun f c' ocd cvs tk9 ctv doc pm T' hkeep hst hcd hd2 hv2 => ⟨_, by kwd_rel, ?_⟩
  first | refine seqK_next ?_ | refine Seal.go (by assumption) (seqK_next ?_)
  refine TR.perm (List.Perm.cons _ (List.perm_append_comm_assoc [(L + 1 + 1 + 1, oc2), (L + 1 + 1, oc1), (L + 1, oc0)] T' g₁)) ?_
  repeat tb_rel
  refine endK_ret (q f T' ((f, _) :: [(L + 1 + 1 + 1, oc2), (L + 1 + 1, oc1), (L + 1, oc0)]) ⟨hkeep _ _ _ _ (by decide) hT.1, hst, hkeep _ _ _ _ (by decide) hT.2.2.1, hkeep _ _ _ _ (by decide) hT.2.2.2⟩ fun P hP => ⟨⟨_, _, mem_hd, rfl⟩, fun Γ loc g Q e1 e2 e3 hk8 hs i j l o k' p' hi hj hl ho hk' hp' qq => ?_⟩) (List.Sublist.refl _)
  rcases Γ with ⟨_, _, _, A, cn, cs, L', a, ccd, cl, h₀', k8⟩
  dsimp only at e1 e2 e3 hk8
  subst e1 e2 e3
  have mc0 := hs _ (mem_tl (mem_tl (mem_tl (mem_hd))))
  have mc1 := hs _ (mem_tl (mem_tl (mem_hd)))
  have mc2 := hs _ (mem_tl (mem_hd))
  refine CALL_clos (hs _ mem_hd) (hs _ (List.mem_append_right _ (List.mem_append_left _ hcd))) hd2 hv2 [Str.ofString "x", Str.ofString "y"] [] (by intro s vals h; obtain ⟨_, _, rfl⟩ := len2 h; exact BindsTo.of_eq rfl) (by rfl) (by decide) rfl rfl rfl (by decide) (k := 7) (by dsimp only; omega) rfl fun A L h₀ => ?_
  simp only [List.zip_cons_cons, List.zip_nil_left, List.cons_append, List.nil_append, List.map_nil]
  have hMm : Mont b m x _ := hM.mono fun p hp => hs p (List.mem_append_right _ (List.mem_append_right _ hp))
  repeat tb_rel
  refine mont_mul_ok _ _ _ _ _ _ _ _ _ _ (by decide) _ _ _ _ ⟨b, l, o, k', p', x, _, _, m, rfl, hl, ho, hk', hp', hMm, hb, hm64, hodd, (hP i j hi hj).2, (hP j i hj hi).2, fun r₃ o₃ h₃ => ?_⟩
  repeat tb_rel
  rw [(hP i j hi hj).1] at h₃
  exact endK_ret (qq r₃ o₃ h₃) (by kwd_less)
inductive sp_low_times (w : World) (vs : List MV) (g : Gl) (Q : MV → Gl → Prop) : Prop where
  | mk : ∀ b n T g₁, vs = [.int (n : Nat), .int (b : Nat), .ref 437] → g = T ++ g₁ → Tabs T → (6 ≤ b ∧ b ≤ 8) → n < b → (∀ f T' F, Tabs T' → (∀ P : Nat → Nat, (∀ i j, 1 ≤ i → 1 ≤ j → P i * P j % 2 ^ n = P (i + j) ∧ P i * P j < 2 ^ 32) → TimesOk w b P f (F ++ (T' ++ g₁))) → Q (.ref f) (F ++ (T' ++ g₁))) → sp_low_times w vs g Q
theorem low_times_ok (w : World) : SoundF PR w (hK w.params) 1 362 (sp_low_times w) := by
  refine soundFC (by k_is) (by k_is) [Str.ofString "n", Str.ofString "w", Str.ofString "mul"] [Str.ofString "multiplied"] [Str.ofString "mul", Str.ofString "w", Str.ofString "n"] (fun L => [(Str.ofString "mul", L + 1 + 1 + 1), (Str.ofString "w", L + 1 + 1), (Str.ofString "n", L + 1)]) (fun L => rfl) (fun L => rfl) (fun L => cells_ok3) (by intro s vals h; obtain ⟨_, _, _, rfl⟩ := len3 h; exact BindsTo.of_eq rfl) (by rfl) (by rfl) (by rfl) (by decide) (by decide) rfl rfl rfl ?_
  rintro A L h₀ vs g Q ⟨b, n, T, g₁, rfl, rfl, hT, hb, hn, q⟩
  refine ⟨rfl, fun cells hc => ?_⟩
  simp only [List.zip_cons_cons, List.zip_nil_left] at hc
  obtain ⟨oc2, _, rfl, hc2, hc⟩ := hc.inv
  obtain ⟨oc1, _, rfl, hc1, hc⟩ := hc.inv
  obtain ⟨oc0, _, rfl, hc0, hc⟩ := hc.inv
  obtain rfl := hc.nil_inv
  replace hc0 := hc0 _ (mem_hd)
  replace hc1 := hc1 _ (mem_tl (mem_hd))
  replace hc2 := hc2 _ (mem_tl (mem_tl (mem_hd)))
  refine (show EXS _ _ [(Str.ofString "multiplied", MV.undef)] ([(L + 1 + 1 + 1, oc2), (L + 1 + 1, oc1), (L + 1, oc0)] ++ (T ++ g₁)) _ from ?_)
  refine TR.perm (List.perm_append_comm_assoc T _ g₁) ?_
  refine EXS_cons ?_
  refine EX_def (clos := [(Str.ofString "w", L + 1 + 1), (Str.ofString "n", L + 1), (Str.ofString "mul", L + 1 + 1 + 1)]) hT.1 (by simp [makerTabs]) rfl rfl (if_neg (show ¬ (((some NameKind.local : Option NameKind) == some NameKind.globalExplicit) = true) by decide)) rfl rfl rfl fun f c' ocd cvs tk9 ctv doc pm T' hkeep hst hcd hd2 hv2 => ⟨_, by kwd_rel, ?_⟩
  first | refine seqK_next ?_ | refine Seal.go (by assumption) (seqK_next ?_)
  refine TR.perm (List.Perm.cons _ (List.perm_append_comm_assoc [(L + 1 + 1 + 1, oc2), (L + 1 + 1, oc1), (L + 1, oc0)] T' g₁)) ?_
  repeat tb_rel
  refine endK_ret (q f T' ((f, _) :: [(L + 1 + 1 + 1, oc2), (L + 1 + 1, oc1), (L + 1, oc0)]) ⟨hst, hkeep _ _ _ _ (by decide) hT.2.1, hkeep _ _ _ _ (by decide) hT.2.2.1, hkeep _ _ _ _ (by decide) hT.2.2.2⟩ fun P hP => ⟨⟨_, _, mem_hd, rfl⟩, fun Γ loc g Q e1 e2 e3 hk8 hs i j l o k' p' hi hj hl ho hk' hp' qq => ?_⟩) (List.Sublist.refl _)
  rcases Γ with ⟨_, _, _, A, cn, cs, L', a, ccd, cl, h₀', k8⟩
  dsimp only at e1 e2 e3 hk8
  subst e1 e2 e3
  have mc0 := hs _ (mem_tl (mem_tl (mem_tl (mem_hd))))
  have mc1 := hs _ (mem_tl (mem_tl (mem_hd)))
  have mc2 := hs _ (mem_tl (mem_hd))
  refine CALL_clos (hs _ mem_hd) (hs _ (List.mem_append_right _ (List.mem_append_left _ hcd))) hd2 hv2 [Str.ofString "x", Str.ofString "y"] [] (by intro s vals h; obtain ⟨_, _, rfl⟩ := len2 h; exact BindsTo.of_eq rfl) (by rfl) (by decide) rfl rfl rfl (by decide) (k := 7) (by dsimp only; omega) rfl fun A L h₀ => ?_
  simp only [List.zip_cons_cons, List.zip_nil_left, List.cons_append, List.nil_append, List.map_nil]
  repeat tb_rel
  refine mul_school_ok _ _ _ _ _ _ _ _ _ _ (by decide) _ _ _ _ ⟨b, l, o, k', p', _, _, rfl, hl, ho, hk', hp', hb, (hP i j hi hj).2, fun r₁ o₁ h₁ => ?_⟩
  repeat tb_rel
  refine low_ok _ _ _ _ _ _ _ _ _ _ (by decide) _ _ _ _ ⟨b, r₁, o₁, _, n, rfl, mem_hd, h₁, hb, hn, fun r₃ o₃ h₃ => ?_⟩
  repeat tb_rel
  rw [(hP i j hi hj).1] at h₃
  exact endK_ret (qq r₃ o₃ h₃) (by kwd_less)
-- part F10
inductive sp_power_mod (vs : List MV) (g : Gl) (Q : MV → Gl → Prop) : Prop where
  | mk : ∀ b la oa a le oe e lm om m size T g₁, vs = [.ref la, .ref le, .ref lm, .int (b : Nat), .int (size : Nat), .ref 437, .ref 479] → g = T ++ g₁ → Tabs T → (la, oa) ∈ g₁ → IsN b a oa → (le, oe) ∈ g₁ → IsN b e oe → (lm, om) ∈ g₁ → IsN b m om → (6 ≤ b ∧ b ≤ 8) → 0 < m → m < 64 → e < 64 → 1 ≤ size → size ≤ 3 → (∀ r q T', Tabs T' → IsN b (a ^ e % m) q → Q (.ref r) ((r, q) :: (T' ++ g₁))) → sp_power_mod vs g Q
theorem power_mod_ok (w : World) : SoundF PR w (hK w.params) 11 369 sp_power_mod := by
  refine soundF (by k_is) (by k_is) [Str.ofString "a", Str.ofString "e", Str.ofString "m", Str.ofString "w", Str.ofString "size", Str.ofString "mul", Str.ofString "divrem"] [Str.ofString "base"] (by intro s vals h; obtain ⟨_, _, _, _, _, _, _, rfl⟩ := len7 h; exact BindsTo.of_eq rfl) (by rfl) (by decide) rfl rfl rfl (by decide) ?_
  rintro A L h₀ vs g Q ⟨b, la, oa, a, le, oe, e, lm, om, m, size, T, g₁, rfl, rfl, hT, ha, haa, he, hee, hm, hmm, hb, hm0, hm64, he64, hs1, hs3, q⟩
  refine ⟨rfl, ?_⟩
  simp only [List.zip_cons_cons, List.zip_nil_left, List.cons_append, List.nil_append, List.map_cons, List.map_nil]
  have hBN := BN_rng hb
  have ha' := List.mem_append_right T ha
  have he' := List.mem_append_right T he
  have hm' := List.mem_append_right T hm
  repeat tb_rel
  refine check_modulus_ok w _ _ _ _ _ _ _ _ _ (by decide) _ _ _ _ ⟨b, lm, om, m, rfl, hm', hmm, hm0, ?_⟩
  repeat tb_rel
  refine divrem_school_ok w _ _ _ _ _ _ _ _ _ (by decide) _ _ _ _ ⟨b, la, oa, lm, om, a, m, rfl, ha', haa, hm', hmm, hb, hm0, by tlg_ne, fun r₀ o₀ rb ob t o' h₀ hb' ho' => ?_⟩
  repeat tb_rel
  refine ITEM_tup mem_hd ho' (by tlg_ne) rfl (by tlg_ne) ?_
  repeat tb_rel
  refine CALL.drop (g' := (rb, ob) :: (T ++ g₁)) (by kwd_less) ?_
  refine unit_rest_ok w _ _ _ _ _ _ _ _ _ (by decide) _ _ _ _ ⟨b, lm, om, m, rfl, mem_tl hm', hmm, hm0, hb.1, by tlg_ne, fun ru ou hu => ?_⟩
  repeat tb_rel
  refine CALL.perm (List.perm_append_comm_assoc T [(ru, ou), (rb, ob)] g₁) ?_
  refine divided_times_ok w _ _ _ _ _ _ _ _ _ (by decide) _ _ _ _ ⟨b, lm, om, m, T, _, rfl, rfl, hT, mem_tl (mem_tl hm), hmm, hb, hm0, by tlg_ne, fun f T' F hT' htm => ?_⟩
  repeat tb_rel
  have htk := htm (fun k => a ^ k % m) fun i j _ _ => ⟨pow_step a m i j, mul_small (Nat.lt_trans (mod_small hm0 hm64) (by decide)) (Nat.lt_trans (mod_small hm0 hm64) (by decide))⟩
  refine CALL.perm (perm3 [(ru, ou), (rb, ob)] F T' g₁) ?_
  refine by_windows_ok w _ _ _ _ _ _ _ _ _ (by decide) _ _ _ _ ⟨b, rb, ob, le, oe, size, e, ru, f, fun k => a ^ k % m, rfl, mem_tl mem_hd, by show IsN b (a ^ 1 % m) ob; rw [Nat.pow_one]; exact hb', List.mem_append_right _ (List.mem_append_right _ (List.mem_append_right _ he)), hee, hb, he64, hs1, hs3, htk.mono fun p hp => (perm3 _ _ _ _).symm.subset hp, fun h0 => ?_, fun h1 => ?_, fun r qr hpos hr => ?_⟩
  · subst h0
    repeat tb_rel
    exact endK_ret (q ru ou T' hT' hu) (by simp only [List.cons_append, List.nil_append]; kwd_less)
  · subst h1
    repeat tb_rel
    exact endK_ret (q rb ob T' hT' (by rw [Nat.pow_one]; exact hb')) (by simp only [List.cons_append, List.nil_append]; kwd_less)
  · repeat tb_rel
    exact endK_ret (q r qr T' hT' hr) (by simp only [List.cons_append, List.nil_append]; kwd_less)
inductive sp_power_barrett (vs : List MV) (g : Gl) (Q : MV → Gl → Prop) : Prop where
  | mk : ∀ b la oa a le oe e lm om m size T g₁, vs = [.ref la, .ref le, .ref lm, .int (b : Nat), .int (size : Nat), .ref 437, .ref 479] → g = T ++ g₁ → Tabs T → (la, oa) ∈ g₁ → IsN b a oa → (le, oe) ∈ g₁ → IsN b e oe → (lm, om) ∈ g₁ → IsN b m om → (6 ≤ b ∧ b ≤ 8) → 0 < m → m < 64 → e < 64 → 1 ≤ size → size ≤ 3 → (∀ r q T', Tabs T' → IsN b (a ^ e % m) q → Q (.ref r) ((r, q) :: (T' ++ g₁))) → sp_power_barrett vs g Q
theorem power_barrett_ok (w : World) : SoundF PR w (hK w.params) 11 376 sp_power_barrett := by
  refine soundF (by k_is) (by k_is) [Str.ofString "a", Str.ofString "e", Str.ofString "m", Str.ofString "w", Str.ofString "size", Str.ofString "mul", Str.ofString "divrem"] [Str.ofString "told", Str.ofString "base"] (by intro s vals h; obtain ⟨_, _, _, _, _, _, _, rfl⟩ := len7 h; exact BindsTo.of_eq rfl) (by rfl) (by decide) rfl rfl rfl (by decide) ?_
  rintro A L h₀ vs g Q ⟨b, la, oa, a, le, oe, e, lm, om, m, size, T, g₁, rfl, rfl, hT, ha, haa, he, hee, hm, hmm, hb, hm0, hm64, he64, hs1, hs3, q⟩
  refine ⟨rfl, ?_⟩
  simp only [List.zip_cons_cons, List.zip_nil_left, List.cons_append, List.nil_append, List.map_cons, List.map_nil]
  have hBN := BN_rng hb
  have ha' := List.mem_append_right T ha
  have he' := List.mem_append_right T he
  have hm' := List.mem_append_right T hm
  repeat tb_rel
  refine check_modulus_ok w _ _ _ _ _ _ _ _ _ (by decide) _ _ _ _ ⟨b, lm, om, m, rfl, hm', hmm, hm0, ?_⟩
  repeat tb_rel
  refine barrett_make_ok w _ _ _ _ _ _ _ _ _ (by decide) _ _ _ _ ⟨b, lm, om, m, rfl, hm', hmm, hb, hm0, by tlg_ne, fun n pn t ot hn hot => ?_⟩
  repeat tb_rel
  refine barrett_rest_ok w _ _ _ _ _ _ _ _ _ (by decide) _ _ _ _ ⟨b, la, oa, lm, om, n, pn, t, ot, a, m, rfl, mem_tl (mem_tl ha'), haa, mem_hd, hot, mem_tl (mem_tl hm'), hmm, mem_tl mem_hd, hn, hb, hm0, by tlg_ne, fun rb ob hb' => ?_⟩
  repeat tb_rel
  refine unit_rest_ok w _ _ _ _ _ _ _ _ _ (by decide) _ _ _ _ ⟨b, lm, om, m, rfl, mem_tl (mem_tl (mem_tl hm')), hmm, hm0, hb.1, by tlg_ne, fun ru ou hu => ?_⟩
  repeat tb_rel
  refine CALL.perm (List.perm_append_comm_assoc T [(ru, ou), (rb, ob), (t, ot), (n, pn)] g₁) ?_
  refine barrett_times_ok w _ _ _ _ _ _ _ _ _ (by decide) _ _ _ _ ⟨b, lm, om, n, pn, t, ot, m, T, _, rfl, rfl, hT, mem_tl (mem_tl mem_hd), hot, mem_tl (mem_tl (mem_tl (mem_tl hm))), hmm, mem_tl (mem_tl (mem_tl mem_hd)), hn, hb, hm0, by tlg_ne, fun f T' F hT' htm => ?_⟩
  repeat tb_rel
  have htk := htm (fun k => a ^ k % m) fun i j _ _ => ⟨pow_step a m i j, mul_small (Nat.lt_trans (mod_small hm0 hm64) (by decide)) (Nat.lt_trans (mod_small hm0 hm64) (by decide))⟩
  refine CALL.perm (perm3 [(ru, ou), (rb, ob), (t, ot), (n, pn)] F T' g₁) ?_
  refine by_windows_ok w _ _ _ _ _ _ _ _ _ (by decide) _ _ _ _ ⟨b, rb, ob, le, oe, size, e, ru, f, fun k => a ^ k % m, rfl, mem_tl mem_hd, by show IsN b (a ^ 1 % m) ob; rw [Nat.pow_one]; exact hb', List.mem_append_right _ (List.mem_append_right _ (List.mem_append_right _ he)), hee, hb, he64, hs1, hs3, htk.mono fun p hp => (perm3 _ _ _ _).symm.subset hp, fun h0 => ?_, fun h1 => ?_, fun r qr hpos hr => ?_⟩
  · subst h0
    repeat tb_rel
    exact endK_ret (q ru ou T' hT' hu) (by simp only [List.cons_append, List.nil_append]; kwd_less)
  · subst h1
    repeat tb_rel
    exact endK_ret (q rb ob T' hT' (by rw [Nat.pow_one]; exact hb')) (by simp only [List.cons_append, List.nil_append]; kwd_less)
  · repeat tb_rel
    exact endK_ret (q r qr T' hT' hr) (by simp only [List.cons_append, List.nil_append]; kwd_less)
inductive sp_power_mont (vs : List MV) (g : Gl) (Q : MV → Gl → Prop) : Prop where
  | mk : ∀ b la oa a le oe e lm om m size T g₁, vs = [.ref la, .ref le, .ref lm, .int (b : Nat), .int (size : Nat), .ref 437, .ref 479] → g = T ++ g₁ → Tabs T → (la, oa) ∈ g₁ → IsN b a oa → (le, oe) ∈ g₁ → IsN b e oe → (lm, om) ∈ g₁ → IsN b m om → (6 ≤ b ∧ b ≤ 8) → m % 2 = 1 → m < 64 → e < 64 → 1 ≤ size → size ≤ 3 → (∀ r q T', Tabs T' → IsN b (a ^ e % m) q → Q (.ref r) ((r, q) :: (T' ++ g₁))) → sp_power_mont vs g Q
theorem power_mont_ok (w : World) : SoundF PR w (hK w.params) 11 383 sp_power_mont := by
  refine soundF (by k_is) (by k_is) [Str.ofString "a", Str.ofString "e", Str.ofString "m", Str.ofString "w", Str.ofString "size", Str.ofString "mul", Str.ofString "divrem"] [Str.ofString "told", Str.ofString "base", Str.ofString "found"] (by intro s vals h; obtain ⟨_, _, _, _, _, _, _, rfl⟩ := len7 h; exact BindsTo.of_eq rfl) (by rfl) (by decide) rfl rfl rfl (by decide) ?_
  rintro A L h₀ vs g Q ⟨b, la, oa, a, le, oe, e, lm, om, m, size, T, g₁, rfl, rfl, hT, ha, haa, he, hee, hm, hmm, hb, hodd, hm64, he64, hs1, hs3, q⟩
  refine ⟨rfl, ?_⟩
  simp only [List.zip_cons_cons, List.zip_nil_left, List.cons_append, List.nil_append, List.map_cons, List.map_nil]
  have hBN := BN_rng hb
  have hm0 : 0 < m := by tlg_ne
  have ha' := List.mem_append_right T ha
  have he' := List.mem_append_right T he
  have hm' := List.mem_append_right T hm
  repeat tb_rel
  refine mont_make_ok w _ _ _ _ _ _ _ _ _ (by decide) _ _ _ _ ⟨b, lm, om, m, rfl, hm', hmm, hb, hm64, hodd, fun x dx es n r1 q1 r2 q2 mi hA h1 h2 hmi hinv => ?_⟩
  have hM : Mont b m x ((x, instObj 239 dx) :: (dx, dictOf es n) :: (r2, q2) :: (r1, q1) :: (T ++ g₁)) := ⟨dx, es, n, lm, om, mi, r1, q1, r2, q2, mem_hd, mem_tl mem_hd, hA, by tb_start, hmm, by tb_start, h1, by tb_start, h2, hmi, hinv⟩
  repeat tb_rel
  refine divrem_school_ok w _ _ _ _ _ _ _ _ _ (by decide) _ _ _ _ ⟨b, la, oa, lm, om, a, m, rfl, by tb_start, haa, by tb_start, hmm, hb, hm0, by tlg_ne, fun r₀ o₀ rd od t o' h₀ hd' ho' => ?_⟩
  repeat tb_rel
  refine ITEM_tup mem_hd ho' (by tlg_ne) rfl (by tlg_ne) ?_
  repeat tb_rel
  refine to_mont_ok w _ _ _ _ _ _ _ _ _ (by decide) _ _ _ _ ⟨b, rd, od, x, _, m, rfl, by tb_start, hd', Mont.up (Mont.up (Mont.up hM)), hb, hm64, hodd, Nat.mod_lt _ hm0, fun rb ob hb' => ?_⟩
  have hb2 : IsN b (a ^ 1 * 2 ^ b % m) ob := by
    rw [Nat.pow_one, Nat.mul_mod, ← Nat.mod_mod a, ← Nat.mul_mod]; exact hb'
  refine ⟨_, by kwd_rel, ?_⟩
  first | refine seqK_next ?_ | refine Seal.go (by assumption) (seqK_next ?_)
  refine TR.drop (g' := (rb, ob) :: (x, instObj 239 dx) :: (dx, dictOf es n) :: (r2, q2) :: (r1, q1) :: (T ++ g₁)) (by kwd_less) ?_
  refine EXS_join (fun loc g' => E3 fun r q T' => A6 (loc = [(Str.ofString "a", .ref la), (Str.ofString "e", .ref le), (Str.ofString "m", .ref lm), (Str.ofString "w", .int (b : Nat)), (Str.ofString "size", .int (size : Nat)), (Str.ofString "mul", .ref 437), (Str.ofString "divrem", .ref 479), (Str.ofString "told", .ref x), (Str.ofString "base", .ref rb), (Str.ofString "found", .ref r)]) (Tabs T') (List.Sublist (T' ++ g₁) g') ((r, q) ∈ g') (IsN b (a ^ e * 2 ^ b % m) q) (Mont b m x g')) ?_ ?_
  · repeat tb_rel
    refine EV_attr ?_
    repeat tb_rel
    refine ⟨x, 239, dx, es, n, _, .ref r1, rfl, by tb_start, by tb_start, ⟨by dsimp only; k_is, by dsimp only; k_is, by dsimp only; k_is⟩, hA, by simp only [List.map_cons, List.map_nil]; decide, mem_tl (mem_tl mem_hd), (fun _ h => nomatch h), ?_⟩
    repeat tb_rel
    refine CALL.perm (List.perm_append_comm_assoc T [(rb, ob), (x, instObj 239 dx), (dx, dictOf es n), (r2, q2), (r1, q1)] g₁) ?_
    have hM2 : Mont b m x ([(rb, ob), (x, instObj 239 dx), (dx, dictOf es n), (r2, q2), (r1, q1)] ++ g₁) := ⟨dx, es, n, lm, om, mi, r1, q1, r2, q2, mem_tl mem_hd, mem_tl (mem_tl mem_hd), hA, mem_tl (mem_tl (mem_tl (mem_tl (mem_tl hm)))), hmm, mem_tl (mem_tl (mem_tl (mem_tl mem_hd))), h1, mem_tl (mem_tl (mem_tl mem_hd)), h2, hmi, hinv⟩
    refine mont_times_ok w _ _ _ _ _ _ _ _ _ (by decide) _ _ _ _ ⟨b, x, m, T, _, rfl, rfl, hT, hM2, hb, hm64, hodd, fun f T' F hT' htm => ?_⟩
    repeat tb_rel
    have htk := htm (fun k => a ^ k * 2 ^ b % m) fun i j _ _ => ⟨by rw [mont_step hodd, Nat.pow_add], Nat.mod_lt _ hm0⟩
    refine CALL.perm (perm3 [(rb, ob), (x, instObj 239 dx), (dx, dictOf es n), (r2, q2), (r1, q1)] F T' g₁) ?_
    have hM3 : Mont b m x ([(rb, ob), (x, instObj 239 dx), (dx, dictOf es n), (r2, q2), (r1, q1)] ++ (F ++ (T' ++ g₁))) := hM2.mono fun p hp => (List.mem_append.mp hp).elim (fun h => List.mem_append_left _ h) fun h => List.mem_append_right _ (List.mem_append_right _ (List.mem_append_right _ h))
    refine by_windows_ok w _ _ _ _ _ _ _ _ _ (by decide) _ _ _ _ ⟨b, rb, ob, le, oe, size, e, r1, f, fun k => a ^ k * 2 ^ b % m, rfl, mem_hd, hb2, List.mem_append_right _ (List.mem_append_right _ (List.mem_append_right _ he)), hee, hb, he64, hs1, hs3, htk.mono fun p hp => (perm3 _ _ _ _).symm.subset hp, fun h0 => ?_, fun h1' => ?_, fun r qr hpos hr => ?_⟩
    · subst h0
      repeat tb_rel
      exact ⟨rfl, _, List.Sublist.refl _, r1, q1, T', rfl, hT', (by simp only [List.cons_append, List.nil_append]; kwd_less), mem_tl (mem_tl (mem_tl (mem_tl mem_hd))), by rw [Nat.pow_zero, Nat.one_mul]; exact h1, hM3⟩
    · subst h1'
      repeat tb_rel
      exact ⟨rfl, _, List.Sublist.refl _, rb, ob, T', rfl, hT', (by simp only [List.cons_append, List.nil_append]; kwd_less), mem_hd, hb2, hM3⟩
    · repeat tb_rel
      exact ⟨rfl, _, List.Sublist.refl _, r, qr, T', rfl, hT', (by simp only [List.cons_append, List.nil_append]; kwd_less), mem_hd, hr, hM3.up⟩
  rintro _ g' ⟨r, qr, T', rfl, hT', hsub, hrm, hrv, hM4⟩
  repeat tb_rel
  have hlt : a ^ e * 2 ^ b % m < m * 2 ^ b := Nat.lt_of_lt_of_le (Nat.mod_lt _ hm0) (Nat.le_mul_of_pos_right _ (Nat.two_pow_pos b))
  refine from_mont_ok w _ _ _ _ _ _ _ _ _ (by decide) _ _ _ _ ⟨b, r, qr, x, _, m, rfl, hrm, hrv, hM4, hb, hm64, hodd, hlt, fun r₂ o₂ h₂ => ?_⟩
  rw [mont_out hodd] at h₂
  repeat tb_rel
  exact endK_ret (q r₂ o₂ T' hT' h₂) (hsub.cons_cons _)
inductive sp_power_low (vs : List MV) (g : Gl) (Q : MV → Gl → Prop) : Prop where
  | mk : ∀ b la oa a le oe e n size T g₁, vs = [.ref la, .ref le, .int (n : Nat), .int (b : Nat), .int (size : Nat), .ref 437] → g = T ++ g₁ → Tabs T → (la, oa) ∈ g₁ → IsN b a oa → (le, oe) ∈ g₁ → IsN b e oe → (6 ≤ b ∧ b ≤ 8) → n < b → e < 64 → 1 ≤ size → size ≤ 3 → (∀ r q T', Tabs T' → IsN b (a ^ e % 2 ^ n) q → Q (.ref r) ((r, q) :: (T' ++ g₁))) → sp_power_low vs g Q
theorem power_low_ok (w : World) : SoundF PR w (hK w.params) 11 390 sp_power_low := by
  refine soundF (by k_is) (by k_is) [Str.ofString "a", Str.ofString "e", Str.ofString "n", Str.ofString "w", Str.ofString "size", Str.ofString "mul"] [Str.ofString "one"] (by intro s vals h; obtain ⟨_, _, _, _, _, _, rfl⟩ := len6 h; exact BindsTo.of_eq rfl) (by rfl) (by decide) rfl rfl rfl (by decide) ?_
  rintro A L h₀ vs g Q ⟨b, la, oa, a, le, oe, e, n, size, T, g₁, rfl, rfl, hT, ha, haa, he, hee, hb, hn, he64, hs1, hs3, q⟩
  refine ⟨rfl, ?_⟩
  simp only [List.zip_cons_cons, List.zip_nil_left, List.cons_append, List.nil_append, List.map_cons, List.map_nil]
  have hBN := BN_rng hb
  have hN0 : 0 < 2 ^ n := Nat.two_pow_pos _
  have hNB : 2 ^ n < 256 := Nat.lt_of_lt_of_le (Nat.pow_lt_pow_right (by decide) hn) hBN.2
  have ha' := List.mem_append_right T ha
  have he' := List.mem_append_right T he
  repeat tb_rel
  refine EV_one ?_
  repeat tb_rel
  rintro r₁ o₁ h₁
  repeat tb_rel
  refine low_ok w _ _ _ _ _ _ _ _ _ (by decide) _ _ _ _ ⟨b, r₁, o₁, 1, n, rfl, mem_hd, IsN.one hb.1 h₁, hb, hn, fun ru ou hu => ?_⟩
  repeat tb_rel
  refine low_ok w _ _ _ _ _ _ _ _ _ (by decide) _ _ _ _ ⟨b, la, oa, a, n, rfl, mem_tl (mem_tl ha'), haa, hb, hn, fun rb ob hb' => ?_⟩
  repeat tb_rel
  refine CALL.perm (List.perm_append_comm_assoc T [(rb, ob), (ru, ou), (r₁, o₁)] g₁) ?_
  refine low_times_ok w _ _ _ _ _ _ _ _ _ (by decide) _ _ _ _ ⟨b, n, T, _, rfl, rfl, hT, hb, hn, fun f T' F hT' htm => ?_⟩
  repeat tb_rel
  have htk := htm (fun k => a ^ k % 2 ^ n) fun i j _ _ => ⟨pow_step a _ i j, mul_small (Nat.lt_trans (Nat.mod_lt _ hN0) hNB) (Nat.lt_trans (Nat.mod_lt _ hN0) hNB)⟩
  refine CALL.perm (perm3 [(rb, ob), (ru, ou), (r₁, o₁)] F T' g₁) ?_
  refine by_windows_ok w _ _ _ _ _ _ _ _ _ (by decide) _ _ _ _ ⟨b, rb, ob, le, oe, size, e, ru, f, fun k => a ^ k % 2 ^ n, rfl, mem_hd, by show IsN b (a ^ 1 % 2 ^ n) ob; rw [Nat.pow_one]; exact hb', List.mem_append_right _ (List.mem_append_right _ (List.mem_append_right _ he)), hee, hb, he64, hs1, hs3, htk.mono fun p hp => (perm3 _ _ _ _).symm.subset hp, fun h0 => ?_, fun h1 => ?_, fun r qr hpos hr => ?_⟩
  · subst h0
    repeat tb_rel
    exact endK_ret (q ru ou T' hT' hu) (by simp only [List.cons_append, List.nil_append]; kwd_less)
  · subst h1
    repeat tb_rel
    exact endK_ret (q rb ob T' hT' (by rw [Nat.pow_one]; exact hb')) (by simp only [List.cons_append, List.nil_append]; kwd_less)
  · repeat tb_rel
    exact endK_ret (q r qr T' hT' hr) (by simp only [List.cons_append, List.nil_append]; kwd_less)
-- part F11
inductive sp_power_any (vs : List MV) (g : Gl) (Q : MV → Gl → Prop) : Prop where
  | mk : ∀ b la oa a le oe e lm om m size T g₁, vs = [.ref la, .ref le, .ref lm, .int (b : Nat), .int (size : Nat), .ref 437, .ref 479] → g = T ++ g₁ → Tabs T → (la, oa) ∈ g₁ → IsN b a oa → (le, oe) ∈ g₁ → IsN b e oe → (lm, om) ∈ g₁ → IsN b m om → (6 ≤ b ∧ b ≤ 8) → 0 < m → m < 64 → e < 64 → 1 ≤ size → size ≤ 3 → (∀ r q T', Tabs T' → IsN b (a ^ e % m) q → Q (.ref r) ((r, q) :: (T' ++ g₁))) → sp_power_any vs g Q
theorem power_any_ok (w : World) : SoundF PR w (hK w.params) 12 397 sp_power_any := by
  refine soundF (by k_is) (by k_is) [Str.ofString "a", Str.ofString "e", Str.ofString "m", Str.ofString "w", Str.ofString "size", Str.ofString "mul", Str.ofString "divrem"] [Str.ofString "n", Str.ofString "odd", Str.ofString "one", Str.ofString "other", Str.ofString "below", Str.ofString "way", Str.ofString "inverse"] (by intro s vals h; obtain ⟨_, _, _, _, _, _, _, rfl⟩ := len7 h; exact BindsTo.of_eq rfl) (by rfl) (by decide) rfl rfl rfl (by decide) ?_
  rintro A L h₀ vs g Q ⟨b, la, oa, a, le, oe, e, lm, om, m, size, T, g₁, rfl, rfl, hT, ha, haa, he, hee, hm, hmm, hb, hm0, hm64, he64, hs1, hs3, q⟩
  refine ⟨rfl, ?_⟩
  simp only [List.zip_cons_cons, List.zip_nil_left, List.cons_append, List.nil_append, List.map_cons, List.map_nil]
  have hBN := BN_rng hb
  have hm' := List.mem_append_right T hm
  repeat tb_rel
  refine check_modulus_ok w _ _ _ _ _ _ _ _ _ (by decide) _ _ _ _ ⟨b, lm, om, m, rfl, hm', hmm, hm0, ?_⟩
  repeat tb_rel
  refine trailing_ok w _ _ _ _ _ _ _ _ _ (by decide) _ _ _ _ ⟨b, lm, om, m, rfl, hm', hmm, hb, hm0, hm64, fun n hn6 hnd hodd => ?_⟩
  repeat tb_rel
  refine shift_right_ok w _ _ _ _ _ _ _ _ _ (by decide) _ _ _ _ ⟨b, lm, om, m, n, rfl, hm', hmm, hb, by tlg_ne, hm0, by tlg_ne, fun ro oo hoo => ?_⟩
  have hdm : m / 2 ^ n * 2 ^ n = m := Nat.div_mul_cancel (Nat.dvd_of_mod_eq_zero hnd)
  have hd64 : m / 2 ^ n < 64 := Nat.lt_of_le_of_lt (Nat.div_le_self _ _) hm64
  generalize m / 2 ^ n = d at *
  have hN0 : 0 < 2 ^ n := Nat.two_pow_pos _
  have hNB : 2 ^ n < 256 := Nat.lt_of_lt_of_le (Nat.pow_lt_pow_right (by decide) (show n < b by tlg_ne)) hBN.2
  repeat tb_rel
  refine CALL.perm (List.perm_append_comm_assoc T [(ro, oo)] g₁) ?_
  refine power_mont_ok w _ _ _ _ _ _ _ _ _ (by decide) _ _ _ _ ⟨b, la, oa, a, le, oe, e, ro, oo, d, size, T, (ro, oo) :: g₁, rfl, rfl, hT, mem_tl ha, haa, mem_tl he, hee, mem_hd, hoo, hb, hodd, hd64, he64, hs1, hs3, fun r1 q1 T1 hT1 h1 => ?_⟩
  repeat tb_rel
  refine ⟨fun hc => ?_, fun hc => ?_⟩
  · simp only [decide_eq_true_eq] at hc
    have hn0 : n = 0 := by tlg_ne
    subst hn0
    rw [Nat.pow_zero, Nat.mul_one] at hdm
    subst hdm
    repeat tb_rel
    exact endK_ret (q r1 q1 T1 hT1 h1) (by kwd_less)
  simp only [decide_eq_false_iff_not] at hc
  have hn1 : 1 ≤ n := by tlg_ne
  repeat tb_rel
  refine CALL.perm (List.perm_append_comm_assoc T1 [(r1, q1)] ((ro, oo) :: g₁)) ?_
  refine power_low_ok w _ _ _ _ _ _ _ _ _ (by decide) _ _ _ _ ⟨b, la, oa, a, le, oe, e, n, size, T1, (r1, q1) :: (ro, oo) :: g₁, rfl, rfl, hT1, mem_tl (mem_tl ha), haa, mem_tl (mem_tl he), hee, hb, by tlg_ne, he64, hs1, hs3, fun r2 q2 T2 hT2 h2 => ?_⟩
  have hm1 : (r1, q1) ∈ T2 ++ (r1, q1) :: (ro, oo) :: g₁ := List.mem_append_right _ mem_hd
  have hmo : (ro, oo) ∈ T2 ++ (r1, q1) :: (ro, oo) :: g₁ := List.mem_append_right _ (mem_tl mem_hd)
  have hsG : List.Sublist (T2 ++ g₁) (T2 ++ (r1, q1) :: (ro, oo) :: g₁) := List.Sublist.append (List.Sublist.refl _) (.cons _ (.cons _ (List.Sublist.refl _)))
  generalize T2 ++ (r1, q1) :: (ro, oo) :: g₁ = G at *
  repeat tb_rel
  refine low_ok w _ _ _ _ _ _ _ _ _ (by decide) _ _ _ _ ⟨b, r1, q1, _, n, rfl, mem_tl hm1, h1, hb, by tlg_ne, fun r3 q3 h3 => ?_⟩
  refine ⟨_, by kwd_rel, ?_⟩
  first | refine seqK_next ?_ | refine Seal.go (by assumption) (seqK_next ?_)
  have hA3 : a ^ e % d % 2 ^ n < 2 ^ n := Nat.mod_lt _ hN0
  have hB2 : a ^ e % 2 ^ n < 2 ^ n := Nat.mod_lt _ hN0
  refine EXS_join (fun loc g' => E3 fun r q D => A5 (loc = [(Str.ofString "a", .ref la), (Str.ofString "e", .ref le), (Str.ofString "m", .ref lm), (Str.ofString "w", .int (b : Nat)), (Str.ofString "size", .int (size : Nat)), (Str.ofString "mul", .ref 437), (Str.ofString "divrem", .ref 479), (Str.ofString "n", .int (n : Nat)), (Str.ofString "odd", .ref ro), (Str.ofString "one", .ref r1), (Str.ofString "other", .ref r2), (Str.ofString "below", .ref r3), (Str.ofString "way", .ref r), (Str.ofString "inverse", .undef)]) (List.Sublist ((r, q) :: G) g') (IsN b D q) (D < 2 * 2 ^ n) ((D + a ^ e % d % 2 ^ n) % 2 ^ n = a ^ e % 2 ^ n)) ?_ ?_
  · repeat tb_rel
    refine EV_ife ?_
    repeat tb_rel
    refine compare_ok w _ _ _ _ _ _ _ _ _ (by decide) _ _ _ _ ⟨b, r2, q2, r3, q3, _, _, rfl, by tb_start, h2, by tb_start, h3, hb.1, ?_⟩
    repeat tb_rel
    refine ⟨fun hc => ?_, fun hc => ?_⟩
    · have hge : a ^ e % d % 2 ^ n ≤ a ^ e % 2 ^ n := by
        simp only [decide_eq_true_eq] at hc
        unfold sgn at hc
        repeat' split at hc
        all_goals omega
      repeat tb_rel
      refine sub_ok w _ _ _ _ _ _ _ _ _ (by decide) _ _ _ _ ⟨b, r2, q2, r3, q3, _, _, rfl, by tb_start, h2, by tb_start, h3, hb, hge, fun r4 q4 h4 => ?_⟩
      repeat tb_rel
      exact ⟨rfl, _, List.Sublist.refl _, r4, q4, _, rfl, by kwd_less, h4, by tlg_ne, by rw [Nat.sub_add_cancel hge, Nat.mod_mod]⟩
    · repeat tb_rel
      refine EV_one ?_
      repeat tb_rel
      rintro r₁ o₁ h₁
      repeat tb_rel
      refine shift_left_ok w _ _ _ _ _ _ _ _ _ (by decide) _ _ _ _ ⟨b, r₁, o₁, 1, n, rfl, mem_hd, IsN.one hb.1 h₁, hb, by tlg_ne, by tlg_ne, fun r5 q5 h5 => ?_⟩
      rw [Nat.one_mul] at h5
      repeat tb_rel
      refine add_ok w _ _ _ _ _ _ _ _ _ (by decide) _ _ _ _ ⟨b, r2, q2, r5, q5, _, _, rfl, by tb_start, h2, mem_hd, h5, hb, by tlg_ne, fun r6 q6 h6 => ?_⟩
      repeat tb_rel
      refine sub_ok w _ _ _ _ _ _ _ _ _ (by decide) _ _ _ _ ⟨b, r6, q6, r3, q3, _, _, rfl, mem_hd, h6, by tb_start, h3, hb, by tlg_ne, fun r4 q4 h4 => ?_⟩
      repeat tb_rel
      exact ⟨rfl, _, List.Sublist.refl _, r4, q4, _, rfl, by kwd_less, h4, by tlg_ne, by rw [Nat.sub_add_cancel (by tlg_ne), Nat.add_mod_right, Nat.mod_mod]⟩
  rintro _ g' ⟨rw', qw, D, rfl, hsub, hD, hD2, hDe⟩
  refine TR.drop hsub ?_
  clear hsub
  repeat tb_rel
  rw [show (n : Int) + (b : Int) - 1 = ((n + b - 1 : Nat) : Int) by tlg_ne]
  refine BIN_divN (by tlg_ne) (by tlg_ne) ?_
  rw [show (n + b - 1) / b = 1 by rw [show n + b - 1 = (n - 1) + b by tlg_ne, Nat.add_div_right _ (by tlg_ne), Nat.div_eq_of_lt (by tlg_ne)]]
  repeat tb_rel
  refine inverse_low_ok w _ _ _ _ _ _ _ _ _ (by decide) _ _ _ _ ⟨b, ro, oo, d, .ref 437, rfl, ref_def, mem_tl hmo, hoo, hb, hd64, hodd, fun r7 q7 v hvB hdv h7 => ?_⟩
  repeat tb_rel
  have hv2 : D * v < 2 ^ 32 := Nat.lt_of_lt_of_le (Nat.mul_lt_mul_of_lt_of_le (show D < 512 by tlg_ne) (show v ≤ 256 by tlg_ne) (by decide)) (by decide)
  refine mul_school_ok w _ _ _ _ _ _ _ _ _ (by decide) _ _ _ _ ⟨b, rw', qw, r7, q7, D, v, rfl, by tb_start, hD, by tb_start, h7, hb, hv2, fun r8 q8 h8 => ?_⟩
  repeat tb_rel
  refine low_ok w _ _ _ _ _ _ _ _ _ (by decide) _ _ _ _ ⟨b, r8, q8, _, n, rfl, mem_hd, h8, hb, by tlg_ne, fun r9 q9 h9 => ?_⟩
  have hlt9 : D * v % 2 ^ n < 2 ^ n := Nat.mod_lt _ hN0
  have hmul9 : d * (D * v % 2 ^ n) ≤ 64 * 256 := Nat.mul_le_mul (by tlg_ne) (by tlg_ne)
  repeat tb_rel
  refine mul_school_ok w _ _ _ _ _ _ _ _ _ (by decide) _ _ _ _ ⟨b, ro, oo, r9, q9, d, _, rfl, mem_tl (mem_tl (mem_tl (mem_tl hmo))), hoo, mem_hd, h9, hb, by tlg_ne, fun r10 q10 h10 => ?_⟩
  have hA : a ^ e % d < d := Nat.mod_lt _ (by tlg_ne)
  repeat tb_rel
  refine add_ok w _ _ _ _ _ _ _ _ _ (by decide) _ _ _ _ ⟨b, r1, q1, r10, q10, _, _, rfl, mem_tl (mem_tl (mem_tl (mem_tl (mem_tl hm1)))), h1, mem_hd, h10, hb, by tlg_ne, fun r11 q11 h11 => ?_⟩
  rw [any_val (by tlg_ne) (Nat.one_lt_two_pow (by tlg_ne)) (inv_low hn1 (by tlg_ne) hdv) hDe, hdm] at h11
  repeat tb_rel
  refine endK_ret (q r11 q11 T2 hT2 h11) (List.Sublist.cons_cons _ (hsG.trans ?_))
  kwd_less
inductive sp_window_size (vs : List MV) (g : Gl) (Q : MV → Gl → Prop) : Prop where
  | mk : ∀ many, vs = [.int (many : Nat)] → many ≤ 6 → (∀ s : Nat, 1 ≤ s → s ≤ 3 → Q (.int s) g) → sp_window_size vs g Q
theorem window_size_ok (w : World) : SoundF PR w (hK w.params) 1 418 sp_window_size := by
  refine soundF (by k_is) (by k_is) [Str.ofString "many"] [Str.ofString "size"] (by intro s vals h; obtain ⟨_, rfl⟩ := len1 h; exact BindsTo.of_eq rfl) (by rfl) (by decide) rfl rfl rfl (by decide) ?_
  rintro A L h₀ vs g Q ⟨many, rfl, hm, q⟩
  refine ⟨rfl, ?_⟩
  simp only [List.zip_cons_cons, List.zip_nil_left, List.cons_append, List.nil_append, List.map_cons, List.map_nil]
  repeat tb_rel
  refine EX_while_inv (fun N loc g' => E1 fun (s : Nat) => A5 (2 - s = N) (1 ≤ s) (s ≤ 2) (loc = [(Str.ofString "many", .int (many : Nat)), (Str.ofString "size", .int (s : Nat))]) (g = g')) (n := 1) ⟨1, rfl, by decide, by decide, rfl, rfl⟩ ?_
  rintro _ _ _ N M hN hM ⟨s, rfl, h1, h2, rfl, rfl⟩
  repeat tb_rel
  refine ⟨fun hc => ?_, fun hc => ?_⟩
  · repeat tb_rel
    refine BIN_mul (by tlg_ne) (by tlg_ne) ?_
    repeat tb_rel
    refine BIN_mul (by tlg_ne) (by tlg_ne) ?_
    repeat tb_rel
    rw [show (2 : Int) * (s : Int) - 1 = ((2 * s - 1 : Nat) : Int) by tlg_ne]
    have hss : (s : Int) * ((s : Int) + 1) = ((s * (s + 1) : Nat) : Int) := by push_cast; rfl
    rw [hss]
    have hs6 : s * (s + 1) ≤ 2 * 3 := Nat.mul_le_mul h2 (by tlg_ne)
    refine BIN_shlN (by tlg_ne) (by tlg_ne) (by tlg_ne) ?_
    repeat tb_rel
    refine ⟨fun hd => ?_, fun hd => ?_⟩
    · simp only [decide_eq_true_eq] at hd
      rcases (by tlg_ne : s = 1 ∨ s = 2) with rfl | rfl
      · repeat tb_rel
        exact ⟨0, by tlg_ne, 2, rfl, by decide, by decide, rfl, rfl⟩
      · exfalso
        simp at hd
        omega
    · repeat tb_rel
      exact endK_ret (g' := g) (q s h1 (by tlg_ne)) (by kwd_less)
  · repeat tb_rel
    refine ⟨fun h => (nomatch h), fun _ => ?_⟩
    repeat tb_rel
    exact endK_ret (g' := g) (q s h1 (by tlg_ne)) (by kwd_less)
inductive sp_power_best (vs : List MV) (g : Gl) (Q : MV → Gl → Prop) : Prop where
  | mk : ∀ b la oa a le oe e lm om m T g₁, vs = [.ref la, .ref le, .ref lm, .int (b : Nat), .ref 437, .ref 479] → g = T ++ g₁ → Tabs T → (la, oa) ∈ g₁ → IsN b a oa → (le, oe) ∈ g₁ → IsN b e oe → (lm, om) ∈ g₁ → IsN b m om → (6 ≤ b ∧ b ≤ 8) → 0 < m → m < 64 → e < 64 → (∀ r q T', Tabs T' → IsN b (a ^ e % m) q → Q (.ref r) ((r, q) :: (T' ++ g₁))) → sp_power_best vs g Q
theorem power_best_ok (w : World) : SoundF PR w (hK w.params) 13 425 sp_power_best := by
  refine soundF (by k_is) (by k_is) [Str.ofString "a", Str.ofString "e", Str.ofString "m", Str.ofString "w", Str.ofString "mul", Str.ofString "divrem"] [Str.ofString "size"] (by intro s vals h; obtain ⟨_, _, _, _, _, _, rfl⟩ := len6 h; exact BindsTo.of_eq rfl) (by rfl) (by decide) rfl rfl rfl (by decide) ?_
  rintro A L h₀ vs g Q ⟨b, la, oa, a, le, oe, e, lm, om, m, T, g₁, rfl, rfl, hT, ha, haa, he, hee, hm, hmm, hb, hm0, hm64, he64, q⟩
  refine ⟨rfl, ?_⟩
  simp only [List.zip_cons_cons, List.zip_nil_left, List.cons_append, List.nil_append, List.map_cons, List.map_nil]
  have hBN := BN_rng hb
  have he' := List.mem_append_right T he
  have hm' := List.mem_append_right T hm
  obtain ⟨hz, ms, nm, him⟩ := id hmm
  obtain rfl := nm.one_limb hm0 (by tlg_ne)
  repeat tb_rel
  refine bits_ok w _ _ _ _ _ _ _ _ _ (by decide) _ _ _ _ ⟨b, le, oe, e, rfl, he', hee, hb, by tlg_ne, ?_⟩
  have hbl := (bits_le ⟨e, he64⟩).2
  dsimp only at hbl
  generalize Builtin.Int.intBits (e : Int) = nb at *
  repeat tb_rel
  refine window_size_ok w _ _ _ _ _ _ _ _ _ (by decide) _ _ _ _ ⟨nb, rfl, hbl, fun size hs1 hs3 => ?_⟩
  repeat tb_rel
  refine TST_plain ?_
  repeat tb_rel
  refine is_even_ok w _ _ _ _ _ _ _ _ _ (by decide) _ _ _ _ ⟨lm, om, _, rfl, hm', him, by simp, ?_⟩
  repeat tb_rel
  refine ⟨fun hc => ?_, fun hc => ?_⟩
  · repeat tb_rel
    refine power_any_ok w _ _ _ _ _ _ _ _ _ (by decide) _ _ _ _ ⟨b, la, oa, a, le, oe, e, lm, om, m, size, T, g₁, rfl, rfl, hT, ha, haa, he, hee, hm, hmm, hb, hm0, hm64, he64, hs1, hs3, fun r qr T' hT' hr => ?_⟩
    repeat tb_rel
    exact endK_ret (q r qr T' hT' hr) (by kwd_less)
  · have hodd : m % 2 = 1 := by
      simp only [decide_eq_false_iff_not, List.length_cons, List.length_nil, List.getD_cons_zero] at hc
      omega
    repeat tb_rel
    refine power_mont_ok w _ _ _ _ _ _ _ _ _ (by decide) _ _ _ _ ⟨b, la, oa, a, le, oe, e, lm, om, m, size, T, g₁, rfl, rfl, hT, ha, haa, he, hee, hm, hmm, hb, hodd, hm64, he64, hs1, hs3, fun r qr T' hT' hr => ?_⟩
    repeat tb_rel
    exact endK_ret (q r qr T' hT' hr) (by kwd_less)
inductive sp_ladder (vs : List MV) (g : Gl) (Q : MV → Gl → Prop) : Prop where
  | mk : ∀ b la oa a le oe e lm om m, vs = [.ref la, .ref le, .ref lm, .int (b : Nat), .ref 437, .ref 479] → (la, oa) ∈ g → IsN b a oa → (le, oe) ∈ g → IsN b e oe → (lm, om) ∈ g → IsN b m om → (6 ≤ b ∧ b ≤ 8) → 0 < m → m < 64 → e < 64 → (∀ r q, IsN b (a ^ e % m) q → Q (.ref r) ((r, q) :: g)) → sp_ladder vs g Q
theorem ladder_ok (w : World) : SoundF PR w (hK w.params) 6 404 sp_ladder := by
  refine soundF (by k_is) (by k_is) [Str.ofString "a", Str.ofString "e", Str.ofString "m", Str.ofString "w", Str.ofString "mul", Str.ofString "divrem"] [Str.ofString "one", Str.ofString "other", Str.ofString "spot", Str.ofString "both"] (by intro s vals h; obtain ⟨_, _, _, _, _, _, rfl⟩ := len6 h; exact BindsTo.of_eq rfl) (by rfl) (by decide) rfl rfl rfl (by decide) ?_
  rintro A L h₀ vs g Q ⟨b, la, oa, a, le, oe, e, lm, om, m, rfl, ha, haa, he, hee, hm, hmm, hb, hm0, hm64, he64, q⟩
  refine ⟨rfl, ?_⟩
  simp only [List.zip_cons_cons, List.zip_nil_left, List.cons_append, List.nil_append, List.map_cons, List.map_nil]
  have hBN := BN_rng hb
  have hsm : ∀ x, x % m < 256 := fun x => Nat.lt_trans (mod_small hm0 hm64) (by decide)
  repeat tb_rel
  refine check_modulus_ok w _ _ _ _ _ _ _ _ _ (by decide) _ _ _ _ ⟨b, lm, om, m, rfl, hm, hmm, hm0, ?_⟩
  repeat tb_rel
  refine EX_swap (xs := [Str.ofString "one", Str.ofString "other"]) ?_ (by exact rfl) (by exact rfl)
  repeat tb_rel
  refine unit_rest_ok w _ _ _ _ _ _ _ _ _ (by decide) _ _ _ _ ⟨b, lm, om, m, rfl, hm, hmm, hm0, hb.1, by tlg_ne, fun ru ou hu => ?_⟩
  repeat tb_rel
  refine divrem_school_ok w _ _ _ _ _ _ _ _ _ (by decide) _ _ _ _ ⟨b, la, oa, lm, om, a, m, rfl, by tb_start, haa, by tb_start, hmm, hb, hm0, by tlg_ne, fun r₀ o₀ rb ob t o' h₀ hb' ho' => ?_⟩
  repeat tb_rel
  refine ITEM_tup mem_hd ho' (by tlg_ne) rfl (by tlg_ne) ?_
  repeat tb_rel
  refine ⟨by simp, fun tt o' ho' => ⟨tt, o', _, _, rfl, mem_hd, ho', .cons (by kwd_rel) (.cons (by kwd_rel) .nil), ?_⟩⟩
  refine TR.drop (g' := (rb, ob) :: (ru, ou) :: g) (by kwd_less) ?_
  repeat tb_rel
  refine EX_range (by dsimp only; k_is) boot_range (by exact rfl) ?_
  repeat tb_rel
  refine bits_ok w _ _ _ _ _ _ _ _ _ (by decide) _ _ _ _ ⟨b, le, oe, e, rfl, by tb_start, hee, hb, by tlg_ne, ?_⟩
  obtain ⟨hb0, hbl⟩ := bits_le ⟨e, he64⟩
  dsimp only at hbl hb0
  generalize Builtin.Int.intBits (e : Int) = nb at *
  repeat tb_rel
  refine ⟨_, _, _, .three _ _ _, .inr rfl, by tlg_ne, ?_⟩
  rw [if_neg (by decide), show ((nb : Int) - 1 - -1).toNat = nb by tlg_ne]
  refine FORB_rng (fun i loc g' => E6 fun u v r p s q => A5 (loc = [(Str.ofString "a", .ref la), (Str.ofString "e", .ref le), (Str.ofString "m", .ref lm), (Str.ofString "w", .int (b : Nat)), (Str.ofString "mul", .ref 437), (Str.ofString "divrem", .ref 479), (Str.ofString "one", .ref r), (Str.ofString "other", .ref s), (Str.ofString "spot", u), (Str.ofString "both", v)]) (List.Sublist ((r, p) :: g) g') ((s, q) ∈ g') (IsN b (a ^ (e / 2 ^ (nb - i)) % m) p) (IsN b (a ^ (e / 2 ^ (nb - i) + 1) % m) q))
    ⟨_, _, ru, ou, rb, ob, rfl, by kwd_less, mem_hd, by rw [Nat.sub_zero, hb0]; exact hu, by rw [Nat.sub_zero, hb0, Nat.zero_add, Nat.pow_one]; exact hb'⟩ ?_ ?_
  · clear hu hb'
    rintro i _ g' hlt N hN ⟨u, v, r, p, s, qs, rfl, hsub, hs, hp, hq⟩
    have hgs : List.Sublist g g' := (List.sublist_cons_self _ _).trans hsub
    have hr := hsub.subset (List.Mem.head _)
    have he' := hgs.subset he
    have hm' := hgs.subset hm
    obtain ⟨n, hn⟩ : ∃ n, nb - i = n + 1 := ⟨nb - i - 1, by tlg_ne⟩
    rw [hn] at hp hq
    have hhalf := half e n
    refine ⟨_, .name (by kwd_rel), ?_⟩
    rw [show (nb : Int) - 1 + (i : Int) * -1 = (n : Int) by tlg_ne]
    repeat tb_rel
    refine mul_school_ok w _ _ _ _ _ _ _ _ _ (by decide) _ _ _ _ ⟨b, r, p, s, qs, _, _, rfl, hr, hp, hs, hq, hb, mul_small (hsm _) (hsm _), fun r1 o1 h1 => ?_⟩
    repeat tb_rel
    refine divrem_school_ok w _ _ _ _ _ _ _ _ _ (by decide) _ _ _ _ ⟨b, r1, o1, lm, om, _, m, rfl, mem_hd, h1, mem_tl hm', hmm, hb, hm0, by tlg_ne, fun r2 o2 r3 o3 t3 ot3 h2 h3 ht3 => ?_⟩
    repeat tb_rel
    refine ITEM_tup mem_hd ht3 (by tlg_ne) rfl (by tlg_ne) ?_
    rw [pow_step] at h3
    repeat tb_rel
    refine bit_ok w _ _ _ _ _ _ _ _ _ (by decide) _ _ _ _ ⟨b, le, oe, e, n, rfl, by tb_start, hee, hb, by tlg_ne, by tlg_ne, ?_⟩
    repeat tb_rel
    refine ⟨fun hc => ?_, fun hc => ?_⟩
    · simp only [decide_eq_true_eq] at hc
      refine EXS_cons ?_
      refine EX_swap (xs := [Str.ofString "one", Str.ofString "other"]) ?_ (by exact rfl) (by exact rfl)
      repeat tb_rel
      refine mul_school_ok w _ _ _ _ _ _ _ _ _ (by decide) _ _ _ _ ⟨b, r, p, r, p, _, _, rfl, by tb_start, hp, by tb_start, hp, hb, mul_small (hsm _) (hsm _), fun r4 o4 h4 => ?_⟩
      repeat tb_rel
      refine divrem_school_ok w _ _ _ _ _ _ _ _ _ (by decide) _ _ _ _ ⟨b, r4, o4, lm, om, _, m, rfl, mem_hd, h4, by tb_start, hmm, hb, hm0, by tlg_ne, fun r5 o5 r6 o6 t6 ot6 h5 h6 ht6 => ?_⟩
      repeat tb_rel
      refine ITEM_tup mem_hd ht6 (by tlg_ne) rfl (by tlg_ne) ?_
      rw [pow_step] at h6
      repeat tb_rel
      refine ⟨by simp, fun tt o' ho' => ⟨tt, o', _, _, rfl, mem_hd, ho', .cons (by kwd_rel) (.cons (by kwd_rel) .nil), ?_⟩⟩
      repeat tb_rel
      refine ⟨fun _ h => (nomatch h), _, _, r6, o6, r3, o3, rfl, ?_, by tb_start, ?_, ?_⟩
      · exact .cons _ (.cons _ (.cons_cons _ (.cons _ (.cons _ (.cons _ (.cons _ (.cons _ (.cons _ hgs))))))))
      · rw [show nb - (i + 1) = n by tlg_ne, hhalf, show e / 2 ^ n % 2 = 0 by tlg_ne, Nat.add_zero, Nat.two_mul]; exact h6
      · rw [show nb - (i + 1) = n by tlg_ne, hhalf, show e / 2 ^ n % 2 = 0 by tlg_ne, Nat.add_zero, Nat.two_mul]; exact h3
    · simp only [decide_eq_false_iff_not] at hc
      refine EXS_cons ?_
      refine EX_swap (xs := [Str.ofString "one", Str.ofString "other"]) ?_ (by exact rfl) (by exact rfl)
      repeat tb_rel
      refine mul_school_ok w _ _ _ _ _ _ _ _ _ (by decide) _ _ _ _ ⟨b, s, qs, s, qs, _, _, rfl, by tb_start, hq, by tb_start, hq, hb, mul_small (hsm _) (hsm _), fun r4 o4 h4 => ?_⟩
      repeat tb_rel
      refine divrem_school_ok w _ _ _ _ _ _ _ _ _ (by decide) _ _ _ _ ⟨b, r4, o4, lm, om, _, m, rfl, mem_hd, h4, by tb_start, hmm, hb, hm0, by tlg_ne, fun r5 o5 r6 o6 t6 ot6 h5 h6 ht6 => ?_⟩
      repeat tb_rel
      refine ITEM_tup mem_hd ht6 (by tlg_ne) rfl (by tlg_ne) ?_
      rw [pow_step] at h6
      repeat tb_rel
      refine ⟨by simp, fun tt o' ho' => ⟨tt, o', _, _, rfl, mem_hd, ho', .cons (by kwd_rel) (.cons (by kwd_rel) .nil), ?_⟩⟩
      repeat tb_rel
      refine ⟨fun _ h => (nomatch h), _, _, r3, o3, r6, o6, rfl, ?_, by tb_start, ?_, ?_⟩
      · exact .cons _ (.cons _ (.cons _ (.cons _ (.cons _ (.cons _ (.cons_cons _ (.cons _ (.cons _ hgs))))))))
      · rw [show nb - (i + 1) = n by tlg_ne, hhalf, show e / 2 ^ n % 2 = 1 by tlg_ne, show 2 * (e / 2 ^ (n + 1)) + 1 = e / 2 ^ (n + 1) + (e / 2 ^ (n + 1) + 1) by tlg_ne]; exact h3
      · rw [show nb - (i + 1) = n by tlg_ne, hhalf, show e / 2 ^ n % 2 = 1 by tlg_ne, show 2 * (e / 2 ^ (n + 1)) + 1 + 1 = e / 2 ^ (n + 1) + 1 + (e / 2 ^ (n + 1) + 1) by tlg_ne]; exact h6
  · clear hu hb'
    rintro _ g' ⟨u, v, r, p, s, qs, rfl, hsub, hs, hp, hq⟩
    rw [Nat.sub_self, Nat.pow_zero, Nat.div_one] at hp
    have hr := hsub.subset (List.Mem.head _)
    repeat tb_rel
    exact endK_ret (q r p hp) hsub
-- part F12
inductive sp_two_powers (vs : List MV) (g : Gl) (Q : MV → Gl → Prop) : Prop where
  | mk : ∀ b la oa a lx ox x lb ob c ly oy y lm om m, vs = [.ref la, .ref lx, .ref lb, .ref ly, .ref lm, .int (b : Nat), .ref 437, .ref 479] → (la, oa) ∈ g → IsN b a oa → (lx, ox) ∈ g → IsN b x ox → (lb, ob) ∈ g → IsN b c ob → (ly, oy) ∈ g → IsN b y oy → (lm, om) ∈ g → IsN b m om → (6 ≤ b ∧ b ≤ 8) → 0 < m → m < 64 → x < 64 → y < 64 → (∀ r q, IsN b (a ^ x * c ^ y % m) q → Q (.ref r) ((r, q) :: g)) → sp_two_powers vs g Q
theorem two_powers_ok (w : World) : SoundF PR w (hK w.params) 6 411 sp_two_powers := by
  refine soundF (by k_is) (by k_is) [Str.ofString "a", Str.ofString "x", Str.ofString "b", Str.ofString "y", Str.ofString "m", Str.ofString "w", Str.ofString "mul", Str.ofString "divrem"] [Str.ofString "first", Str.ofString "second", Str.ofString "table", Str.ofString "found", Str.ofString "spot", Str.ofString "number"] (by intro s vals h; obtain ⟨_, _, _, _, _, _, _, _, rfl⟩ := len8 h; exact BindsTo.of_eq rfl) (by rfl) (by decide) rfl rfl rfl (by decide) ?_
  rintro A L h₀ vs g Q ⟨b, la, oa, a, lx, ox, x, lb, ob, c, ly, oy, y, lm, om, m, rfl, ha, haa, hx, hxx, hlb, hbb, hy, hyy, hm, hmm, hb, hm0, hm64, hx64, hy64, q⟩
  refine ⟨rfl, ?_⟩
  simp only [List.zip_cons_cons, List.zip_nil_left, List.cons_append, List.nil_append, List.map_cons, List.map_nil]
  have hBN := BN_rng hb
  have hsm : ∀ x, x % m < 256 := fun x => Nat.lt_trans (mod_small hm0 hm64) (by decide)
  repeat tb_rel
  refine check_modulus_ok w _ _ _ _ _ _ _ _ _ (by decide) _ _ _ _ ⟨b, lm, om, m, rfl, hm, hmm, hm0, ?_⟩
  repeat tb_rel
  refine EX_swap (xs := [Str.ofString "first", Str.ofString "second"]) ?_ (by exact rfl) (by exact rfl)
  repeat tb_rel
  refine divrem_school_ok w _ _ _ _ _ _ _ _ _ (by decide) _ _ _ _ ⟨b, la, oa, lm, om, a, m, rfl, by tb_start, haa, by tb_start, hmm, hb, hm0, by tlg_ne, fun r1 o1 rf of' t1 ot1 h1 hf ht1 => ?_⟩
  repeat tb_rel
  refine ITEM_tup mem_hd ht1 (by tlg_ne) rfl (by tlg_ne) ?_
  repeat tb_rel
  refine divrem_school_ok w _ _ _ _ _ _ _ _ _ (by decide) _ _ _ _ ⟨b, lb, ob, lm, om, c, m, rfl, by tb_start, hbb, by tb_start, hmm, hb, hm0, by tlg_ne, fun r2 o2 rs os t2 ot2 h2 hs ht2 => ?_⟩
  repeat tb_rel
  refine ITEM_tup mem_hd ht2 (by tlg_ne) rfl (by tlg_ne) ?_
  repeat tb_rel
  refine ⟨by simp, fun tt o' ho' => ⟨tt, o', _, _, rfl, mem_hd, ho', .cons (by kwd_rel) (.cons (by kwd_rel) .nil), ?_⟩⟩
  refine TR.drop (g' := (rs, os) :: (rf, of') :: g) (by kwd_less) ?_
  repeat tb_rel
  refine EV_list ?_
  repeat tb_rel
  refine mul_school_ok w _ _ _ _ _ _ _ _ _ (by decide) _ _ _ _ ⟨b, rf, of', rs, os, _, _, rfl, by tb_start, hf, by tb_start, hs, hb, mul_small (hsm _) (hsm _), fun r3 o3 h3 => ?_⟩
  repeat tb_rel
  refine divrem_school_ok w _ _ _ _ _ _ _ _ _ (by decide) _ _ _ _ ⟨b, r3, o3, lm, om, _, m, rfl, mem_hd, h3, by tb_start, hmm, hb, hm0, by tlg_ne, fun r4 o4 rp op t4 ot4 h4 hp ht4 => ?_⟩
  repeat tb_rel
  refine ITEM_tup mem_hd ht4 (by tlg_ne) rfl (by tlg_ne) ?_
  repeat tb_rel
  refine ⟨by simp, fun tb otb htb => ?_⟩
  repeat tb_rel
  refine unit_rest_ok w _ _ _ _ _ _ _ _ _ (by decide) _ _ _ _ ⟨b, lm, om, m, rfl, by tb_start, hmm, hm0, hb.1, by tlg_ne, fun ru ou hu => ?_⟩
  refine ⟨_, by kwd_rel, ?_⟩
  first | refine seqK_next ?_ | refine Seal.go (by assumption) (seqK_next ?_)
  refine TR.drop (g' := (ru, ou) :: (tb, otb) :: (rp, op) :: (rs, os) :: (rf, of') :: g) (by kwd_less) ?_
  repeat tb_rel
  refine EX_range (by dsimp only; k_is) boot_range (by exact rfl) ?_
  repeat tb_rel
  refine bits_ok w _ _ _ _ _ _ _ _ _ (by decide) _ _ _ _ ⟨b, lx, ox, x, rfl, by tb_start, hxx, hb, by tlg_ne, ?_⟩
  repeat tb_rel
  refine bits_ok w _ _ _ _ _ _ _ _ _ (by decide) _ _ _ _ ⟨b, ly, oy, y, rfl, by tb_start, hyy, hb, by tlg_ne, ?_⟩
  obtain ⟨hx0, hxl⟩ := bits_le ⟨x, hx64⟩
  obtain ⟨hy0, hyl⟩ := bits_le ⟨y, hy64⟩
  dsimp only at hx0 hxl hy0 hyl
  generalize Builtin.Int.intBits (x : Int) = nx at *
  generalize Builtin.Int.intBits (y : Int) = ny at *
  repeat tb_rel
  refine CALL_max ?_
  obtain ⟨nb, hnb, hnx, hny, hnb6⟩ : ∃ nb : Nat, (if (ny : Int) > (nx : Int) then (ny : Int) else (nx : Int)) = (nb : Int) ∧ nx ≤ nb ∧ ny ≤ nb ∧ nb ≤ 6 := by
    by_cases h : (ny : Int) > (nx : Int)
    · exact ⟨ny, if_pos h, by tlg_ne, by tlg_ne, hyl⟩
    · exact ⟨nx, if_neg h, by tlg_ne, by tlg_ne, hxl⟩
  rw [hnb]
  have top0 : ∀ {e n N : Nat}, e / 2 ^ n = 0 → n ≤ N → e / 2 ^ N = 0 := fun {e n N} h hn => by
    rw [show N = n + (N - n) by tlg_ne, Nat.pow_add, ← Nat.div_div_eq_div_mul, h, Nat.zero_div]
  have hxN := top0 hx0 hnx
  have hyN := top0 hy0 hny
  repeat tb_rel
  refine ⟨_, _, _, .three _ _ _, .inr rfl, by tlg_ne, ?_⟩
  rw [if_neg (by decide), show ((nb : Int) - 1 - -1).toNat = nb by tlg_ne]
  refine FORB_rng (fun i loc g' => E4 fun u v r p => A3 (loc = [(Str.ofString "a", .ref la), (Str.ofString "x", .ref lx), (Str.ofString "b", .ref lb), (Str.ofString "y", .ref ly), (Str.ofString "m", .ref lm), (Str.ofString "w", .int (b : Nat)), (Str.ofString "mul", .ref 437), (Str.ofString "divrem", .ref 479), (Str.ofString "first", .ref rf), (Str.ofString "second", .ref rs), (Str.ofString "table", .ref tb), (Str.ofString "found", .ref r), (Str.ofString "spot", u), (Str.ofString "number", v)]) (List.Sublist ((r, p) :: (tb, otb) :: (rp, op) :: (rs, os) :: (rf, of') :: g) g') (IsN b (a ^ (x / 2 ^ (nb - i)) * c ^ (y / 2 ^ (nb - i)) % m) p))
    ⟨_, _, ru, ou, rfl, List.Sublist.refl _, by rw [Nat.sub_zero, hxN, hyN]; exact hu⟩ ?_ ?_
  · clear hu
    rintro i _ g' hlt N hN ⟨u, v, r, p, rfl, hsub, hp'⟩
    obtain ⟨n, hn⟩ : ∃ n, nb - i = n + 1 := ⟨nb - i - 1, by tlg_ne⟩
    rw [hn] at hp'
    have hhx := half x n
    have hhy := half y n
    have hbx : x / 2 ^ n % 2 < 2 := Nat.mod_lt _ (by decide)
    have hby : y / 2 ^ n % 2 < 2 := Nat.mod_lt _ (by decide)
    refine ⟨_, .name (by kwd_rel), ?_⟩
    rw [show (nb : Int) - 1 + (i : Int) * -1 = (n : Int) by tlg_ne]
    refine TR.drop hsub ?_
    clear hsub
    repeat tb_rel
    refine mul_school_ok w _ _ _ _ _ _ _ _ _ (by decide) _ _ _ _ ⟨b, r, p, r, p, _, _, rfl, mem_hd, hp', mem_hd, hp', hb, mul_small (hsm _) (hsm _), fun r5 o5 h5 => ?_⟩
    repeat tb_rel
    refine divrem_school_ok w _ _ _ _ _ _ _ _ _ (by decide) _ _ _ _ ⟨b, r5, o5, lm, om, _, m, rfl, mem_hd, h5, by tb_start, hmm, hb, hm0, by tlg_ne, fun r6 o6 r7 o7 t7 ot7 h6 h7 ht7 => ?_⟩
    repeat tb_rel
    refine ITEM_tup mem_hd ht7 (by tlg_ne) rfl (by tlg_ne) ?_
    rw [two_step] at h7
    generalize x / 2 ^ (n + 1) = X at *
    generalize y / 2 ^ (n + 1) = Y at *
    refine ⟨_, by kwd_rel, ?_⟩
    first | refine seqK_next ?_ | refine Seal.go (by assumption) (seqK_next ?_)
    refine TR.drop (g' := (r7, o7) :: (tb, otb) :: (rp, op) :: (rs, os) :: (rf, of') :: g) (by kwd_less) ?_
    clear hp' h5
    repeat tb_rel
    refine bit_ok w _ _ _ _ _ _ _ _ _ (by decide) _ _ _ _ ⟨b, lx, ox, x, n, rfl, by tb_start, hxx, hb, by tlg_ne, by tlg_ne, ?_⟩
    repeat tb_rel
    refine bit_ok w _ _ _ _ _ _ _ _ _ (by decide) _ _ _ _ ⟨b, ly, oy, y, n, rfl, by tb_start, hyy, hb, by tlg_ne, by tlg_ne, ?_⟩
    refine BIN_mul (by tlg_ne) (by tlg_ne) ?_
    rcases (by tlg_ne : x / 2 ^ n % 2 = 0 ∨ x / 2 ^ n % 2 = 1) with ex | ex <;> rcases (by tlg_ne : y / 2 ^ n % 2 = 0 ∨ y / 2 ^ n % 2 = 1) with ey | ey <;> rw [ex, ey] <;> rw [ex] at hhx <;> rw [ey] at hhy
    · repeat tb_rel
      refine ⟨fun hc => absurd hc (by simp), fun _ => ?_⟩
      repeat tb_rel
      refine ⟨fun _ h => (nomatch h), _, _, r7, o7, rfl, List.Sublist.refl _, ?_⟩
      rw [show nb - (i + 1) = n by tlg_ne, hhx, hhy, Nat.add_zero, Nat.add_zero]; exact h7
    · repeat tb_rel
      refine ⟨fun _ => ?_, fun hc => absurd hc (by simp)⟩
      repeat tb_rel
      refine ITEM_list (x := .ref rs) (by tb_start) htb (by tlg_ne) rfl (by tlg_ne) ?_
      repeat tb_rel
      refine mul_school_ok w _ _ _ _ _ _ _ _ _ (by decide) _ _ _ _ ⟨b, r7, o7, rs, os, _, _, rfl, mem_hd, h7, by tb_start, hs, hb, mul_small (hsm _) (hsm _), fun r8 o8 h8 => ?_⟩
      repeat tb_rel
      refine divrem_school_ok w _ _ _ _ _ _ _ _ _ (by decide) _ _ _ _ ⟨b, r8, o8, lm, om, _, m, rfl, mem_hd, h8, by tb_start, hmm, hb, hm0, by tlg_ne, fun r9 o9 r10 o10 t10 ot10 h9 h10 ht10 => ?_⟩
      repeat tb_rel
      refine ITEM_tup mem_hd ht10 (by tlg_ne) rfl (by tlg_ne) ?_
      repeat tb_rel
      refine ⟨fun _ h => (nomatch h), _, _, r10, o10, rfl, by kwd_less, ?_⟩
      rw [show nb - (i + 1) = n by tlg_ne, hhx, hhy, Nat.add_zero, Nat.pow_succ, ← Nat.mul_assoc]
      rw [← Nat.mul_mod] at h10; exact h10
    · repeat tb_rel
      refine ⟨fun _ => ?_, fun hc => absurd hc (by simp)⟩
      repeat tb_rel
      refine ITEM_list (x := .ref rf) (by tb_start) htb (by tlg_ne) rfl (by tlg_ne) ?_
      repeat tb_rel
      refine mul_school_ok w _ _ _ _ _ _ _ _ _ (by decide) _ _ _ _ ⟨b, r7, o7, rf, of', _, _, rfl, mem_hd, h7, by tb_start, hf, hb, mul_small (hsm _) (hsm _), fun r8 o8 h8 => ?_⟩
      repeat tb_rel
      refine divrem_school_ok w _ _ _ _ _ _ _ _ _ (by decide) _ _ _ _ ⟨b, r8, o8, lm, om, _, m, rfl, mem_hd, h8, by tb_start, hmm, hb, hm0, by tlg_ne, fun r9 o9 r10 o10 t10 ot10 h9 h10 ht10 => ?_⟩
      repeat tb_rel
      refine ITEM_tup mem_hd ht10 (by tlg_ne) rfl (by tlg_ne) ?_
      repeat tb_rel
      refine ⟨fun _ h => (nomatch h), _, _, r10, o10, rfl, by kwd_less, ?_⟩
      rw [show nb - (i + 1) = n by tlg_ne, hhx, hhy, Nat.add_zero, Nat.pow_succ, Nat.mul_right_comm]
      rw [← Nat.mul_mod] at h10; exact h10
    · repeat tb_rel
      refine ⟨fun _ => ?_, fun hc => absurd hc (by simp)⟩
      repeat tb_rel
      refine ITEM_list (x := .ref rp) (by tb_start) htb (by tlg_ne) rfl (by tlg_ne) ?_
      repeat tb_rel
      refine mul_school_ok w _ _ _ _ _ _ _ _ _ (by decide) _ _ _ _ ⟨b, r7, o7, rp, op, _, _, rfl, mem_hd, h7, by tb_start, hp, hb, mul_small (hsm _) (hsm _), fun r8 o8 h8 => ?_⟩
      repeat tb_rel
      refine divrem_school_ok w _ _ _ _ _ _ _ _ _ (by decide) _ _ _ _ ⟨b, r8, o8, lm, om, _, m, rfl, mem_hd, h8, by tb_start, hmm, hb, hm0, by tlg_ne, fun r9 o9 r10 o10 t10 ot10 h9 h10 ht10 => ?_⟩
      repeat tb_rel
      refine ITEM_tup mem_hd ht10 (by tlg_ne) rfl (by tlg_ne) ?_
      repeat tb_rel
      refine ⟨fun _ h => (nomatch h), _, _, r10, o10, rfl, by kwd_less, ?_⟩
      rw [show nb - (i + 1) = n by tlg_ne, hhx, hhy, Nat.pow_succ, Nat.pow_succ, Nat.mul_mul_mul_comm]
      rw [Nat.mul_mod (a % m), Nat.mod_mod, Nat.mod_mod, ← Nat.mul_mod a c, ← Nat.mul_mod] at h10; exact h10
  · clear hu
    rintro _ g' ⟨u, v, r, p, rfl, hsub, hp'⟩
    rw [Nat.sub_self, Nat.pow_zero, Nat.div_one, Nat.div_one] at hp'
    first | refine seqK_next ?_ | refine Seal.go (by assumption) (seqK_next ?_)
    refine TR.drop hsub ?_
    repeat tb_rel
    exact endK_ret (q r p hp') (by kwd_less)
-- part F13
theorem cells_ok1 {L : Nat} {a : Str} : (([(a, L + 1)] : List (Str × Addr)).map (·.2)).Nodup ∧ ∀ p ∈ ([(a, L + 1)] : List (Str × Addr)), @LT.lt Nat _ L p.2 := by
  refine ⟨by simp, fun p hp => ?_⟩
  rw [List.mem_singleton.mp hp]; show L < _; omega
inductive sp_law_limbs (vs : List MV) (g : Gl) (Q : MV → Gl → Prop) : Prop where
  | mk : ∀ b n, vs = [.int (n : Nat), .int (b : Nat)] → (6 ≤ b ∧ b ≤ 8) → n < 2 ^ 32 → (∀ r q, IsN b n q → Q (.ref r) ((r, q) :: g)) → sp_law_limbs vs g Q
theorem law_limbs_okC (w : World) : SoundC PR w (hK w.params) 1 493 sp_law_limbs := by
  refine soundC (by k_is) (by k_is) [Str.ofString "number", Str.ofString "w"] [Str.ofString "found"] (by intro s vals h; obtain ⟨_, _, rfl⟩ := len2 h; exact BindsTo.of_eq rfl) (by rfl) (by decide) rfl rfl rfl (by decide) ?_
  rintro A L h₀ vs g Q ⟨b, n, rfl, hb, hn, q⟩
  refine ⟨rfl, ?_⟩
  simp only [List.zip_cons_cons, List.zip_nil_left, List.cons_append, List.nil_append, List.map_cons, List.map_nil]
  have hB := B_rng hb
  have hBN := BN_rng hb
  repeat tb_rel
  rintro r₀ o₀ ho₀
  repeat tb_rel
  refine EX_while_inv (fun N loc g' => E3 fun k acc o₀ => A9 (k = N) (loc = [(Str.ofString "number", .int (k : Nat)), (Str.ofString "w", .int (b : Nat)), (Str.ofString "found", .ref r₀)]) (g' = (r₀, o₀) :: g) (Is (.list (nums acc)) o₀) (Dg b acc) (acc.length ≤ 100) (k < 2 ^ (b * (100 - acc.length))) (vl b acc + 2 ^ (b * acc.length) * k = n) ((k = 0 → acc.getLast? ≠ some 0))) (n := n)
    ⟨n, [], o₀, rfl, rfl, rfl, ho₀, Dg.nil, by decide, Nat.lt_of_lt_of_le hn (Nat.pow_le_pow_right (by decide) (by simp; omega)), by simp [vl], fun _ => by simp⟩ ?_
  clear ho₀
  rintro _ _ _ N M hN hM ⟨k, acc, o₀, rfl, rfl, rfl, ho₀, da, la, hk, hv, hlast⟩
  repeat tb_rel
  refine ⟨fun hc => ?_, fun hc => ?_⟩
  · simp only [decide_eq_true_eq] at hc
    have hacc : acc.length < 100 := by
      rcases Nat.lt_or_ge acc.length 100 with h | h
      · exact h
      · exfalso
        rw [show 100 - acc.length = 0 by tlg_ne, Nat.mul_zero, Nat.pow_zero] at hk
        omega
    repeat tb_rel
    refine EV_appendN (by tb_start) mem_hd ho₀ ?_ (by decide) (by exact rfl) (by exact rfl)
    repeat tb_rel
    refine BIN_pow (by tlg_ne) (by tlg_ne) (by decide) ?_
    rw [Int.toNat_natCast]
    refine BIN_mod (by tlg_ne) ?_
    refine ⟨_, _, _, rfl, ho₀, by tlg_ne, fun o₁ ho₁ => ⟨_, by ktd_rel, ?_⟩⟩
    repeat tb_rel
    refine BIN_pow (by tlg_ne) (by tlg_ne) (by decide) ?_
    rw [Int.toNat_natCast]
    refine BIN_div (by tlg_ne) (by tlg_ne) ?_
    rw [show (k : Int) / 2 ^ b = ((k / 2 ^ b : Nat) : Int) by push_cast; rfl]
    repeat tb_rel
    refine ⟨k / 2 ^ b, Nat.div_lt_self (by tlg_ne) (by tlg_ne), k / 2 ^ b, _, _, rfl, rfl, rfl, ho₁, push_dg da, by simp; omega, ?_, ?_, fun h0 => ?_⟩
    · rw [List.length_append, List.length_singleton]
      refine Nat.div_lt_of_lt_mul ?_
      rw [← Nat.pow_add]
      refine Nat.lt_of_lt_of_le hk (Nat.pow_le_pow_right (by decide) ?_)
      rw [show 100 - acc.length = (100 - (acc.length + 1)) + 1 by tlg_ne, Nat.mul_add]
      omega
    · have := push_vl (b := b) (acc := acc) (t := (k : Int))
      rw [List.length_append, List.length_singleton]
      push_cast
      rw [this, hv]
    · have hkb : k < 2 ^ b := by
        rcases Nat.lt_or_ge k (2 ^ b) with h | h
        · exact h
        · have := Nat.div_pos h (by tlg_ne); omega
      have hkI : (k : Int) < 2 ^ b := by rw [← pow_two_nat]; omega
      rw [List.getLast?_append, List.getLast?_singleton, Int.emod_eq_of_lt (by tlg_ne) hkI]
      simp
      omega
  · simp only [decide_eq_false_iff_not] at hc
    have hk0 : k = 0 := by tlg_ne
    subst hk0
    repeat tb_rel
    refine endK_ret (q r₀ o₀ ⟨hn, acc, ⟨da, by simpa using hv, hlast rfl⟩, ho₀⟩) (by kwd_less)
theorem law_limbs_ok (w : World) : SoundF PR w (hK w.params) 1 493 sp_law_limbs := (law_limbs_okC w).toF
inductive LimbsAre (b : Nat) : List Nat → List (Addr × Obj) → Prop
  | nil : LimbsAre b [] []
  | cons {n r o ns ps} : IsN b n o → LimbsAre b ns ps → LimbsAre b (n :: ns) ((r, o) :: ps)
theorem COMP_limbs (w : World) {A : Around} {cn : Str} {cs : Scope} {L a : Addr} {ccd : Value} {cl cl' : List (Str × Addr)} {h₀ : Heap} {k b : Nat} {p1 p2 p3 p4 : Pos} {scope : Scope} {c : Addr} {oc : Obj} {src : Addr × Obj} {Q : MV → Gl → Prop} (hk : 1 ≤ k) (hb : 6 ≤ b ∧ b ≤ 8)
    (k1 : ∀ C, (compEnvC scope cl' C (Fm.env ⟨PR, w, hK w.params, A, cn, cs, L, a, ccd, cl, h₀, k⟩)).scope.kind = .function)
    (k2 : ∀ C, (compEnvC scope cl' C (Fm.env ⟨PR, w, hK w.params, A, cn, cs, L, a, ccd, cl, h₀, k⟩)).kindOf (Str.ofString "_law_limbs") = some .globalImplicit)
    (k3 : ∀ C, (compEnvC scope cl' C (Fm.env ⟨PR, w, hK w.params, A, cn, cs, L, a, ccd, cl, h₀, k⟩)).kindOf (Str.ofString "one") = some .local)
    (k4 : ∀ C, (compEnvC scope cl' C (Fm.env ⟨PR, w, hK w.params, A, cn, cs, L, a, ccd, cl, h₀, k⟩)).kindOf (Str.ofString "w") = some .cell ∨ (compEnvC scope cl' C (Fm.env ⟨PR, w, hK w.params, A, cn, cs, L, a, ccd, cl, h₀, k⟩)).kindOf (Str.ofString "w") = some .free)
    (k5 : ∀ C, (compEnvC scope cl' C (Fm.env ⟨PR, w, hK w.params, A, cn, cs, L, a, ccd, cl, h₀, k⟩)).cells.lookup (Str.ofString "w") = some c)
    (hw : Is (.cell (.int (b : Nat))) oc) :
    ∀ (ns : List Nat) (ys : List MV) (g : Gl), (∀ n ∈ ns, n < 2 ^ 32) → src ∈ g → (c, oc) ∈ g → (∀ rs, LimbsAre b ns rs → ∀ D oD, Is (.list (ys ++ rs.map fun p => MV.ref p.1)) oD → Q (.ref D) ((D, oD) :: (rs.reverse ++ g))) →
      COMP ⟨PR, w, hK w.params, A, cn, cs, L, a, ccd, cl, h₀, k⟩ (.Call (.Name (Str.ofString "_law_limbs") p1) [.Name (Str.ofString "one") p2, .Name (Str.ofString "w") p3] [] p4) (Str.ofString "one") scope cl' src Q (ns.map fun n => MV.int (n : Nat)) ys g := by
  intro ns
  induction ns with
  | nil =>
    intro ys g _ _ _ q D oD hD
    exact q [] .nil D oD (by simpa using hD)
  | cons n ns ih =>
    intro ys g hn hs hc q I C D oI oC oD hCN
    refine EVK_call ?_ (by exact rfl) (by exact rfl) (by exact rfl)
    refine EVK_glob (by dsimp only; k_is) (k1 C) (k2 C) ?_
    refine EVSK_cons ?_ (by exact rfl)
    refine EVK_x (C := C) rfl (by tb_start) hCN ?_ (k1 C) (k3 C)
    refine EVSK_cons ?_ (by exact rfl)
    refine EVK_cell (k5 C) (mem_tl (mem_tl (mem_tl hc))) hw ?_ (k1 C) (k4 C)
    refine EVSK_nil ?_
    refine ⟨.glob (by dsimp only; k_is), ?_⟩
    refine CALLK.of (law_limbs_okC w) hk ⟨b, n, rfl, hb, hn n mem_hd, fun r o ho => ?_⟩
    refine ⟨[(r, o)], g, List.Sublist.refl _, mem_tl hs, ?_⟩
    refine ih _ _ (fun n h => hn n (mem_tl h)) (mem_tl hs) (mem_tl hc) fun rs hrs D oD hD => ?_
    have := q ((r, o) :: rs) (.cons ho hrs) D oD (by simpa using hD)
    simpa using this
inductive sp_law_grain (vs : List MV) (g : Gl) (Q : MV → Gl → Prop) : Prop where
  | mk : ∀ lh oh lg og k gs many g₁, vs = [.ref lh, .int (many : Nat)] → g = (lh, oh) :: (lg, og) :: g₁ → Is (.list [.int (k : Nat), .ref lg]) oh → Is (.list (nums gs)) og → gs.length ≤ 100 → k ≤ 100 → 0 < many → many ≤ 1000 → (∀ (v : Nat) oh', v < many → Is (.list [.int ((k + 1 : Nat) : Int), .ref lg]) oh' → Q (.int v) ((lh, oh') :: (lg, og) :: g₁)) → sp_law_grain vs g Q
theorem law_grain_ok (w : World) : SoundF PR w (hK w.params) 1 486 sp_law_grain := by
  refine soundF (by k_is) (by k_is) [Str.ofString "heap", Str.ofString "many"] [] (by intro s vals h; obtain ⟨_, _, rfl⟩ := len2 h; exact BindsTo.of_eq rfl) (by rfl) (by decide) rfl rfl rfl (by decide) ?_
  rintro A L h₀ vs g Q ⟨lh, oh, lg, og, k, gs, many, g₁, rfl, rfl, hh, hg, hgl, hk, hm0, hm1, q⟩
  refine ⟨rfl, ?_⟩
  simp only [List.zip_cons_cons, List.zip_nil_left, List.cons_append, List.nil_append, List.map_cons, List.map_nil]
  have fin : ∀ (x : Int), ∃ v : Nat, x % (many : Int) = v ∧ v < many := fun x => by
    have h0 := Int.emod_nonneg x (show (many : Int) ≠ 0 by tlg_ne)
    have h1 := Int.emod_lt_of_pos x (show (0 : Int) < many by tlg_ne)
    obtain ⟨v, hv⟩ := Int.eq_ofNat_of_zero_le h0
    exact ⟨v, hv, by tlg_ne⟩
  repeat tb_rel
  refine EX_setitem ?_
  repeat tb_rel
  refine ITEM_list mem_hd hh (by tlg_ne) (x := .int (k : Nat)) rfl (by tlg_ne) ?_
  repeat tb_rel
  refine ⟨lh, 0, oh, _, rfl, rfl, hh, by tlg_ne, by simp, by tlg_ne, fun oh' hh' => ⟨_, by ktd_rel, ?_⟩⟩
  have hh2 : Is (.list [.int ((k + 1 : Nat) : Int), .ref lg]) oh' := by
    have e : ((k + 1 : Nat) : Int) = (k : Int) + 1 := by tlg_ne
    rw [e]; exact hh'
  clear hh'
  repeat tb_rel
  refine ITEM_list mem_hd hh2 (by tlg_ne) (x := .int ((k + 1 : Nat) : Int)) rfl (by tlg_ne) ?_
  repeat tb_rel
  refine ITEM_list mem_hd hh2 (by tlg_ne) (x := .ref lg) rfl (by tlg_ne) ?_
  repeat tb_rel
  refine ⟨fun hc => ?_, fun hc => ?_⟩
  · simp only [decide_eq_true_eq] at hc
    repeat tb_rel
    refine ITEM_list mem_hd hh2 (by tlg_ne) (x := .ref lg) rfl (by tlg_ne) ?_
    repeat tb_rel
    refine ITEM_list mem_hd hh2 (by tlg_ne) (x := .int ((k + 1 : Nat) : Int)) rfl (by tlg_ne) ?_
    repeat tb_rel
    refine ITEM_num (mem_tl mem_hd) hg (by tlg_ne) (by tlg_ne) (by tlg_ne) ?_
    repeat tb_rel
    refine BIN_mod (by tlg_ne) ?_
    obtain ⟨v, hv, hv2⟩ := fin (gs.getD (((k + 1 : Nat) : Int) - 1).toNat 0)
    rw [hv]
    repeat tb_rel
    exact endK_ret (q v oh' hv2 hh2) (by kwd_less)
  · repeat tb_rel
    refine ITEM_list mem_hd hh2 (by tlg_ne) (x := .int ((k + 1 : Nat) : Int)) rfl (by tlg_ne) ?_
    refine BIN_mul (by tlg_ne) (by tlg_ne) ?_
    repeat tb_rel
    refine ITEM_list mem_hd hh2 (by tlg_ne) (x := .int ((k + 1 : Nat) : Int)) rfl (by tlg_ne) ?_
    repeat tb_rel
    refine BIN_div (by tlg_ne) (by tlg_ne) ?_
    repeat tb_rel
    refine BIN_mod (by tlg_ne) ?_
    obtain ⟨v, hv, hv2⟩ := fin (6 * ((k + 1 : Nat) : Int) + ((k + 1 : Nat) : Int) / 3 + 4)
    rw [hv]
    repeat tb_rel
    exact endK_ret (q v oh' hv2 hh2) (by kwd_less)
-- part F14
theorem divrem_school_okC (w : World) : SoundC PR w (hK w.params) 4 479 sp_divrem_school := by
  refine soundC (by k_is) (by k_is) [Str.ofString "a", Str.ofString "b", Str.ofString "w"] [Str.ofString "shift", Str.ofString "divisor", Str.ofString "rest", Str.ofString "quotient"] (by intro s vals h; obtain ⟨_, _, _, rfl⟩ := len3 h; exact BindsTo.of_eq rfl) (by rfl) (by decide) rfl rfl rfl (by decide) ?_
  rintro A L h₀ vs g Q ⟨b, l, o, k, p, x, d, rfl, hm, hxx, hm', hyy, hb, hd0, hd, q⟩
  refine ⟨rfl, ?_⟩
  simp only [List.zip_cons_cons, List.zip_nil_left, List.cons_append, List.nil_append, List.map_cons, List.map_nil]
  obtain ⟨hx, xs, nx, hi⟩ := id hxx
  obtain ⟨hy, ys, ny, hi'⟩ := id hyy
  have hlx := IsN.len hb.1 hx nx
  obtain rfl := ny.one_limb hd0 hd
  repeat tb_rel
  refine ⟨fun hc => absurd hc (by simp), fun _ => ?_⟩
  repeat tb_rel
  refine compare_ok w _ _ _ _ _ _ _ _ _ (by decide) _ _ _ _ ⟨b, l, o, k, p, x, d, rfl, hm, hxx, hm', hyy, hb.1, ?_⟩
  repeat tb_rel
  refine ⟨fun hc => ?_, fun hc => ?_⟩
  · simp only [decide_eq_true_eq] at hc
    have hlt : x < d := by
      unfold sgn at hc
      repeat' split at hc
      all_goals omega
    repeat tb_rel
    rintro r₁ o₁ h₁
    repeat tb_rel
    refine ⟨l, o, xs, none, none, rfl, by tb_start, hi, by tlg_ne, .none, .none, fun r₂ o₂ h₂ => ?_⟩
    rw [pickN_all] at h₂
    repeat tb_rel
    refine ⟨by simp, fun t o' ho' => ?_⟩
    repeat tb_rel
    refine endK_ret (q r₁ o₁ r₂ o₂ t o' ⟨by rw [Nat.div_eq_of_lt hlt]; decide, _, by rw [Nat.div_eq_of_lt hlt]; exact Num.nil, h₁⟩ ⟨by rw [Nat.mod_eq_of_lt hlt]; exact hx, _, by rw [Nat.mod_eq_of_lt hlt]; exact nx, h₂⟩ ho') (by kwd_less)
  · repeat tb_rel
    refine ⟨fun _ => ?_, fun hc => absurd hc (by simp)⟩
    repeat tb_rel
    refine divrem_small_ok w _ _ _ _ _ _ _ _ _ (by decide) _ _ _ _ ⟨b, l, o, k, p, x, d, rfl, hm, hxx, hm', hyy, hb, hd0, hd, fun r₀ o₀ r₁ o₁ t o' h₀ h₁ ho' => ?_⟩
    repeat tb_rel
    refine endK_ret (q r₀ o₀ r₁ o₁ t o' h₀ h₁ ho') (by kwd_less)
def mpW (a c x y n : Nat) : Nat → Nat
  | 0 => a ^ (2 * (x / 2 ^ (n + 1))) * c ^ (2 * (y / 2 ^ (n + 1)))
  | 1 => a ^ (x / 2 ^ n) * c ^ (2 * (y / 2 ^ (n + 1)))
  | _ => a ^ (x / 2 ^ n) * c ^ (y / 2 ^ n)
theorem mpW_0 {a c x y n : Nat} : mpW a c x y n 1 = mpW a c x y n 0 * a ^ (x / 2 ^ n % 2) := by
  show a ^ (x / 2 ^ n) * _ = a ^ (2 * (x / 2 ^ (n + 1))) * _ * _
  conv => lhs; rw [half x n, Nat.pow_add]
  rw [Nat.mul_right_comm]
theorem mpW_1 {a c x y n : Nat} : mpW a c x y n 2 = mpW a c x y n 1 * c ^ (y / 2 ^ n % 2) := by
  show _ * c ^ (y / 2 ^ n) = _ * c ^ (2 * (y / 2 ^ (n + 1))) * _
  conv => lhs; rw [half y n, Nat.pow_add]
  rw [Nat.mul_assoc]
inductive sp_many_products (vs : List MV) (g : Gl) (Q : MV → Gl → Prop) : Prop where
  | mk : ∀ b lbs obs la oa a lc oc c les oes lx ox x ly oy y lm om m, vs = [.ref lbs, .ref les, .ref lm, .int (b : Nat), .ref 437, .ref 479] → (lbs, obs) ∈ g → Is (.list [.ref la, .ref lc]) obs → (la, oa) ∈ g → IsN b a oa → (lc, oc) ∈ g → IsN b c oc → (les, oes) ∈ g → Is (.list [.ref lx, .ref ly]) oes → (lx, ox) ∈ g → IsN b x ox → (ly, oy) ∈ g → IsN b y oy → (lm, om) ∈ g → IsN b m om → (6 ≤ b ∧ b ≤ 8) → 0 < m → m < 64 → x < 64 → y < 64 → (∀ r q, IsN b (a ^ x * c ^ y % m) q → Q (.ref r) ((r, q) :: g)) → sp_many_products vs g Q
theorem many_products_ok (w : World) : SoundF PR w (hK w.params) 6 430 sp_many_products := by
  refine soundFC (by k_is) (by k_is) [Str.ofString "bases", Str.ofString "exponents", Str.ofString "m", Str.ofString "w", Str.ofString "mul", Str.ofString "divrem"] [Str.ofString "found", Str.ofString "rests", Str.ofString "top", Str.ofString "e", Str.ofString "spot", Str.ofString "at"] [Str.ofString "divrem", Str.ofString "w", Str.ofString "m"] (fun L => [(Str.ofString "divrem", L + 1 + 1 + 1), (Str.ofString "w", L + 1 + 1), (Str.ofString "m", L + 1)]) (fun L => rfl) (fun L => rfl) (fun L => cells_ok3) (by intro s vals h; obtain ⟨_, _, _, _, _, _, rfl⟩ := len6 h; exact BindsTo.of_eq rfl) (by rfl) (by rfl) (by rfl) (by decide) (by decide) rfl rfl rfl ?_
  rintro A L h₀ vs g Q ⟨b, lbs, obs, la, oa, a, lc, oc, c, les, oes, lx, ox, x, ly, oy, y, lm, om, m, rfl, hbs, hobs, ha, haa, hlc, hcc, hes, hoes, hx, hxx, hy, hyy, hm, hmm, hb, hm0, hm64, hx64, hy64, q⟩
  refine ⟨rfl, fun cells hc => ?_⟩
  simp only [List.zip_cons_cons, List.zip_nil_left] at hc
  obtain ⟨oc_divrem, _, rfl, hc_divrem, hc⟩ := hc.inv
  obtain ⟨oc_w, _, rfl, hc_w, hc⟩ := hc.inv
  obtain ⟨oc_m, _, rfl, hc_m, hc⟩ := hc.inv
  obtain rfl := hc.nil_inv
  replace hc_m := hc_m _ (mem_tl (mem_tl (mem_hd)))
  replace hc_w := hc_w _ (mem_tl (mem_tl (mem_tl (mem_hd))))
  replace hc_divrem := hc_divrem _ (mem_tl (mem_tl (mem_tl (mem_tl (mem_tl (mem_hd))))))
  refine (show EXS _ _ [(Str.ofString "bases", _), (Str.ofString "exponents", _), (Str.ofString "mul", _), (Str.ofString "found", MV.undef), (Str.ofString "rests", MV.undef), (Str.ofString "top", MV.undef), (Str.ofString "e", MV.undef), (Str.ofString "spot", MV.undef), (Str.ofString "at", MV.undef)] ([(L + 1 + 1 + 1, oc_divrem), (L + 1 + 1, oc_w), (L + 1, oc_m)] ++ _) _ from ?_)
  simp only [List.cons_append, List.nil_append]
  have hBN := BN_rng hb
  have hsm : ∀ x, x % m < 256 := fun x => Nat.lt_trans (mod_small hm0 hm64) (by decide)
  repeat tb_rel
  refine check_modulus_ok w _ _ _ _ _ _ _ _ _ (by decide) _ _ _ _ ⟨b, lm, om, m, rfl, by tb_start, hmm, hm0, ?_⟩
  repeat tb_rel
  refine EX_swap (xs := [Str.ofString "found", Str.ofString "rests"]) ?_ (by exact rfl) (by exact rfl)
  repeat tb_rel
  refine unit_rest_ok w _ _ _ _ _ _ _ _ _ (by decide) _ _ _ _ ⟨b, lm, om, m, rfl, by tb_start, hmm, hm0, hb.1, by tlg_ne, fun ru ou hu => ?_⟩
  repeat tb_rel
  refine EV_comp (cl := [(Str.ofString "w", L + 1 + 1), (Str.ofString "m", L + 1), (Str.ofString "divrem", L + 1 + 1 + 1)]) rfl (by decide) rfl (by decide) rfl ?_
  repeat tb_rel
  refine ⟨lbs, obs, _, rfl, by tb_start, .inl hobs, by simp, ?_⟩
  intro I C D oI oC oD hCN
  refine EVK_subT ?_
  refine EVK_call ?_ (by exact rfl) (by exact rfl) (by exact rfl)
  refine EVK_cell (by exact rfl) (by tb_start) (by assumption) ?_ rfl (by first | exact .inl rfl | exact .inr rfl)
  refine EVSK_cons ?_ (by exact rfl)
  refine EVK_x (C := C) rfl (by tb_start) hCN ?_ rfl rfl
  refine EVSK_cons ?_ (by exact rfl)
  refine EVK_cell (by exact rfl) (by tb_start) (by assumption) ?_ rfl (by first | exact .inl rfl | exact .inr rfl)
  refine EVSK_cons ?_ (by exact rfl)
  refine EVK_cell (by exact rfl) (by tb_start) (by assumption) ?_ rfl (by first | exact .inl rfl | exact .inr rfl)
  refine EVSK_nil ?_
  refine ⟨.glob (by dsimp only; k_is), ?_⟩
  refine CALLK.of (divrem_school_okC w) (by dsimp only; decide) ⟨b, la, oa, lm, om, a, m, rfl, by tb_start, haa, by tb_start, hmm, hb, hm0, by tlg_ne, fun r1 o1 ra ora t1 ot1 h1 hra ht1 => ?_⟩
  refine ⟨t1, ot1, _, _, rfl, mem_hd, ht1, by decide, rfl, [(ra, ora)], _, (by simp only [List.cons_append, List.nil_append]; kwd_less), (by simp only [List.cons_append, List.nil_append]; tb_start), ?_⟩
  clear hCN
  intro I C D oI oC oD hCN
  refine EVK_subT ?_
  refine EVK_call ?_ (by exact rfl) (by exact rfl) (by exact rfl)
  simp only [List.cons_append, List.nil_append]
  refine EVK_cell (by exact rfl) (by tb_start) (by assumption) ?_ rfl (by first | exact .inl rfl | exact .inr rfl)
  refine EVSK_cons ?_ (by exact rfl)
  refine EVK_x (C := C) rfl (by tb_start) hCN ?_ rfl rfl
  refine EVSK_cons ?_ (by exact rfl)
  refine EVK_cell (by exact rfl) (by tb_start) (by assumption) ?_ rfl (by first | exact .inl rfl | exact .inr rfl)
  refine EVSK_cons ?_ (by exact rfl)
  refine EVK_cell (by exact rfl) (by tb_start) (by assumption) ?_ rfl (by first | exact .inl rfl | exact .inr rfl)
  refine EVSK_nil ?_
  refine ⟨.glob (by dsimp only; k_is), ?_⟩
  refine CALLK.of (divrem_school_okC w) (by dsimp only; decide) ⟨b, lc, oc, lm, om, c, m, rfl, by tb_start, hcc, by tb_start, hmm, hb, hm0, by tlg_ne, fun r2 o2 rc orc t2 ot2 h2 hrc ht2 => ?_⟩
  refine ⟨t2, ot2, _, _, rfl, mem_hd, ht2, by decide, rfl, [(rc, orc)], _, (by simp only [List.cons_append, List.nil_append]; kwd_less), (by simp only [List.cons_append, List.nil_append]; tb_start), ?_⟩
  clear hCN
  intro rs ors hrs
  simp only [List.cons_append, List.nil_append] at hrs ⊢
  repeat tb_rel
  refine ⟨by simp, fun tt o' ho' => ⟨tt, o', _, _, rfl, mem_hd, ho', .cons (by kwd_rel) (.cons (by kwd_rel) .nil), ?_⟩⟩
  refine TR.drop (g' := (rs, ors) :: (rc, orc) :: (ra, ora) :: (ru, ou) :: (L + 1 + 1 + 1, oc_divrem) :: (L + 1 + 1, oc_w) :: (L + 1, oc_m) :: g) (by kwd_less) ?_
  clear h1 h2 ht1 ht2 ho'
  repeat tb_rel
  refine EX_forlist ?_
  repeat tb_rel
  refine ⟨les, oes, _, rfl, by tb_start, hoes, ?_⟩
  refine ⟨_, .name (by kwd_rel), ?_⟩
  obtain ⟨hx0, hxl⟩ := bits_le ⟨x, hx64⟩
  obtain ⟨hy0, hyl⟩ := bits_le ⟨y, hy64⟩
  dsimp only at hx0 hxl hy0 hyl
  repeat tb_rel
  refine bits_ok w _ _ _ _ _ _ _ _ _ (by decide) _ _ _ _ ⟨b, lx, ox, x, rfl, by tb_start, hxx, hb, by tlg_ne, ?_⟩
  generalize Builtin.Int.intBits (x : Int) = nx at *
  repeat tb_rel
  refine CALL_max ?_
  obtain ⟨n1, hn1, hnx1, hn16⟩ : ∃ n1 : Nat, (if (nx : Int) > (0 : Int) then (nx : Int) else (0 : Int)) = (n1 : Int) ∧ nx ≤ n1 ∧ n1 ≤ 6 := by
    by_cases h : (nx : Int) > (0 : Int)
    · exact ⟨nx, if_pos h, by tlg_ne, hxl⟩
    · exact ⟨0, by rw [if_neg h]; rfl, by tlg_ne, by tlg_ne⟩
  rw [hn1]
  repeat tb_rel
  refine ⟨fun p hp => by rw [List.mem_singleton.mp hp]; tb_start, ?_⟩
  refine ⟨_, .name (by kwd_rel), ?_⟩
  repeat tb_rel
  refine bits_ok w _ _ _ _ _ _ _ _ _ (by decide) _ _ _ _ ⟨b, ly, oy, y, rfl, by tb_start, hyy, hb, by tlg_ne, ?_⟩
  generalize Builtin.Int.intBits (y : Int) = ny at *
  repeat tb_rel
  refine CALL_max ?_
  obtain ⟨nb, hnb, hnx, hny, hnb6⟩ : ∃ nb : Nat, (if (ny : Int) > (n1 : Int) then (ny : Int) else (n1 : Int)) = (nb : Int) ∧ nx ≤ nb ∧ ny ≤ nb ∧ nb ≤ 6 := by
    by_cases h : (ny : Int) > (n1 : Int)
    · exact ⟨ny, if_pos h, by tlg_ne, by tlg_ne, hyl⟩
    · exact ⟨n1, if_neg h, by tlg_ne, by tlg_ne, hn16⟩
  rw [hnb]
  have top0 : ∀ {e n N : Nat}, e / 2 ^ n = 0 → n ≤ N → e / 2 ^ N = 0 := fun {e n N} h hn => by
    rw [show N = n + (N - n) by tlg_ne, Nat.pow_add, ← Nat.div_div_eq_div_mul, h, Nat.zero_div]
  have hxN := top0 hx0 hnx
  have hyN := top0 hy0 hny
  clear hn1 hnx1 hn16 top0
  repeat tb_rel
  refine ⟨fun p hp => by rw [List.mem_singleton.mp hp]; tb_start, ?_⟩
  first | refine seqK_next ?_ | refine Seal.go (by assumption) (seqK_next ?_)
  repeat tb_rel
  refine EX_range (by dsimp only; k_is) boot_range (by exact rfl) ?_
  repeat tb_rel
  refine ⟨_, _, _, .three _ _ _, .inr rfl, by tlg_ne, ?_⟩
  rw [if_neg (by decide), show ((nb : Int) - 1 - -1).toNat = nb by tlg_ne]
  refine FORB_rng (fun i loc g' => E5 fun u v t r p => A6 (loc = [(Str.ofString "bases", .ref lbs), (Str.ofString "exponents", .ref les), (Str.ofString "mul", .ref 437), (Str.ofString "found", .ref r), (Str.ofString "rests", .ref rs), (Str.ofString "top", .int (nb : Nat)), (Str.ofString "e", u), (Str.ofString "spot", v), (Str.ofString "at", t)]) (List.Sublist ((r, p) :: (L + 1 + 1 + 1, oc_divrem) :: (L + 1 + 1, oc_w) :: (L + 1, oc_m) :: g) g') ((rs, ors) ∈ g') ((ra, ora) ∈ g') ((rc, orc) ∈ g') (IsN b (a ^ (x / 2 ^ (nb - i)) * c ^ (y / 2 ^ (nb - i)) % m) p))
    ⟨_, _, _, ru, ou, rfl, by kwd_less, by tb_start, by tb_start, by tb_start, by rw [Nat.sub_zero, hxN, hyN]; exact hu⟩ ?_ ?_
  · clear hu
    rintro i _ g' hlt N hN ⟨u, v, t, r, p, rfl, hsub, hrsm, hram, hrcm, hp'⟩
    obtain ⟨n, hn⟩ : ∃ n, nb - i = n + 1 := ⟨nb - i - 1, by tlg_ne⟩
    rw [hn] at hp'
    refine ⟨_, .name (by kwd_rel), ?_⟩
    rw [show (nb : Int) - 1 + (i : Int) * -1 = (n : Int) by tlg_ne]
    have hgm := hsub.subset
    have hrm : (r, p) ∈ g' := hgm mem_hd
    have hcd : (L + 1 + 1 + 1, oc_divrem) ∈ g' := hgm (mem_tl mem_hd)
    have hcw : (L + 1 + 1, oc_w) ∈ g' := hgm (mem_tl (mem_tl mem_hd))
    have hcm : (L + 1, oc_m) ∈ g' := hgm (mem_tl (mem_tl (mem_tl mem_hd)))
    have hm' : (lm, om) ∈ g' := hgm (mem_tl (mem_tl (mem_tl (mem_tl hm))))
    repeat tb_rel
    refine mul_school_ok w _ _ _ _ _ _ _ _ _ (by decide) _ _ _ _ ⟨b, r, p, r, p, _, _, rfl, hrm, hp', hrm, hp', hb, mul_small (hsm _) (hsm _), fun r5 o5 h5 => ?_⟩
    repeat tb_rel
    refine divrem_school_ok w _ _ _ _ _ _ _ _ _ (by decide) _ _ _ _ ⟨b, r5, o5, lm, om, _, m, rfl, mem_hd, h5, by tb_start, hmm, hb, hm0, by tlg_ne, fun r6 o6 r7 o7 t7 ot7 h6 h7 ht7 => ?_⟩
    repeat tb_rel
    refine ITEM_tup mem_hd ht7 (by tlg_ne) rfl (by tlg_ne) ?_
    rw [two_step] at h7
    refine ⟨_, by kwd_rel, ?_⟩
    first | refine seqK_next ?_ | refine Seal.go (by assumption) (seqK_next ?_)
    refine TR.drop (g' := (r7, o7) :: g') (by kwd_less) ?_
    clear hp' h5 hcd hcw hcm hrm hm'
    have hsub3 : List.Sublist ((r7, o7) :: (L + 1 + 1 + 1, oc_divrem) :: (L + 1 + 1, oc_w) :: (L + 1, oc_m) :: g) ((r7, o7) :: g') := ((List.sublist_cons_self (r, p) _).trans hsub).cons_cons _
    have hW : ∀ j it, (enumL 0 [MV.ref lx, .ref ly])[j]? = some it → ∃ le oe E rt ort B, it = .pair (j : Nat) (.ref le) ∧ (le, oe) ∈ g ∧ IsN b E oe ∧ E < 64 ∧ ([MV.ref ra, .ref rc] : List MV)[j]? = some (.ref rt) ∧ ((rt, ort) = (ra, ora) ∨ (rt, ort) = (rc, orc)) ∧ IsN b (B % m) ort ∧
        mpW a c x y n (j + 1) = mpW a c x y n j * B ^ (E / 2 ^ n % 2) := by
      intro j it hit
      rw [enumL_get] at hit
      match j, hit with
      | 0, hit => cases hit; exact ⟨lx, ox, x, ra, ora, a, rfl, hx, hxx, hx64, rfl, .inl rfl, hra, mpW_0⟩
      | 1, hit => cases hit; exact ⟨ly, oy, y, rc, orc, c, rfl, hy, hyy, hy64, rfl, .inr rfl, hrc, mpW_1⟩
      | k + 2, hit => cases hit
    repeat tb_rel
    refine EX_forenum (by dsimp only; k_is) boot_enum (by exact rfl) ?_
    repeat tb_rel
    refine ⟨les, oes, _, rfl, mem_tl (hgm (mem_tl (mem_tl (mem_tl (mem_tl hes))))), hoes, ?_⟩
    refine FORB_its (fun j loc g' => E4 fun u t r p => A6 (loc = [(Str.ofString "bases", .ref lbs), (Str.ofString "exponents", .ref les), (Str.ofString "mul", .ref 437), (Str.ofString "found", .ref r), (Str.ofString "rests", .ref rs), (Str.ofString "top", .int (nb : Nat)), (Str.ofString "e", u), (Str.ofString "spot", .int (n : Nat)), (Str.ofString "at", t)]) (List.Sublist ((r, p) :: (L + 1 + 1 + 1, oc_divrem) :: (L + 1 + 1, oc_w) :: (L + 1, oc_m) :: g) g') ((rs, ors) ∈ g') ((ra, ora) ∈ g') ((rc, orc) ∈ g') (IsN b (mpW a c x y n j % m) p))
      _ ⟨_, _, r7, o7, rfl, hsub3, mem_tl hrsm, mem_tl hram, mem_tl hrcm, h7⟩ ?_ ?_
    · clear h7 hsub hsub3 hrsm hram hrcm hgm
      rintro j it _ g'' hit N hN ⟨u, t, r, p, rfl, hsub, hrsm, hram, hrcm, hp'⟩
      obtain ⟨le, oe, E, rt, ort, B, rfl, hle, hEE, hE64, hget, hrt, hB, hnext⟩ := hW j it hit
      have hrtm : (rt, ort) ∈ g'' := by rcases hrt with e | e <;> (rw [e]; assumption)
      have hj : j < 2 := (List.getElem?_eq_some_iff.mp hget).1
      clear hW hit hrt
      have hgm := hsub.subset
      have hrm : (r, p) ∈ g'' := hgm mem_hd
      have hcd : (L + 1 + 1 + 1, oc_divrem) ∈ g'' := hgm (mem_tl mem_hd)
      have hcw : (L + 1 + 1, oc_w) ∈ g'' := hgm (mem_tl (mem_tl mem_hd))
      have hcm : (L + 1, oc_m) ∈ g'' := hgm (mem_tl (mem_tl (mem_tl mem_hd)))
      have hup : ∀ {p}, p ∈ g → p ∈ g'' := fun h => hgm (mem_tl (mem_tl (mem_tl (mem_tl h))))
      have hm' := hup hm
      have hle' := hup hle
      have hes' := hup hes
      clear hgm
      refine ⟨_, .pair (by kwd_rel) (by kwd_rel), ?_⟩
      repeat tb_rel
      refine bit_ok w _ _ _ _ _ _ _ _ _ (by decide) _ _ _ _ ⟨b, le, oe, E, n, rfl, hle', hEE, hb, by tlg_ne, by tlg_ne, ?_⟩
      rcases (by tlg_ne : E / 2 ^ n % 2 = 0 ∨ E / 2 ^ n % 2 = 1) with eE | eE <;> rw [eE] at hnext ⊢
      · repeat tb_rel
        refine ⟨fun hc => absurd hc (by simp), fun _ => ?_⟩
        repeat tb_rel
        refine ⟨fun p hp => by rw [List.mem_singleton.mp hp]; exact hes', _, _, r, p, rfl, hsub, hrsm, hram, hrcm, ?_⟩
        rw [hnext, Nat.pow_zero, Nat.mul_one]; exact hp'
      · repeat tb_rel
        refine ⟨fun _ => ?_, fun hc => absurd hc (by simp)⟩
        repeat tb_rel
        refine ITEM_list hrsm hrs (by tlg_ne) (x := .ref rt) (by rw [Int.toNat_natCast]; exact hget) (by tlg_ne) ?_
        repeat tb_rel
        refine mul_school_ok w _ _ _ _ _ _ _ _ _ (by decide) _ _ _ _ ⟨b, r, p, rt, ort, _, _, rfl, hrm, hp', hrtm, hB, hb, mul_small (hsm _) (hsm _), fun raa oaa h8a => ?_⟩
        repeat tb_rel
        refine divrem_school_ok w _ _ _ _ _ _ _ _ _ (by decide) _ _ _ _ ⟨b, raa, oaa, lm, om, _, m, rfl, mem_hd, h8a, by tb_start, hmm, hb, hm0, by tlg_ne, fun rba oba rz orz ta ota h9a hrz hta => ?_⟩
        repeat tb_rel
        refine ITEM_tup mem_hd hta (by tlg_ne) rfl (by tlg_ne) ?_
        repeat tb_rel
        refine ⟨fun p hp => by rw [List.mem_singleton.mp hp]; tb_start, _, _, rz, orz, rfl, ((((List.sublist_cons_self (r, p) _).trans hsub).cons_cons _).trans (by kwd_less)), by tb_start, by tb_start, by tb_start, ?_⟩
        rw [hnext, Nat.pow_one, Nat.mul_mod]; exact hrz
    · clear h7 hsub hsub3 hrsm hram hrcm hgm hW
      rintro _ g'' ⟨u, t, r, p, rfl, hsub, hrsm, hram, hrcm, hp'⟩
      first | refine seqK_next ?_ | refine Seal.go (by assumption) (seqK_next ?_)
      repeat tb_rel
      refine ⟨fun _ h => (nomatch h), _, _, _, r, p, rfl, hsub, hrsm, hram, hrcm, ?_⟩
      rw [show nb - (i + 1) = n by tlg_ne]
      exact hp'
  · clear hu
    rintro _ g' ⟨u, v, t, r, p, rfl, hsub, hrsm, hram, hrcm, hp'⟩
    rw [Nat.sub_self, Nat.pow_zero, Nat.div_one, Nat.div_one] at hp'
    first | refine seqK_next ?_ | refine Seal.go (by assumption) (seqK_next ?_)
    refine TR.drop hsub ?_
    repeat tb_rel
    exact endK_ret (q r p hp') (by kwd_less)
-- part F15
inductive sp_law_raised (vs : List MV) (g : Gl) (Q : MV → Gl → Prop) : Prop where
  | mk : ∀ way n e bs m size b T g₁, vs = [.int (way : Nat), .int (n : Nat), .int (e : Nat), .int (bs : Nat), .int (m : Nat), .int (size : Nat), .int (b : Nat)] → g = T ++ g₁ → Tabs T → (6 ≤ b ∧ b ≤ 8) → way < 8 → n < 2 ^ 32 → bs < 2 ^ 32 → 0 < m → m < 64 → e < 64 → 1 ≤ size → size ≤ 3 → (∀ r q T', Tabs T' → IsN b (n ^ e % m) q → Q (.ref r) ((r, q) :: (T' ++ g₁))) → sp_law_raised vs g Q
theorem law_raised_ok (w : World) : SoundF PR w (hK w.params) 14 498 sp_law_raised := by
  refine soundFC (by k_is) (by k_is) [Str.ofString "way", Str.ofString "number", Str.ofString "exponent", Str.ofString "beside", Str.ofString "modulus", Str.ofString "size", Str.ofString "w"] [Str.ofString "a", Str.ofString "e", Str.ofString "b", Str.ofString "m"] [Str.ofString "w"] (fun L => [(Str.ofString "w", L + 1)]) (fun L => rfl) (fun L => rfl) (fun L => cells_ok1) (by intro s vals h; obtain ⟨_, _, _, _, _, _, _, rfl⟩ := len7 h; exact BindsTo.of_eq rfl) (by rfl) (by rfl) (by rfl) (by decide) (by decide) rfl rfl rfl ?_
  rintro A L h₀ vs g Q ⟨way, n, e, bs, m, size, b, T, g₁, rfl, rfl, hT, hb, hw8, hn, hbs, hm0, hm64, he64, hs1, hs3, q⟩
  refine ⟨rfl, fun cells hc => ?_⟩
  simp only [List.zip_cons_cons, List.zip_nil_left] at hc
  obtain ⟨oc_w, _, rfl, hc_w, hc⟩ := hc.inv
  obtain rfl := hc.nil_inv
  replace hc_w := hc_w _ (mem_tl (mem_tl (mem_tl (mem_tl (mem_tl (mem_tl (mem_hd)))))))
  refine (show EXS _ _ [(Str.ofString "way", _), (Str.ofString "number", _), (Str.ofString "exponent", _), (Str.ofString "beside", _), (Str.ofString "modulus", _), (Str.ofString "size", _), (Str.ofString "a", MV.undef), (Str.ofString "e", MV.undef), (Str.ofString "b", MV.undef), (Str.ofString "m", MV.undef)] ([(L + 1, oc_w)] ++ _) _ from ?_)
  simp only [List.cons_append, List.nil_append]
  repeat tb_rel
  refine EX_tupL (xs := [Str.ofString "a", Str.ofString "e", Str.ofString "b", Str.ofString "m"]) (.cons (.cons (.cons (.cons .nil)))) ?_ (by exact rfl) (by exact rfl)
  refine EV_comp (cl := [(Str.ofString "w", L + 1)]) rfl (by decide) rfl (by decide) rfl ?_
  repeat tb_rel
  refine ⟨by simp, fun ts ots hts => ⟨ts, ots, _, rfl, mem_hd, .inr hts, by simp, ?_⟩⟩
  refine COMP_limbs w (by decide) hb (fun _ => rfl) (fun _ => rfl) (fun _ => rfl) (fun _ => by first | exact .inl rfl | exact .inr rfl) (fun _ => rfl) hc_w [n, e, bs, m] [] _ (by simp only [List.mem_cons, List.not_mem_nil, or_false]; omega) mem_hd (by tb_start) ?_
  intro rs hrs
  cases hrs with | @cons _ ra oa _ _ ha hrs =>
  cases hrs with | @cons _ re oe _ _ he hrs =>
  cases hrs with | @cons _ rb ob _ _ hb' hrs =>
  cases hrs with | @cons _ rm om _ _ hm hrs =>
  cases hrs
  intro rl ol hrl
  simp only [List.cons_append, List.nil_append, List.map_cons, List.map_nil, List.reverse_cons, List.reverse_nil] at hrl ⊢
  refine ⟨rl, ol, _, _, rfl, mem_hd, hrl, .cons (by kwd_rel) (.cons (by kwd_rel) (.cons (by kwd_rel) (.cons (by kwd_rel) .nil))), ?_⟩
  first | refine seqK_next ?_ | refine Seal.go (by assumption) (seqK_next ?_)
  refine TR.drop (g' := (rm, om) :: (rb, ob) :: (re, oe) :: (ra, oa) :: (L + 1, oc_w) :: (T ++ g₁)) (by kwd_less) ?_
  clear hts hrl
  repeat tb_rel
  refine ⟨fun hc => ?_, fun hc0 => ?_⟩
  · repeat tb_rel
    refine CALL.perm (List.perm_append_comm_assoc T [(rm, om), (rb, ob), (re, oe), (ra, oa), (L + 1, oc_w)] g₁) ?_
    refine power_mod_ok w _ _ _ _ _ _ _ _ _ (by decide) _ _ _ _ ⟨b, ra, oa, n, re, oe, e, rm, om, m, size, T, _, rfl, rfl, hT, by simp, ha, by simp, he, by simp, hm, hb, hm0, hm64, he64, hs1, hs3, fun r qr T' hT' hr => ?_⟩
    repeat tb_rel
    exact endK_ret (q r qr T' hT' hr) (by simp only [List.cons_append, List.nil_append]; kwd_less)
  repeat tb_rel
  refine ⟨fun hc => ?_, fun hc1 => ?_⟩
  · repeat tb_rel
    refine CALL.perm (List.perm_append_comm_assoc T [(rm, om), (rb, ob), (re, oe), (ra, oa), (L + 1, oc_w)] g₁) ?_
    refine power_barrett_ok w _ _ _ _ _ _ _ _ _ (by decide) _ _ _ _ ⟨b, ra, oa, n, re, oe, e, rm, om, m, size, T, _, rfl, rfl, hT, by simp, ha, by simp, he, by simp, hm, hb, hm0, hm64, he64, hs1, hs3, fun r qr T' hT' hr => ?_⟩
    repeat tb_rel
    exact endK_ret (q r qr T' hT' hr) (by simp only [List.cons_append, List.nil_append]; kwd_less)
  have hw2 : way ≠ 0 ∧ way ≠ 1 := ⟨fun h => by subst h; simp at hc0, fun h => by subst h; simp at hc1⟩
  repeat tb_rel
  refine ⟨fun h2 => ?_, fun h2 => ?_⟩
  · have hw3 : way ≠ 2 := fun h => by subst h; simp at h2
    repeat tb_rel
    refine ⟨fun h7 => ?_, fun h7 => ?_⟩
    · have hw7 : way = 7 := by have := of_decide_eq_true h7; omega
      subst hw7
      repeat tb_rel
      refine BIN_modN (n := m) (b := 2) (by decide) ?_
      repeat tb_rel
      refine ⟨fun hev => ?_, fun hod => ?_⟩
      · repeat tb_rel
        refine CALL.perm (List.perm_append_comm_assoc T [(rm, om), (rb, ob), (re, oe), (ra, oa), (L + 1, oc_w)] g₁) ?_
        refine power_any_ok w _ _ _ _ _ _ _ _ _ (by decide) _ _ _ _ ⟨b, ra, oa, n, re, oe, e, rm, om, m, size, T, _, rfl, rfl, hT, by simp, ha, by simp, he, by simp, hm, hb, hm0, hm64, he64, hs1, hs3, fun r qr T' hT' hr => ?_⟩
        repeat tb_rel
        exact endK_ret (q r qr T' hT' hr) (by simp only [List.cons_append, List.nil_append]; kwd_less)
      · have hodd : m % 2 = 1 := by have := of_decide_eq_false hod; omega
        repeat tb_rel
        refine ⟨fun hc => absurd (of_decide_eq_true hc) (by tlg_ne), fun _ => ?_⟩
        repeat tb_rel
        refine ⟨fun hc => absurd (of_decide_eq_true hc) (by tlg_ne), fun _ => ?_⟩
        repeat tb_rel
        refine ⟨fun hc => absurd (of_decide_eq_true hc) (by tlg_ne), fun _ => ?_⟩
        repeat tb_rel
        refine ⟨fun hc => absurd (of_decide_eq_true hc) (by tlg_ne), fun _ => ?_⟩
        repeat tb_rel
        refine CALL.perm (List.perm_append_comm_assoc T [(rm, om), (rb, ob), (re, oe), (ra, oa), (L + 1, oc_w)] g₁) ?_
        refine power_mont_ok w _ _ _ _ _ _ _ _ _ (by decide) _ _ _ _ ⟨b, ra, oa, n, re, oe, e, rm, om, m, size, T, _, rfl, rfl, hT, by simp, ha, by simp, he, by simp, hm, hb, hodd, hm64, he64, hs1, hs3, fun r qr T' hT' hr => ?_⟩
        repeat tb_rel
        exact endK_ret (q r qr T' hT' hr) (by simp only [List.cons_append, List.nil_append]; kwd_less)
    · have hw7 : way ≠ 7 := fun h => by subst h; simp at h7
      refine ⟨fun h => (nomatch h), fun _ => ?_⟩
      repeat tb_rel
      refine ⟨fun hc3 => ?_, fun hc3 => ?_⟩
      · repeat tb_rel
        refine ladder_ok w _ _ _ _ _ _ _ _ _ (by decide) _ _ _ _ ⟨b, ra, oa, n, re, oe, e, rm, om, m, rfl, by tb_start, ha, by tb_start, he, by tb_start, hm, hb, hm0, hm64, he64, fun r qr hr => ?_⟩
        repeat tb_rel
        exact endK_ret (q r qr T hT hr) (by kwd_less)
      repeat tb_rel
      refine ⟨fun hc4 => ?_, fun hc4 => ?_⟩
      · repeat tb_rel
        rintro rz oz hz
        repeat tb_rel
        refine two_powers_ok w _ _ _ _ _ _ _ _ _ (by decide) _ _ _ _ ⟨b, ra, oa, n, re, oe, e, rb, ob, bs, rz, oz, 0, rm, om, m, rfl, by tb_start, ha, by tb_start, he, by tb_start, hb', mem_hd, ⟨by decide, _, Num.nil, hz⟩, by tb_start, hm, hb, hm0, hm64, he64, by decide, fun r qr hr => ?_⟩
        rw [Nat.pow_zero, Nat.mul_one] at hr
        repeat tb_rel
        exact endK_ret (q r qr T hT hr) (by kwd_less)
      repeat tb_rel
      refine ⟨fun hc5 => ?_, fun hc5 => ?_⟩
      · repeat tb_rel
        refine CALL.perm (List.perm_append_comm_assoc T [(rm, om), (rb, ob), (re, oe), (ra, oa), (L + 1, oc_w)] g₁) ?_
        refine power_best_ok w _ _ _ _ _ _ _ _ _ (by decide) _ _ _ _ ⟨b, ra, oa, n, re, oe, e, rm, om, m, T, _, rfl, rfl, hT, by simp, ha, by simp, he, by simp, hm, hb, hm0, hm64, he64, fun r qr T' hT' hr => ?_⟩
        repeat tb_rel
        exact endK_ret (q r qr T' hT' hr) (by simp only [List.cons_append, List.nil_append]; kwd_less)
      have hw6 : way = 6 := by
        have h3 := of_decide_eq_false hc3
        have h4 := of_decide_eq_false hc4
        have h5 := of_decide_eq_false hc5
        omega
      subst hw6
      repeat tb_rel
      refine ⟨fun _ => ?_, fun hc => absurd hc (by simp)⟩
      repeat tb_rel
      refine EV_list ?_
      repeat tb_rel
      refine ⟨by simp, fun rbs obs hobs => ?_⟩
      repeat tb_rel
      refine EV_list ?_
      repeat tb_rel
      rintro rz oz hz
      repeat tb_rel
      refine ⟨by simp, fun res oes hoes => ?_⟩
      repeat tb_rel
      refine many_products_ok w _ _ _ _ _ _ _ _ _ (by decide) _ _ _ _ ⟨b, rbs, obs, ra, oa, n, rb, ob, bs, res, oes, re, oe, e, rz, oz, 0, rm, om, m, rfl, by tb_start, hobs, by tb_start, ha, by tb_start, hb', mem_hd, hoes, by tb_start, he, by tb_start, ⟨by decide, _, Num.nil, hz⟩, by tb_start, hm, hb, hm0, hm64, he64, by decide, fun r qr hr => ?_⟩
      rw [Nat.pow_zero, Nat.mul_one] at hr
      repeat tb_rel
      exact endK_ret (q r qr T hT hr) (by kwd_less)
  · refine ⟨fun _ => ?_, fun h => (nomatch h)⟩
    repeat tb_rel
    refine CALL.perm (List.perm_append_comm_assoc T [(rm, om), (rb, ob), (re, oe), (ra, oa), (L + 1, oc_w)] g₁) ?_
    refine power_any_ok w _ _ _ _ _ _ _ _ _ (by decide) _ _ _ _ ⟨b, ra, oa, n, re, oe, e, rm, om, m, size, T, _, rfl, rfl, hT, by simp, ha, by simp, he, by simp, hm, hb, hm0, hm64, he64, hs1, hs3, fun r qr T' hT' hr => ?_⟩
    repeat tb_rel
    exact endK_ret (q r qr T' hT' hr) (by simp only [List.cons_append, List.nil_append]; kwd_less)
-- part F16
abbrev exL (x y : Nat) : List Nat := [0, 1, x, y, x + y, y, x * y, x, x]
abbrev nmL (a b m x : Nat) : List Nat := [a, a, a, a, a, a ^ x % m, a, b, a * b]
abbrev vlL (a b m x y : Nat) : List Nat := [a ^ 0 % m, a ^ 1 % m, a ^ x % m, a ^ y % m, a ^ (x + y) % m, (a ^ x % m) ^ y % m, a ^ (x * y) % m, b ^ x % m, (a * b) ^ x % m]
theorem law_turn {a b m x y i : Nat} (ha : a < 1000) (hb : b < 1000) (hm0 : 0 < m) (hm : m < 64) (hx : x < 8) (hy : y < 8) (hi : i < 9) :
    ∃ e n v : Nat, (exL x y)[i]? = some e ∧ (nmL a b m x)[i]? = some n ∧ (vlL a b m x y)[i]? = some v ∧ e < 64 ∧ n < 1000000 ∧ v = n ^ e % m ∧ v < 64 := by
  have hv : ∀ z, z % m < 64 := fun z => Nat.lt_trans (Nat.mod_lt _ hm0) hm
  have hxy : x * y ≤ 7 * 7 := Nat.mul_le_mul (by tlg_ne) (by tlg_ne)
  have hab : a * b ≤ 1000 * 1000 - 1000 := Nat.le_trans (Nat.mul_le_mul (show a ≤ 999 by tlg_ne) (show b ≤ 1000 by tlg_ne)) (by decide)
  have hax := hv (a ^ x)
  rcases (by tlg_ne : i = 0 ∨ i = 1 ∨ i = 2 ∨ i = 3 ∨ i = 4 ∨ i = 5 ∨ i = 6 ∨ i = 7 ∨ i = 8) with rfl | rfl | rfl | rfl | rfl | rfl | rfl | rfl | rfl <;>
    exact ⟨_, _, _, rfl, rfl, rfl, by tlg_ne, by tlg_ne, rfl, hv _⟩
theorem turn5 {a b m x i n : Nat} (h : (nmL a b m x)[i]? = some n) : ([.int a, .int a, .int a, .int a, .int a, .int ((if i = 5 then a ^ x % m else a : Nat) : Int), .int a, .int b, .int ((a : Int) * b)] : List MV)[i]? = some (.int n) := by
  have hi : i < 9 := by
    have := (List.getElem?_eq_some_iff.mp h).1
    simpa using this
  rcases (by tlg_ne : i = 0 ∨ i = 1 ∨ i = 2 ∨ i = 3 ∨ i = 4 ∨ i = 5 ∨ i = 6 ∨ i = 7 ∨ i = 8) with rfl | rfl | rfl | rfl | rfl | rfl | rfl | rfl | rfl <;>
    (have h' := Option.some.inj h; subst h'; rfl)
theorem less_start {T : Gl} {p q r : Addr × Obj} : Less (T ++ p :: ([] ++ [q, r])) (q :: p :: r :: T) :=
  ⟨_, by
    have h : List.Perm (T ++ [p, q, r]) ([p, q, r] ++ T) := List.perm_append_comm
    exact h.trans (List.Perm.swap q p _), List.Sublist.refl _⟩
abbrev LF := List (Addr × Obj × Nat)
abbrev LF.vals (F : LF) : List Nat := F.map fun p => p.2.2
abbrev LF.gl (F : LF) : Gl := F.map fun p => (p.1, p.2.1)
abbrev LF.rf (F : LF) : List MV := F.map fun p => .ref p.1
theorem LF.mem {F : LF} {i : Nat} {p : Addr × Obj × Nat} (h : F[i]? = some p) : (p.1, p.2.1) ∈ F.gl := List.mem_map.mpr ⟨p, List.mem_of_getElem? h, rfl⟩
theorem LF.val {F : LF} {vs : List Nat} {i k v : Nat} (h : F.vals = vs.take k) (hv : vs[i]? = some v) (hi : i < k) : ∃ p, F[i]? = some p ∧ p.2.2 = v := by
  have h1 : F.vals[i]? = some v := by rw [h, List.getElem?_take_of_lt hi]; exact hv
  unfold LF.vals at h1
  rw [List.getElem?_map] at h1
  cases e : F[i]? with
  | none => rw [e] at h1; cases h1
  | some p => rw [e] at h1; exact ⟨p, rfl, Option.some.inj h1⟩
abbrev lawPost : AF → Loc → Gl → Prop := fun f _ g => f = .ret (.bool true) ∧ ∃ T, Tabs T ∧ ∀ p ∈ T, p ∈ g
def LawSp (w : World) (body : List Stmt) (scope : Scope) : Prop :=
  ∀ A cn f cdv L h₀ l vs ns oc T, Heap.IsList h₀ l (List.toArray vs) → IntsAre vs ns → ns.length ≤ 63 → oc.data = Data.cell none → Tabs T →
    EXS ⟨PR, w, hK w.params, A, cn, scope, L, f, cdv, [(Str.ofString "w", L + 1)], h₀, 20⟩ body ((Str.ofString "script", .ref l) :: (["heap", "m", "a", "b", "x", "y", "size", "start", "found", "turn", "exponent", "number", "beside", "one", "none", "single", "first", "second", "both", "again", "times", "other", "jointly", "rows", "told"].map fun x => (Str.ofString x, MV.undef))) ((L + 1, oc) :: T) lawPost
theorem law_body (w : World) : BodyS (hK w.params) 503 (LawSp w) := by
  refine bodyS_of (by k_is) ?_
  intro A cn f cdv L h₀ l vs ns oc T hl hns hlen hoc hT
  simp only [List.map_cons, List.map_nil]
  repeat tb_rel
  refine EV_list ?_
  repeat tb_rel
  refine EV_comp (cl := []) rfl (by decide) rfl (by decide) rfl ?_
  refine EV_sliceG ?_
  repeat tb_rel
  refine ⟨l, vs, ns, _, _, rfl, hl, hns, by tlg_ne, .none, .int _, fun r1 o1 h1 => ?_⟩
  rw [pickN_upto _ _ (by decide)] at h1
  have hgl : (ns.take (Int.toNat 8)).length ≤ 100 := by rw [List.length_take]; omega
  generalize ns.take (Int.toNat 8) = gs at *
  refine ⟨r1, o1, _, rfl, mem_hd, .inl h1, by simp [nums]; omega, ?_⟩
  refine COMP_gen MV.int (fun i => .int (if i < 0 then -i else i)) mem_hd gs [] ?_ ?_
  · intro i _ I C D oI oC oD hCN
    refine EVK_call ?_ (by exact rfl) (by exact rfl) (by exact rfl)
    refine EVK_boot (by dsimp only; k_is) boot_abs (Rep.bi _) rfl rfl ?_
    refine EVSK_cons ?_ (by exact rfl)
    refine EVK_call ?_ (by exact rfl) (by exact rfl) (by exact rfl)
    refine EVK_boot (by dsimp only; k_is) boot_int (Rep.ty _) rfl rfl ?_
    refine EVSK_cons ?_ (by exact rfl)
    refine EVK_x (C := C) rfl (by tb_start) hCN ?_ rfl rfl
    refine EVSK_nil ?_
    refine ⟨.ty _, CALLK_int ?_⟩
    refine EVSK_nil ?_
    exact ⟨.bi _, CALLK_abs ⟨rfl, rfl⟩⟩
  rw [List.nil_append]
  intro lg og hg
  replace hg : Is (.list (nums (gs.map fun i => if i < 0 then -i else i))) og := by
    have e : nums (gs.map fun i => if i < 0 then -i else i) = gs.map fun i => MV.int (if i < 0 then -i else i) := by simp [nums]
    rw [e]; exact hg
  replace hgl : (gs.map fun i => if i < 0 then -i else i).length ≤ 100 := by rw [List.length_map]; exact hgl
  generalize (gs.map fun i => if i < 0 then -i else i) = gs at *
  repeat tb_rel
  refine ⟨by simp, fun lh oh hh => ?_⟩
  refine ⟨_, by kwd_rel, ?_⟩
  first | refine seqK_next ?_ | refine Seal.go (by assumption) (seqK_next ?_)
  refine TR.drop (g' := (lh, oh) :: (lg, og) :: (L + 1, oc) :: T) (by kwd_less) ?_
  clear h1 hns hl hlen
  repeat tb_rel
  refine EX_tupC (x := Str.ofString "w") (y := Str.ofString "m") (c := L + 1) (by exact rfl) (by exact rfl) ?_ (by exact rfl) (by exact rfl)
  repeat tb_rel
  refine law_grain_ok w _ _ _ _ _ _ _ _ _ (by decide) _ _ _ _ ⟨lh, oh, lg, og, 0, gs, 3, _, rfl, rfl, hh, hg, hgl, by decide, by decide, by decide, fun v1 oh1 hv1 hh1 => ?_⟩
  repeat tb_rel
  refine law_grain_ok w _ _ _ _ _ _ _ _ _ (by decide) _ _ _ _ ⟨lh, oh1, lg, og, 1, gs, 60, _, rfl, rfl, hh1, hg, hgl, by decide, by decide, by decide, fun v2 oh2 hv2 hh2 => ?_⟩
  clear hh hh1
  repeat tb_rel
  refine ⟨by simp, fun tt o' ho' => ⟨tt, o', _, _, _, [(tt, o'), (lh, oh2), (lg, og)], T, oc, _, rfl, mem_hd, ho', by kwd_rel, rfl, hoc, fun oc' hw => ?_⟩⟩
  obtain ⟨b, hb, hbe⟩ : ∃ b : Nat, (6 ≤ b ∧ b ≤ 8) ∧ 6 + (v1 : Int) = b := ⟨6 + v1, by tlg_ne, by push_cast; rfl⟩
  obtain ⟨m, ⟨hm0, hm64⟩, hme⟩ : ∃ m : Nat, (0 < m ∧ m < 64) ∧ 1 + (v2 : Int) = m := ⟨1 + v2, by tlg_ne, by push_cast; rfl⟩
  rw [hbe] at hw
  rw [hme]
  first | refine seqK_next ?_ | refine Seal.go (by assumption) (seqK_next ?_)
  refine TR.drop (g' := (lh, oh2) :: (lg, og) :: (L + 1, oc') :: T) (by simp only [List.cons_append, List.nil_append]; kwd_less) ?_
  clear hoc ho' hbe hme hv1 hv2
  repeat tb_rel
  refine EX_swap (xs := [Str.ofString "a", Str.ofString "b"]) ?_ (by exact rfl) (by exact rfl)
  repeat tb_rel
  refine law_grain_ok w _ _ _ _ _ _ _ _ _ (by decide) _ _ _ _ ⟨lh, oh2, lg, og, 2, gs, 200, _, rfl, rfl, hh2, hg, hgl, by decide, by decide, by decide, fun a oh3 ha hh3 => ?_⟩
  repeat tb_rel
  refine law_grain_ok w _ _ _ _ _ _ _ _ _ (by decide) _ _ _ _ ⟨lh, oh3, lg, og, 3, gs, 200, _, rfl, rfl, hh3, hg, hgl, by decide, by decide, by decide, fun c oh4 hc hh4 => ?_⟩
  clear hh2 hh3
  repeat tb_rel
  refine ⟨by simp, fun tt o' ho' => ⟨tt, o', _, _, rfl, mem_hd, ho', .cons (by kwd_rel) (.cons (by kwd_rel) .nil), ?_⟩⟩
  first | refine seqK_next ?_ | refine Seal.go (by assumption) (seqK_next ?_)
  refine TR.drop (g' := (lh, oh4) :: (lg, og) :: (L + 1, oc') :: T) (by kwd_less) ?_
  clear ho'
  repeat tb_rel
  refine EX_swap (xs := [Str.ofString "x", Str.ofString "y"]) ?_ (by exact rfl) (by exact rfl)
  repeat tb_rel
  refine law_grain_ok w _ _ _ _ _ _ _ _ _ (by decide) _ _ _ _ ⟨lh, oh4, lg, og, 4, gs, 8, _, rfl, rfl, hh4, hg, hgl, by decide, by decide, by decide, fun x oh5 hx hh5 => ?_⟩
  repeat tb_rel
  refine law_grain_ok w _ _ _ _ _ _ _ _ _ (by decide) _ _ _ _ ⟨lh, oh5, lg, og, 5, gs, 8, _, rfl, rfl, hh5, hg, hgl, by decide, by decide, by decide, fun y oh6 hy hh6 => ?_⟩
  clear hh4 hh5
  repeat tb_rel
  refine ⟨by simp, fun tt o' ho' => ⟨tt, o', _, _, rfl, mem_hd, ho', .cons (by kwd_rel) (.cons (by kwd_rel) .nil), ?_⟩⟩
  first | refine seqK_next ?_ | refine Seal.go (by assumption) (seqK_next ?_)
  refine TR.drop (g' := (lh, oh6) :: (lg, og) :: (L + 1, oc') :: T) (by kwd_less) ?_
  clear ho'
  repeat tb_rel
  refine EX_swap (xs := [Str.ofString "size", Str.ofString "start"]) ?_ (by exact rfl) (by exact rfl)
  repeat tb_rel
  refine law_grain_ok w _ _ _ _ _ _ _ _ _ (by decide) _ _ _ _ ⟨lh, oh6, lg, og, 6, gs, 3, _, rfl, rfl, hh6, hg, hgl, by decide, by decide, by decide, fun v3 oh7 hv3 hh7 => ?_⟩
  repeat tb_rel
  refine law_grain_ok w _ _ _ _ _ _ _ _ _ (by decide) _ _ _ _ ⟨lh, oh7, lg, og, 7, gs, 8, _, rfl, rfl, hh7, hg, hgl, by decide, by decide, by decide, fun start oh8 hst hh8 => ?_⟩
  clear hh6 hh7 hh8
  repeat tb_rel
  obtain ⟨size, ⟨hs1, hs3⟩, hse⟩ : ∃ size : Nat, (1 ≤ size ∧ size ≤ 3) ∧ 1 + (v3 : Int) = size := ⟨1 + v3, by tlg_ne, by push_cast; rfl⟩
  rw [hse]
  refine ⟨by simp, fun tt o' ho' => ⟨tt, o', _, _, rfl, mem_hd, ho', .cons (by kwd_rel) (.cons (by kwd_rel) .nil), ?_⟩⟩
  first | refine seqK_next ?_ | refine Seal.go (by assumption) (seqK_next ?_)
  refine TR.drop (g' := (L + 1, oc') :: T) (by kwd_less) ?_
  clear ho' hg hgl hse hv3
  repeat tb_rel
  rintro rf of' hof
  repeat tb_rel
  refine EX_forenum (by dsimp only; k_is) boot_enum (by exact rfl) ?_
  refine EV_list ?_
  repeat tb_rel
  refine BIN_mul (by tlg_ne) (by tlg_ne) ?_
  repeat tb_rel
  refine ⟨by simp, fun le oe he => ⟨le, oe, _, rfl, mem_hd, he, ?_⟩⟩
  have hab : a < 1000 ∧ c < 1000 := by tlg_ne
  replace he : Is (.list ((exL x y).map fun n => MV.int (n : Nat))) oe := he
  refine FORB_its (fun i loc g' => E7 fun u1 u2 u3 u4 T F of' => A6 (loc = [(Str.ofString "script", .ref l), (Str.ofString "heap", .ref lh), (Str.ofString "m", .int (m : Nat)), (Str.ofString "a", .int (a : Nat)), (Str.ofString "b", .int (c : Nat)), (Str.ofString "x", .int (x : Nat)), (Str.ofString "y", .int (y : Nat)), (Str.ofString "size", .int (size : Nat)), (Str.ofString "start", .int (start : Nat)), (Str.ofString "found", .ref rf), (Str.ofString "turn", u1), (Str.ofString "exponent", u2), (Str.ofString "number", u3), (Str.ofString "beside", u4), (Str.ofString "one", .undef), (Str.ofString "none", .undef), (Str.ofString "single", .undef), (Str.ofString "first", .undef), (Str.ofString "second", .undef), (Str.ofString "both", .undef), (Str.ofString "again", .undef), (Str.ofString "times", .undef), (Str.ofString "other", .undef), (Str.ofString "jointly", .undef), (Str.ofString "rows", .undef), (Str.ofString "told", .undef)]) (Tabs T) (LF.vals F = (vlL a c m x y).take i) ((∀ p ∈ F, IsN b p.2.2 p.2.1)) (Is (.list (LF.rf F)) of') (Less (T ++ (rf, of') :: (LF.gl F ++ [(le, oe), (L + 1, oc')])) g'))
    _ ⟨_, _, _, _, T, [], of', rfl, hT, rfl, (fun p hp => nomatch hp), hof, less_start⟩ ?_ ?_
  · clear hof hT T of'
    rintro i it _ g' hit N hN ⟨u1, u2, u3, u4, T, F, of', rfl, hT, hFv, hF, hof, hless⟩
    change (enumL 0 ((exL x y).map fun n => MV.int (n : Nat)))[i]? = some it at hit
    rw [enumL_get, List.getElem?_map] at hit
    have hi : i < 9 := by
      rcases Nat.lt_or_ge i 9 with h | h
      · exact h
      · rw [List.getElem?_eq_none (by simpa using h)] at hit; cases hit
    obtain ⟨e, n, v, h1, h2, h3, he64, hn, hv, hv64⟩ := law_turn hab.1 hab.2 hm0 hm64 hx hy hi
    rw [h1] at hit
    obtain rfl := Option.some.inj hit
    rw [Nat.zero_add]
    have hFl : F.length = i := by
      have := congrArg List.length hFv
      rw [List.length_map, List.length_take] at this
      simp at this; omega
    clear hit
    refine ⟨_, .pair (by kwd_rel) (by kwd_rel), ?_⟩
    refine TR.less hless ?_
    clear hless
    repeat tb_rel
    refine EV_list ?_
    repeat tb_rel
    refine EV_val (.int ((if i = 5 then a ^ x % m else a : Nat) : Int)) ?_ ?_
    · refine EV_ife ?_
      repeat tb_rel
      refine ⟨fun hc => ?_, fun hc => ?_⟩
      · have hi5 : i = 5 := by have := of_decide_eq_true hc; omega
        subst hi5
        obtain ⟨p, hp, hpv⟩ := LF.val (v := a ^ x % m) hFv (i := 2) rfl (by tlg_ne)
        obtain ⟨hpn, xs, hxs, hxi⟩ := hF p (List.mem_of_getElem? hp)
        rw [hpv] at hxs
        repeat tb_rel
        refine EV_boot (by dsimp only; k_is) boot_sum (Rep.bi _) (by exact rfl) ?_
        repeat tb_rel
        refine ITEM_list (by tb_start) hof (by tlg_ne) (x := .ref p.1) (by rw [List.getElem?_map, show Int.toNat 2 = 2 from rfl, hp]; rfl) (by tlg_ne) ?_
        repeat tb_rel
        refine CALL_sum (List.mem_append_right _ (mem_tl (List.mem_append_left _ (LF.mem hp)))) hxi ?_
        have hm2 : a ^ x % m < 64 := Nat.lt_trans (Nat.mod_lt _ hm0) hm64
        rw [hxs.sum (Nat.lt_of_lt_of_le hm2 (BN_rng hb).1)]
        exact ⟨rfl, rfl, rfl⟩
      · have hi5 : i ≠ 5 := by have := of_decide_eq_false hc; omega
        repeat tb_rel
        rw [if_neg hi5]
        exact ⟨rfl, rfl, rfl⟩
    repeat tb_rel
    refine BIN_mul (by tlg_ne) (by tlg_ne) ?_
    repeat tb_rel
    refine ⟨by simp, fun rt ot ht => ?_⟩
    repeat tb_rel
    refine ITEM_list mem_hd ht (by tlg_ne) (x := .int (n : Nat)) (by rw [Int.toNat_natCast]; exact turn5 h2) (by tlg_ne) ?_
    refine ⟨_, by kwd_rel, ?_⟩
    first | refine seqK_next ?_ | refine Seal.go (by assumption) (seqK_next ?_)
    refine TR.drop (g' := T ++ (rf, of') :: (LF.gl F ++ [(le, oe), (L + 1, oc')])) (by kwd_less) ?_
    clear ht
    repeat tb_rel
    refine EV_val (.int ((if n = c then a else c : Nat) : Int)) ?_ ?_
    · refine EV_ife ?_
      repeat tb_rel
      refine ⟨fun hc => ?_, fun hc => ?_⟩
      · have hnc : n = c := by have := of_decide_eq_true hc; omega
        repeat tb_rel
        rw [if_pos hnc]
        exact ⟨rfl, rfl, rfl⟩
      · have hnc : n ≠ c := by have := of_decide_eq_false hc; omega
        repeat tb_rel
        rw [if_neg hnc]
        exact ⟨rfl, rfl, rfl⟩
    have hbs : (if n = c then a else c) < 1000 := by split <;> omega
    generalize (if n = c then a else c) = bs at *
    repeat tb_rel
    refine EV_appendM (by tb_start) (by tb_start) hof ?_ (by decide) (by exact rfl) (by exact rfl)
    repeat tb_rel
    refine BIN_modN (n := start + i) (b := 8) (by decide) ?_
    repeat tb_rel
    refine law_raised_ok w _ _ _ _ _ _ _ _ _ (by decide) _ _ _ _ ⟨(start + i) % 8, n, e, bs, m, size, b, T, _, rfl, rfl, hT, hb, Nat.mod_lt _ (by decide), by tlg_ne, by tlg_ne, hm0, hm64, he64, hs1, hs3, fun r q T' hT' hr => ?_⟩
    rw [← hv] at hr
    refine ⟨_, _, hof, by simp; omega, fun o₁ ho₁ => ⟨_, .tail (UpdG.head.app T'), ?_⟩⟩
    repeat tb_rel
    refine ⟨fun p hp => by rw [List.mem_singleton.mp hp]; exact mem_tl (List.mem_append_right _ (mem_tl (List.mem_append_right _ mem_hd))), _, _, _, _, T', F ++ [(r, q, v)], o₁, rfl, hT', ?_, ?_, ?_, ?_⟩
    · have h4 : (vlL a c m x y).take (i + 1) = (vlL a c m x y).take i ++ [v] := by rw [List.take_add_one, h3]; rfl
      rw [h4, ← hFv]; simp [LF.vals]
    · intro p hp
      rcases List.mem_append.mp hp with h | h
      · exact hF p h
      · rw [List.mem_singleton.mp h]; exact hr
    · have h4 : LF.rf (F ++ [(r, q, v)]) = LF.rf F ++ [.ref r] := by simp [LF.rf]
      rw [h4]; exact ho₁
    · have h4 : LF.gl (F ++ [(r, q, v)]) = LF.gl F ++ [(r, q)] := by simp [LF.gl]
      rw [h4]; exact less_turn
  · clear hof hT T of' he
    rintro _ g' ⟨u1, u2, u3, u4, T, F, of', rfl, hT, hFv, hF, hof, hless⟩
    change LF.vals F = vlL a c m x y at hFv
    have hFl : F.length = 9 := by
      have := congrArg List.length hFv
      rw [List.length_map] at this
      exact this
    have hlt : ∀ p ∈ F, p.2.2 < m := fun p hp => by
      have h1 : p.2.2 ∈ LF.vals F := List.mem_map.mpr ⟨p, hp, rfl⟩
      rw [hFv] at h1
      simp only [vlL, List.mem_cons, List.not_mem_nil, or_false] at h1
      rcases h1 with h | h | h | h | h | h | h | h | h <;> (rw [h]; exact Nat.mod_lt _ hm0)
    have hlt2 : ∀ p ∈ F, p.2.2 < 2 ^ b := fun p hp => Nat.lt_of_lt_of_le (Nat.lt_trans (hlt p hp) hm64) (BN_rng hb).1
    first | refine seqK_next ?_ | refine Seal.go (by assumption) (seqK_next ?_)
    refine TR.less hless ?_
    clear hless
    repeat tb_rel
    refine EX_forlist ?_
    repeat tb_rel
    refine ⟨rf, of', _, rfl, by tb_start, hof, ?_⟩
    refine FORB_its (fun i loc g' => ∃ u, loc = [(Str.ofString "script", .ref l), (Str.ofString "heap", .ref lh), (Str.ofString "m", .int (m : Nat)), (Str.ofString "a", .int (a : Nat)), (Str.ofString "b", .int (c : Nat)), (Str.ofString "x", .int (x : Nat)), (Str.ofString "y", .int (y : Nat)), (Str.ofString "size", .int (size : Nat)), (Str.ofString "start", .int (start : Nat)), (Str.ofString "found", .ref rf), (Str.ofString "turn", u1), (Str.ofString "exponent", u2), (Str.ofString "number", u3), (Str.ofString "beside", u4), (Str.ofString "one", u), (Str.ofString "none", .undef), (Str.ofString "single", .undef), (Str.ofString "first", .undef), (Str.ofString "second", .undef), (Str.ofString "both", .undef), (Str.ofString "again", .undef), (Str.ofString "times", .undef), (Str.ofString "other", .undef), (Str.ofString "jointly", .undef), (Str.ofString "rows", .undef), (Str.ofString "told", .undef)] ∧ List.Sublist (T ++ (rf, of') :: (LF.gl F ++ [(le, oe), (L + 1, oc')])) g') _ ⟨_, rfl, List.Sublist.refl _⟩ ?_ ?_
    · rintro i it _ g' hit N hN ⟨u, rfl, hsub⟩
      rw [List.getElem?_map, List.getElem?_map] at hit
      cases e : F[i]? with
      | none => rw [e] at hit; cases hit
      | some p =>
      rw [e] at hit
      obtain rfl : it = .val (.ref p.1) := (Option.some.inj hit).symm
      clear hit
      have hpF := List.mem_of_getElem? e
      obtain ⟨hpn, xs, hxs, hxi⟩ := hF p hpF
      have hpm := hlt p hpF
      have hxl := hxs.len1 (hlt2 p hpF)
      have hmem : (p.1, p.2.1) ∈ T ++ (rf, of') :: (LF.gl F ++ [(le, oe), (L + 1, oc')]) := List.mem_append_right _ (mem_tl (List.mem_append_left _ (LF.mem e)))
      refine ⟨_, .name (by kwd_rel), ?_⟩
      refine TR.drop hsub ?_
      clear hsub
      repeat tb_rel
      refine TST_or3 ?_
      repeat tb_rel
      refine ⟨fun _ => ?_, fun hc => absurd (of_decide_eq_true hc) (by tlg_ne)⟩
      repeat tb_rel
      refine EV_one ?_ (by exact rfl)
      repeat tb_rel
      rintro rz oz hz
      refine CMP_list (mem_tl hmem) hxi mem_hd hz ?_
      repeat tb_rel
      refine ⟨fun _ => ?_, fun hc => absurd (of_decide_eq_true hc) hxs.ne0⟩
      repeat tb_rel
      refine EV_boot (by dsimp only; k_is) boot_sum (Rep.bi _) (by exact rfl) ?_
      repeat tb_rel
      refine CALL_sum (mem_tl hmem) hxi ?_
      rw [hxs.sum (hlt2 p hpF)]
      repeat tb_rel
      refine ⟨fun hc => absurd (of_decide_eq_true hc) (by tlg_ne), fun _ => ?_⟩
      repeat tb_rel
      exact ⟨fun q hq => by rw [List.mem_singleton.mp hq]; exact mem_tl (List.mem_append_right _ mem_hd), _, rfl, List.Sublist.cons _ (List.Sublist.refl _)⟩
    rintro _ g' ⟨u, rfl, hsub⟩
    first | refine seqK_next ?_ | refine Seal.go (by assumption) (seqK_next ?_)
    refine TR.drop hsub ?_
    clear hsub
    repeat tb_rel
    refine EX_tupL (xs := [Str.ofString "none", Str.ofString "single", Str.ofString "first", Str.ofString "second", Str.ofString "both", Str.ofString "again", Str.ofString "times", Str.ofString "other", Str.ofString "jointly"]) (.cons (.cons (.cons (.cons (.cons (.cons (.cons (.cons (.cons .nil))))))))) ?_ (by exact rfl) (by exact rfl)
    refine EV_comp (cl := []) rfl (by decide) rfl (by decide) rfl ?_
    repeat tb_rel
    refine ⟨rf, of', _, rfl, by tb_start, .inl hof, by simp [LF.rf]; omega, ?_⟩
    refine COMP_gen (fun p : Addr × Obj × Nat => MV.ref p.1) (fun p => .int (p.2.2 : Nat)) (by tb_start) F [] ?_ ?_
    · intro p hp I C D oI oC oD hCN
      obtain ⟨hpn, xs, hxs, hxi⟩ := hF p hp
      refine EVK_call ?_ (by exact rfl) (by exact rfl) (by exact rfl)
      refine EVK_boot (by dsimp only; k_is) boot_sum (Rep.bi _) rfl rfl ?_
      refine EVSK_cons ?_ (by exact rfl)
      refine EVK_x (C := C) rfl (by tb_start) hCN ?_ rfl rfl
      refine EVSK_nil ?_
      refine ⟨.bi _, CALLK_sum (mem_tl (mem_tl (mem_tl (List.mem_append_right _ (mem_tl (List.mem_append_left _ (List.mem_map.mpr ⟨p, hp, rfl⟩))))))) hxi ?_⟩
      rw [hxs.sum (hlt2 p hp)]; exact ⟨rfl, rfl⟩
    rw [List.nil_append]
    intro rs os hs
    have hs' : Is (.list ((vlL a c m x y).map fun v => MV.int (v : Nat))) os := by
      rw [← hFv]; unfold LF.vals; rw [List.map_map]; exact hs
    clear hs
    simp only [vlL, List.map_cons, List.map_nil] at hs'
    refine ⟨rs, os, _, _, rfl, mem_hd, hs', .cons (by kwd_rel) (.cons (by kwd_rel) (.cons (by kwd_rel) (.cons (by kwd_rel) (.cons (by kwd_rel) (.cons (by kwd_rel) (.cons (by kwd_rel) (.cons (by kwd_rel) (.cons (by kwd_rel) .nil)))))))), ?_⟩
    first | refine seqK_next ?_ | refine Seal.go (by assumption) (seqK_next ?_)
    refine TR.drop (g' := T ++ [(L + 1, oc')]) (by kwd_less) ?_
    clear hs' hF hFv hlt hlt2 hof hFl
    clear F of' rs os le oe
    have hv : ∀ z, z % m < 64 := fun z => Nat.lt_trans (Nat.mod_lt _ hm0) hm64
    have hv2 := hv (a ^ x)
    have hv3 := hv (a ^ y)
    have hv7 := hv (c ^ x)
    have hv8 := hv ((a * c) ^ x)
    have hm0' := hm0
    repeat tb_rel
    refine TST_or4 ?_
    repeat tb_rel
    refine BIN_modN (n := 1) (b := m) hm0 ?_
    repeat tb_rel
    refine ⟨fun _ => ?_, fun hc => absurd rfl (of_decide_eq_true hc)⟩
    repeat tb_rel
    refine BIN_modN (n := a) (b := m) hm0 ?_
    repeat tb_rel
    refine ⟨fun _ => ?_, fun hc => absurd (by rw [Nat.pow_one]) (of_decide_eq_true hc)⟩
    repeat tb_rel
    refine BIN_mul (by tlg_ne) (by tlg_ne) ?_
    repeat tb_rel
    refine BIN_modN (n := a ^ x % m * (a ^ y % m)) (b := m) hm0 ?_
    repeat tb_rel
    refine ⟨fun _ => ?_, fun hc => absurd (by rw [pow_step]) (of_decide_eq_true hc)⟩
    repeat tb_rel
    refine ⟨fun hc => absurd (by rw [Nat.pow_mul, ← Nat.pow_mod]) (of_decide_eq_true hc), fun _ => ?_⟩
    repeat tb_rel
    refine EX_asgcomp (cl := [(Str.ofString "w", L + 1)]) rfl rfl (by decide) rfl (by decide) rfl rfl ?_
    repeat tb_rel
    refine ⟨by simp, fun ts ots hts => ⟨ts, ots, _, rfl, mem_hd, hts, by simp, ?_⟩⟩
    refine COMP_limbs w (by decide) hb (fun _ => rfl) (fun _ => rfl) (fun _ => rfl) (fun _ => by first | exact .inl rfl | exact .inr rfl) (fun _ => rfl) hw [a, x, c, m] [] _ (by simp only [List.mem_cons, List.not_mem_nil, or_false]; omega) mem_hd (by tb_start) ?_
    intro rs hrs
    cases hrs with | @cons _ r1 o1 _ _ h1 hrs =>
    cases hrs with | @cons _ r2 o2 _ _ h2 hrs =>
    cases hrs with | @cons _ r3 o3 _ _ h3 hrs =>
    cases hrs with | @cons _ r4 o4 _ _ h4 hrs =>
    cases hrs
    intro rl ol hrl
    simp only [List.cons_append, List.nil_append, List.map_cons, List.map_nil, List.reverse_cons, List.reverse_nil] at hrl ⊢
    refine ⟨_, by kwd_rel, ?_⟩
    first | refine seqK_next ?_ | refine Seal.go (by assumption) (seqK_next ?_)
    refine TR.drop (g' := (rl, ol) :: (r4, o4) :: (r3, o3) :: (r2, o2) :: (r1, o1) :: (T ++ [(L + 1, oc')])) (by kwd_less) ?_
    clear hts
    repeat tb_rel
    refine ITEM_list mem_hd hrl (by tlg_ne) (x := .ref r1) rfl (by tlg_ne) ?_
    repeat tb_rel
    refine ITEM_list mem_hd hrl (by tlg_ne) (x := .ref r2) rfl (by tlg_ne) ?_
    repeat tb_rel
    refine ITEM_list mem_hd hrl (by tlg_ne) (x := .ref r3) rfl (by tlg_ne) ?_
    repeat tb_rel
    refine ITEM_list mem_hd hrl (by tlg_ne) (x := .ref r2) rfl (by tlg_ne) ?_
    repeat tb_rel
    refine ITEM_list mem_hd hrl (by tlg_ne) (x := .ref r4) rfl (by tlg_ne) ?_
    repeat tb_rel
    refine two_powers_ok w _ _ _ _ _ _ _ _ _ (by decide) _ _ _ _ ⟨b, r1, o1, a, r2, o2, x, r3, o3, c, r2, o2, x, r4, o4, m, rfl, by tb_start, h1, by tb_start, h2, by tb_start, h3, by tb_start, h2, by tb_start, h4, hb, hm0, hm64, by tlg_ne, by tlg_ne, fun r5 o5 h5 => ?_⟩
    repeat tb_rel
    refine BIN_mul (by tlg_ne) (by tlg_ne) ?_
    repeat tb_rel
    refine BIN_modN (n := a ^ x % m * (c ^ x % m)) (b := m) hm0 ?_
    have ej : a ^ x % m * (c ^ x % m) % m = (a * c) ^ x % m := by rw [← Nat.mul_mod, Nat.mul_pow]
    rw [ej]
    repeat tb_rel
    refine ⟨fun _ => ?_, fun hc => absurd hc (by simp)⟩
    repeat tb_rel
    refine law_limbs_ok w _ _ _ _ _ _ _ _ _ (by decide) _ _ _ _ ⟨b, (a * c) ^ x % m, rfl, hb, by tlg_ne, fun r6 o6 h6 => ?_⟩
    rw [← Nat.mul_pow] at h5
    obtain ⟨_, xs, hx5, hi5⟩ := h5
    obtain ⟨_, ys, hx6, hi6⟩ := h6
    obtain rfl := hx5.uniq hx6
    refine CMP_list (mem_tl mem_hd) hi5 mem_hd hi6 ?_
    rw [decide_eq_true rfl]
    repeat tb_rel
    exact ⟨rfl, T, hT, fun p hp => by simp [hp]⟩
-- part F17
theorem tabs_grown {h₀ h : Heap} {L : Addr} {g T : Gl} (N : News h₀ L h g) (hT : Tabs T) (hs : ∀ p ∈ T, p ∈ g) : GrownAll makerTabs h := by
  have one : ∀ {P : Addr} {ln cl : Int} {q : Str}, TabSt P ln cl q T → GrownAt P h := fun st => by
    rcases st with h | ⟨_, _, _, _, h, _⟩
    · exact GrownAt.of N (hs _ h)
    · exact GrownAt.of N (hs _ h)
  exact ⟨one hT.1, one hT.2.1, one hT.2.2.1, one hT.2.2.2, trivial⟩
theorem law_join {w : World} {name qual : Str} {params : Arguments} {body : List Stmt} {scope : Scope} {dV kV doc pm cdv' ct oc' : Value} {an od : Option Addr} {osl : Array (Option Value)} {L f l : Addr} {cdv : Value} {h₀ : Heap} {vs : List Value} {ns : List Int} {oc : Obj} {cn : Str} {s : Shared} {m : Str → Option Value}
    {p : Program} {loose : List Str} {mean : ExcName → Option Value} {mg mb : Str → Option Value}
    (ho : (hK w.params).lookup 503 = some ⟨oc', od, .func (fnOf name qual params body scope dV kV doc pm an cdv' ct), osl⟩) (hl : h₀.IsList l vs.toArray) (hns : IntsAre vs ns) (hlen : ns.length ≤ 63) (hoc : oc.data = .cell none)
    (hcl : cellsFrom (L + 1) scope.names [] = [(Str.ofString "w", L + 1)]) (B : Below callerA h₀ [] h₀) (X : (hK w.params).In h₀) (T : Top p loose mean mg mb h₀) (hk : scope.kind = .function)
    (c1 : CodeHd h₀ 361 357) (c2 : CodeHd h₀ 354 350) (c3 : CodeHd h₀ 347 343) (c4 : CodeHd h₀ 340 336) (F : Fr h₀ L s.heap m)
    (N : News h₀ L s.heap [(L + 1, oc), (357, tabObj #[]), (350, tabObj #[]), (343, tabObj #[]), (336, tabObj #[])]) (hlt : 357 < L ∧ 350 < L ∧ 343 < L ∧ 336 < L) (hm : m (Str.ofString "script") = some (.ref l))
    (hkn : ((Str.ofString "script" :: ["heap", "m", "a", "b", "x", "y", "size", "start", "found", "turn", "exponent", "number", "beside", "one", "none", "single", "first", "second", "both", "again", "times", "other", "jointly", "rows", "told"].map Str.ofString).all fun x => decide (scope.names.lookup x = some .local)) = true)
    {Post : Flow → Shared → Prop} {E : Value → Shared → Prop} (hp : ∀ m' h' tk', Fr h₀ L h' m' → GrownAll makerTabs h' → Post (.ret (.bool true)) { s with heap := h', toks := tk' }) :
    wpAny (model PR w) (callerA.deeper (envOfC cn scope L f cdv)) (execs body (envOfC cn scope L f cdv)) Post E s := by
  have envE : envOfC cn scope L f cdv = envX cn scope L f cdv [(Str.ofString "w", L + 1)] := by rw [← hcl]; rfl
  rw [envE]
  have hT : Tabs [(357, tabObj #[]), (350, tabObj #[]), (343, tabObj #[]), (336, tabObj #[])] := ⟨.inl mem_hd, .inl (mem_tl mem_hd), .inl (mem_tl (mem_tl mem_hd)), .inl (mem_tl (mem_tl (mem_tl mem_hd)))⟩
  refine frame_in (fun A => law_body w _ _ _ _ _ _ _ _ _ _ _ _ _ _ _ ho A cn f cdv L h₀ l vs ns oc _ hl hns hlen hoc hT) B X T hk ?_ F N ?_ ⟨?_, ?_⟩ (by decide) ?_
  · intro q hq
    simp only [makerTabs, List.mem_cons, List.not_mem_nil, or_false] at hq
    rcases hq with rfl | rfl | rfl | rfl
    · exact c1
    · exact c2
    · exact c3
    · exact c4
  · obtain ⟨h1, h2, h3, h4⟩ := hlt
    have n1 : ∀ {P : Nat}, P < L → L + 1 ≠ P := fun h => Nat.ne_of_gt (Nat.lt_succ_of_lt h)
    refine List.nodup_cons.mpr ⟨?_, by decide⟩
    intro hm
    simp only [List.map_cons, List.map_nil, List.mem_cons, List.not_mem_nil, or_false] at hm
    rcases hm with e | e | e | e
    · exact n1 h1 e
    · exact n1 h2 e
    · exact n1 h3 e
    · exact n1 h4 e
  · simp only [List.map_cons, List.map_nil]
    decide
  · intro x v hx
    have hk1 : x ∈ (Str.ofString "script" :: ["heap", "m", "a", "b", "x", "y", "size", "start", "found", "turn", "exponent", "number", "beside", "one", "none", "single", "first", "second", "both", "again", "times", "other", "jointly", "rows", "told"].map Str.ofString) := by
      rcases List.mem_cons.mp hx with e | h
      · cases e; exact mem_hd
      · obtain ⟨y, hy, e⟩ := List.mem_map.mp h
        cases e
        exact mem_tl (List.mem_map_of_mem hy)
    refine ⟨of_decide_eq_true (List.all_eq_true.mp hkn x hk1), fun hu => ?_⟩
    rcases List.mem_cons.mp hx with e | h
    · cases e; exact ⟨_, hm, .ref l⟩
    · obtain ⟨y, hy, e⟩ := List.mem_map.mp h
      cases e
      exact absurd rfl hu
  · rintro b a loc' m' g' h' tk' ⟨rfl, T', hT', hs⟩ r F' N'
    cases r with
    | ret r =>
      cases r
      exact hp m' h' tk' F' (tabs_grown N' hT' hs)
end Mine
open Mine in
set_option maxRecDepth 100000 in
set_option maxHeartbeats 8000000 in
theorem PySem.Challenge.cw_sa0351_01_holds : PySem.Challenge.rw_sa0351_01.Holds := by
  w_on
  refine holds_law hSaid fun said => ?_
  refine holds_open (q := hQ) (loose := []) (Xt := hX) (XP := XL hQ []) (Yf := (kmHook hK hKa hKe [357, 350, 343, 336]).obs) (Ya := (kmHook hK hKa hKe [357, 350, 343, 336]).val) (YP := (kmHook hK hKa hKe [357, 350, 343, 336]).says) (N := 6452) h_left
    (kmHook hK hKa hKe [357, 350, 343, 336]).of (kmHook hK hKa hKe [357, 350, 343, 336]).keeps (fun s e => xl_of s (Bool.and_eq_true_iff.mp e).1) XL.keeps (by rfl) (by rfl) (by rfl) (fun s e => recFacts_of (Bool.and_eq_true_iff.mp e).2) (by rfl) said hOk ⟨rfl, rfl, rfl, rfl, rfl, by decide +kernel⟩ ?hw ?hc
  case hw => w_witness2
  case hc =>
    k_go0
    all_goals try k_fold
    refine law_join (by k_is) (by with_reducible assumption) (by with_reducible assumption) ?hlen (Eq.trans (by with_reducible assumption) ?hoc) ?hcl (by with_reducible assumption) (by with_reducible assumption) (by with_reducible assumption) ?hk (by with_reducible assumption) (by with_reducible assumption) (by with_reducible assumption) (by with_reducible assumption) (by with_reducible assumption) (by with_reducible assumption) (by with_reducible assumption) ?hm ?hkn ?hp
    case hlen => omega
    case hoc => rfl
    case hcl => rfl
    case hk => rfl
    case hm => rfl
    case hkn => rfl
    case hp =>
      intro m' h' tk' F G
      refine ⟨goodW_bool F (by with_reducible assumption) (raisesW_false ?_) ?_, G⟩
      · wrow_none_raised
      · wrow_post
