import PyProof.Rows.All
import Wide.All
import OpenK.AllK
import Wide.FinOn
import PySem.Challenge.RW_pf0232_01
open PySem PySem.W PySem.Spec PySem.Calls PyProof.Rows
set_option Elab.async false
set_option maxRecDepth 100000
set_option maxHeartbeats 8000000
set_option compiler.extract_closed false
namespace Mine
/-- the program's defs, in the order of the text -/
noncomputable def allDefs : List Stmt := PySem.Challenge.pw_pf0232_01.main.body.flatMap fun s => match s with | .ClassDef _ _ _ b _ _ _ _ _ _ _ => b.filter (fun | .FunctionDef .. => true | _ => false) | .FunctionDef .. => [s] | _ => []
noncomputable def fnP (k : Nat) : Arguments := match allDefs[k]? with | some (.FunctionDef _ a _ _ _ _ _ _ _ _) => a | _ => ⟨[], [], none, [], [], none, []⟩
noncomputable def fnB (k : Nat) : List Stmt := match allDefs[k]? with | some (.FunctionDef _ _ b _ _ _ _ _ _ _) => b | _ => []
noncomputable def fnS (k : Nat) : Scope := match allDefs[k]? with | some (.FunctionDef _ _ _ _ _ _ sc _ _ _) => sc | _ => default
noncomputable def hd.heap_39 : Params → Frag := (fun (a0 : Arguments) (b0 : List Stmt) (s0 : Scope) (a1 : Arguments) (b1 : List Stmt) (s1 : Scope) (a2 : Arguments) (b2 : List Stmt) (s2 : Scope) (a3 : Arguments) (b3 : List Stmt) (s3 : Scope) (a4 : Arguments) (b4 : List Stmt) (s4 : Scope) (a5 : Arguments) (b5 : List Stmt) (s5 : Scope) (a6 : Arguments) (b6 : List Stmt) (s6 : Scope) (a7 : Arguments) (b7 : List Stmt) (s7 : Scope) (a8 : Arguments) (b8 : List Stmt) (s8 : Scope) (a9 : Arguments) (b9 : List Stmt) (s9 : Scope) (a10 : Arguments) (b10 : List Stmt) (s10 : Scope) (a11 : Arguments) (b11 : List Stmt) (s11 : Scope) (a12 : Arguments) (b12 : List Stmt) (s12 : Scope) (a13 : Arguments) (b13 : List Stmt) (s13 : Scope) (a14 : Arguments) (b14 : List Stmt) (s14 : Scope) (a15 : Arguments) (b15 : List Stmt) (s15 : Scope) (a16 : Arguments) (b16 : List Stmt) (s16 : Scope) (a17 : Arguments) (b17 : List Stmt) (s17 : Scope) (a18 : Arguments) (b18 : List Stmt) (s18 : Scope) (a19 : Arguments) (b19 : List Stmt) (s19 : Scope) (a20 : Arguments) (b20 : List Stmt) (s20 : Scope) (a21 : Arguments) (b21 : List Stmt) (s21 : Scope) (a22 : Arguments) (b22 : List Stmt) (s22 : Scope) (a23 : Arguments) (b23 : List Stmt) (s23 : Scope) (a24 : Arguments) (b24 : List Stmt) (s24 : Scope) (_ : a0 = fnP 0) (_ : b0 = fnB 0) (_ : s0 = fnS 0) (_ : a1 = fnP 1) (_ : b1 = fnB 1) (_ : s1 = fnS 1) (_ : a2 = fnP 2) (_ : b2 = fnB 2) (_ : s2 = fnS 2) (_ : a3 = fnP 3) (_ : b3 = fnB 3) (_ : s3 = fnS 3) (_ : a4 = fnP 4) (_ : b4 = fnB 4) (_ : s4 = fnS 4) (_ : a5 = fnP 5) (_ : b5 = fnB 5) (_ : s5 = fnS 5) (_ : a6 = fnP 6) (_ : b6 = fnB 6) (_ : s6 = fnS 6) (_ : a7 = fnP 7) (_ : b7 = fnB 7) (_ : s7 = fnS 7) (_ : a8 = fnP 8) (_ : b8 = fnB 8) (_ : s8 = fnS 8) (_ : a9 = fnP 9) (_ : b9 = fnB 9) (_ : s9 = fnS 9) (_ : a10 = fnP 10) (_ : b10 = fnB 10) (_ : s10 = fnS 10) (_ : a11 = fnP 11) (_ : b11 = fnB 11) (_ : s11 = fnS 11) (_ : a12 = fnP 12) (_ : b12 = fnB 12) (_ : s12 = fnS 12) (_ : a13 = fnP 13) (_ : b13 = fnB 13) (_ : s13 = fnS 13) (_ : a14 = fnP 14) (_ : b14 = fnB 14) (_ : s14 = fnS 14) (_ : a15 = fnP 15) (_ : b15 = fnB 15) (_ : s15 = fnS 15) (_ : a16 = fnP 16) (_ : b16 = fnB 16) (_ : s16 = fnS 16) (_ : a17 = fnP 17) (_ : b17 = fnB 17) (_ : s17 = fnS 17) (_ : a18 = fnP 18) (_ : b18 = fnB 18) (_ : s18 = fnS 18) (_ : a19 = fnP 19) (_ : b19 = fnB 19) (_ : s19 = fnS 19) (_ : a20 = fnP 20) (_ : b20 = fnB 20) (_ : s20 = fnS 20) (_ : a21 = fnP 21) (_ : b21 = fnB 21) (_ : s21 = fnS 21) (_ : a22 = fnP 22) (_ : b22 = fnB 22) (_ : s22 = fnS 22) (_ : a23 = fnP 23) (_ : b23 = fnB 23) (_ : s23 = fnS 23) (_ : a24 = fnP 24) (_ : b24 = fnB 24) (_ : s24 = fnS 24) (P : Params) => ((nat_lit 2, { cls := Value.none, data := Data.dict #[{ hash := PyData.keyHash P (Str.ofString "type.__subclasses__.Exception.0"), key := Value.str (Str.ofString "type.__subclasses__.Exception.0") 214, val := Value.int 31 0 }, { hash := PyData.keyHash P (Str.ofString "type.__subclasses__.Exception.n"), key := Value.str (Str.ofString "type.__subclasses__.Exception.n") 215, val := Value.int 1 0 }] 2 }) :: (nat_lit 3, { cls := Value.type "dict", data := Data.dict #[{ hash := PyData.keyHash P (Str.ofString "__name__"), key := Value.str (Str.ofString "__name__") 165, val := Value.str (Str.ofString "law_pf0232_01") 482 }, { hash := PyData.keyHash P (Str.ofString "__doc__"), key := Value.str (Str.ofString "__doc__") 166, val := Value.none }, { hash := PyData.keyHash P (Str.ofString "__package__"), key := Value.str (Str.ofString "__package__") 167, val := Value.none }, { hash := PyData.keyHash P (Str.ofString "__loader__"), key := Value.str (Str.ofString "__loader__") 168, val := Value.builtin "__main__.__loader__#opaque" }, { hash := PyData.keyHash P (Str.ofString "__spec__"), key := Value.str (Str.ofString "__spec__") 169, val := Value.none }, { hash := PyData.keyHash P (Str.ofString "__annotations__"), key := Value.str (Str.ofString "__annotations__") 170, val := Value.ref 6 }, { hash := PyData.keyHash P (Str.ofString "__builtins__"), key := Value.str (Str.ofString "__builtins__") 171, val := Value.ref 4 }, { hash := PyData.keyHash P (Str.ofString "__file__"), key := Value.str (Str.ofString "__file__") 173, val := Value.str (Str.ofString "/claim/cut.py") 172 }, { hash := PyData.keyHash P (Str.ofString "__cached__"), key := Value.str (Str.ofString "__cached__") 174, val := Value.none }, { hash := PyData.keyHash P (Str.ofString "PressError"), key := Value.str (Str.ofString "PressError") 217, val := Value.ref 31 }, { hash := PyData.keyHash P (Str.ofString "FrameError"), key := Value.str (Str.ofString "FrameError") 233, val := Value.ref 44 }, { hash := PyData.keyHash P (Str.ofString "parts"), key := Value.str (Str.ofString "parts") 243, val := Value.ref 53 }, { hash := PyData.keyHash P (Str.ofString "Component"), key := Value.str (Str.ofString "Component") 278, val := Value.ref 70 }, { hash := PyData.keyHash P (Str.ofString "Frame"), key := Value.str (Str.ofString "Frame") 372, val := Value.ref 136 }, { hash := PyData.keyHash P (Str.ofString "Grid"), key := Value.str (Str.ofString "Grid") 424, val := Value.ref 169 }, { hash := PyData.keyHash P (Str.ofString "unit_size"), key := Value.str (Str.ofString "unit_size") 433, val := Value.ref 180 }, { hash := PyData.keyHash P (Str.ofString "copied_components"), key := Value.str (Str.ofString "copied_components") 444, val := Value.ref 187 }, { hash := PyData.keyHash P (Str.ofString "cropped_frame"), key := Value.str (Str.ofString "cropped_frame") 459, val := Value.ref 194 }, { hash := PyData.keyHash P (Str.ofString "cropped_grid"), key := Value.str (Str.ofString "cropped_grid") 481, val := Value.ref 201 }, { hash := PyData.keyHash P (Str.ofString "_law_urn"), key := Value.str (Str.ofString "_law_urn") 492, val := Value.ref 208 }, { hash := PyData.keyHash P (Str.ofString "_law_from"), key := Value.str (Str.ofString "_law_from") 501, val := Value.ref 215 }, { hash := PyData.keyHash P (Str.ofString "_law_frame"), key := Value.str (Str.ofString "_law_frame") 513, val := Value.ref 222 }, { hash := PyData.keyHash P (Str.ofString "_law_filled"), key := Value.str (Str.ofString "_law_filled") 526, val := Value.ref 229 }, { hash := PyData.keyHash P (Str.ofString "_law_all"), key := Value.str (Str.ofString "_law_all") 532, val := Value.ref 234 }, { hash := PyData.keyHash P (Str.ofString "_law_part_right"), key := Value.str (Str.ofString "_law_part_right") 551, val := Value.ref 241 }, { hash := PyData.keyHash P (Str.ofString "law"), key := Value.str (Str.ofString "law") 557, val := Value.ref 246 }] 26 }) :: (nat_lit 15, { cls := Value.type "tuple", data := Data.seq #[Value.type "Exception"] }) :: (nat_lit 22, { cls := Value.type "tuple", data := Data.seq #[] }) :: (nat_lit 24, { cls := Value.type "tuple", data := Data.seq #[Value.str (Str.ofString "self") 204, Value.str (Str.ofString "message") 205] }) :: (nat_lit 25, { cls := Value.type "tuple", data := Data.seq #[] }) :: (nat_lit 27, { cls := Value.type "code", data := Data.fields #[Value.str (Str.ofString "__init__") 201, Value.str (Str.ofString "PressError.__init__") 202, Value.str (Str.ofString "/claim/cut.py") 203, Value.int 4 0, Value.int 2 0, Value.int 0 0, Value.int 0 0, Value.int 3 0, Value.ref 22, Value.bool true, Value.int 181 0, Value.ref 23, Value.none, Value.ref 24, Value.ref 25, Value.ref 26, Value.int 206 0, Value.int 4 0, Value.str (Str.ofString "/claim/cut.py") 207] }) :: (nat_lit 28, { cls := Value.type "function", data := Data.func { name := Str.ofString "__init__", qualname := Str.ofString "PressError.__init__", params := a0, body := FuncBody.stmts b0, scope := s0, globals := 3, closure := [], defaults := Value.none, kwdefaults := Value.none, pyModule := Value.str (Str.ofString "pixelpress.errors") 187, code := Value.ref 27 } }) :: (nat_lit 29, { cls := Value.type "tuple", data := Data.seq #[Value.str (Str.ofString "message") 209] }) :: (nat_lit 30, { cls := Value.type "dict", data := Data.dict #[{ hash := PyData.keyHash P (Str.ofString "__module__"), key := Value.str (Str.ofString "__module__") 196, val := Value.str (Str.ofString "pixelpress.errors") 187 }, { hash := PyData.keyHash P (Str.ofString "__firstlineno__"), key := Value.str (Str.ofString "__firstlineno__") 200, val := Value.int 2 199 }, { hash := PyData.keyHash P (Str.ofString "__init__"), key := Value.str (Str.ofString "__init__") 208, val := Value.ref 28 }, { hash := PyData.keyHash P (Str.ofString "__static_attributes__"), key := Value.str (Str.ofString "__static_attributes__") 210, val := Value.ref 29 }, { hash := PyData.keyHash P (Str.ofString "__weakref__"), key := Value.str (Str.ofString "__weakref__") 212, val := Value.ref 32 }, { hash := PyData.keyHash P (Str.ofString "__doc__"), key := Value.str (Str.ofString "__doc__") 213, val := Value.none }] 3 }) :: (nat_lit 31, { cls := Value.type "type", data := Data.cls { name := Str.ofString "PressError", bases := [Value.type "Exception"], mro := [Value.ref 31, Value.type "Exception", Value.type "BaseException", Value.type "object"], ns := 30, qualname := Str.ofString "PressError", subclasses := [Value.ref 44] }, slots := #[some (Value.ref 15), none, some (Value.str (Str.ofString "PressError") 189), some (Value.str (Str.ofString "PressError") 197), some (Value.builtin "Exception.__new__"), some (Value.bool true)] }) :: (nat_lit 32, { cls := Value.type "getset_descriptor", data := Data.fields #[Value.str (Str.ofString "__weakref__") 211, Value.ref 31, Value.builtin "ExceptionGroup.__weakref__", Value.none] }) :: (nat_lit 35, { cls := Value.type "tuple", data := Data.seq #[Value.ref 31] }) :: (nat_lit 42, { cls := Value.type "tuple", data := Data.seq #[] }) :: (nat_lit 43, { cls := Value.type "dict", data := Data.dict #[{ hash := PyData.keyHash P (Str.ofString "__module__"), key := Value.str (Str.ofString "__module__") 225, val := Value.str (Str.ofString "pixelpress.errors") 187 }, { hash := PyData.keyHash P (Str.ofString "__firstlineno__"), key := Value.str (Str.ofString "__firstlineno__") 229, val := Value.int 7 228 }, { hash := PyData.keyHash P (Str.ofString "__static_attributes__"), key := Value.str (Str.ofString "__static_attributes__") 230, val := Value.ref 42 }, { hash := PyData.keyHash P (Str.ofString "__doc__"), key := Value.str (Str.ofString "__doc__") 231, val := Value.none }] 2 }) :: (nat_lit 44, { cls := Value.type "type", data := Data.cls { name := Str.ofString "FrameError", bases := [Value.ref 31], mro := [Value.ref 44, Value.ref 31, Value.type "Exception", Value.type "BaseException", Value.type "object"], ns := 43, qualname := Str.ofString "FrameError" }, slots := #[some (Value.ref 35), none, some (Value.str (Str.ofString "FrameError") 218), some (Value.str (Str.ofString "FrameError") 226), some (Value.builtin "Exception.__new__"), some (Value.bool true)] }) :: (nat_lit 47, { cls := Value.type "tuple", data := Data.seq #[] }) :: (nat_lit 49, { cls := Value.type "tuple", data := Data.seq #[Value.str (Str.ofString "many") 239, Value.str (Str.ofString "size") 240] }) :: (nat_lit 50, { cls := Value.type "tuple", data := Data.seq #[] }) :: (nat_lit 52, { cls := Value.type "code", data := Data.fields #[Value.str (Str.ofString "parts") 236, Value.str (Str.ofString "parts") 237, Value.str (Str.ofString "/claim/cut.py") 238, Value.int 10 0, Value.int 2 0, Value.int 0 0, Value.int 0 0, Value.int 3 0, Value.ref 47, Value.bool true, Value.int 181 0, Value.ref 48, Value.none, Value.ref 49, Value.ref 50, Value.ref 51, Value.int 241 0, Value.int 10 0, Value.str (Str.ofString "/claim/cut.py") 242] }) :: (nat_lit 53, { cls := Value.type "function", data := Data.func { name := Str.ofString "parts", qualname := Str.ofString "parts", params := a1, body := FuncBody.stmts b1, scope := s1, globals := 3, closure := [], defaults := Value.none, kwdefaults := Value.none, pyModule := Value.str (Str.ofString "pixelpress.frames") 234, code := Value.ref 52 } }) :: (nat_lit 61, { cls := Value.type "tuple", data := Data.seq #[] }) :: (nat_lit 63, { cls := Value.type "tuple", data := Data.seq #[Value.str (Str.ofString "self") 259, Value.str (Str.ofString "ident") 260, Value.str (Str.ofString "across") 261, Value.str (Str.ofString "down") 262, Value.str (Str.ofString "quant") 263] }) :: (nat_lit 64, { cls := Value.type "tuple", data := Data.seq #[] }) :: (nat_lit 66, { cls := Value.type "code", data := Data.fields #[Value.str (Str.ofString "__init__") 256, Value.str (Str.ofString "Component.__init__") 257, Value.str (Str.ofString "/claim/cut.py") 258, Value.int 14 0, Value.int 5 0, Value.int 0 0, Value.int 0 0, Value.int 3 0, Value.ref 61, Value.bool true, Value.int 181 0, Value.ref 62, Value.none, Value.ref 63, Value.ref 64, Value.ref 65, Value.int 264 0, Value.int 14 0, Value.str (Str.ofString "/claim/cut.py") 265] }) :: (nat_lit 67, { cls := Value.type "function", data := Data.func { name := Str.ofString "__init__", qualname := Str.ofString "Component.__init__", params := a2, body := FuncBody.stmts b2, scope := s2, globals := 3, closure := [], defaults := Value.none, kwdefaults := Value.none, pyModule := Value.str (Str.ofString "pixelpress.frames") 234, code := Value.ref 66 } }) :: (nat_lit 68, { cls := Value.type "tuple", data := Data.seq #[Value.str (Str.ofString "across") 267, Value.str (Str.ofString "down") 268, Value.str (Str.ofString "ident") 269, Value.str (Str.ofString "quant") 270] }) :: (nat_lit 69, { cls := Value.type "dict", data := Data.dict #[{ hash := PyData.keyHash P (Str.ofString "__module__"), key := Value.str (Str.ofString "__module__") 251, val := Value.str (Str.ofString "pixelpress.frames") 234 }, { hash := PyData.keyHash P (Str.ofString "__firstlineno__"), key := Value.str (Str.ofString "__firstlineno__") 255, val := Value.int 12 254 }, { hash := PyData.keyHash P (Str.ofString "__init__"), key := Value.str (Str.ofString "__init__") 266, val := Value.ref 67 }, { hash := PyData.keyHash P (Str.ofString "__static_attributes__"), key := Value.str (Str.ofString "__static_attributes__") 271, val := Value.ref 68 }, { hash := PyData.keyHash P (Str.ofString "__dict__"), key := Value.str (Str.ofString "__dict__") 273, val := Value.ref 71 }, { hash := PyData.keyHash P (Str.ofString "__weakref__"), key := Value.str (Str.ofString "__weakref__") 275, val := Value.ref 72 }, { hash := PyData.keyHash P (Str.ofString "__doc__"), key := Value.str (Str.ofString "__doc__") 276, val := Value.none }] 4 }) :: (nat_lit 70, { cls := Value.type "type", data := Data.cls { name := Str.ofString "Component", bases := [Value.type "object"], mro := [Value.ref 70, Value.type "object"], ns := 69, qualname := Str.ofString "Component" }, slots := #[none, none, some (Value.str (Str.ofString "Component") 244), some (Value.str (Str.ofString "Component") 252), some (Value.builtin "object.__new__"), some (Value.bool true)] }) :: (nat_lit 71, { cls := Value.type "getset_descriptor", data := Data.fields #[Value.str (Str.ofString "__dict__") 272, Value.ref 70, Value.builtin "function.__dict__", Value.builtin "function.__dict__#set"] }) :: (nat_lit 72, { cls := Value.type "getset_descriptor", data := Data.fields #[Value.str (Str.ofString "__weakref__") 274, Value.ref 70, Value.builtin "ExceptionGroup.__weakref__", Value.none] }) :: (nat_lit 82, { cls := Value.type "tuple", data := Data.seq #[] }) :: (nat_lit 84, { cls := Value.type "tuple", data := Data.seq #[Value.str (Str.ofString "self") 294, Value.str (Str.ofString "kind") 295, Value.str (Str.ofString "precision") 296, Value.str (Str.ofString "height") 297, Value.str (Str.ofString "width") 298, Value.str (Str.ofString "components") 299, Value.str (Str.ofString "n") 300] }) :: (nat_lit 85, { cls := Value.type "tuple", data := Data.seq #[] }) :: (nat_lit 87, { cls := Value.type "code", data := Data.fields #[Value.str (Str.ofString "__init__") 291, Value.str (Str.ofString "Frame.__init__") 292, Value.str (Str.ofString "/claim/cut.py") 293, Value.int 21 0, Value.int 7 0, Value.int 0 0, Value.int 0 0, Value.int 3 0, Value.ref 82, Value.bool true, Value.int 181 0, Value.ref 83, Value.none, Value.ref 84, Value.ref 85, Value.ref 86, Value.int 301 0, Value.int 21 0, Value.str (Str.ofString "/claim/cut.py") 302] }) :: (nat_lit 88, { cls := Value.type "function", data := Data.func { name := Str.ofString "__init__", qualname := Str.ofString "Frame.__init__", params := a3, body := FuncBody.stmts b3, scope := s3, globals := 3, closure := [], defaults := Value.none, kwdefaults := Value.none, pyModule := Value.str (Str.ofString "pixelpress.frames") 234, code := Value.ref 87 } }) :: (nat_lit 89, { cls := Value.type "tuple", data := Data.seq #[] }) :: (nat_lit 92, { cls := Value.type "code", data := Data.fields #[Value.str (Str.ofString "most_across") 304, Value.str (Str.ofString "Frame.most_across") 305, Value.str (Str.ofString "/claim/cut.py") 306, Value.int 29 0, Value.int 1 0, Value.int 0 0, Value.int 0 0, Value.int 3 0, Value.ref 89, Value.bool true, Value.int 181 0, Value.ref 90, Value.none, Value.none, Value.none, Value.ref 91, Value.int 307 0, Value.int 29 0, Value.str (Str.ofString "/claim/cut.py") 308] }) :: (nat_lit 93, { cls := Value.type "function", data := Data.func { name := Str.ofString "most_across", qualname := Str.ofString "Frame.most_across", params := a4, body := FuncBody.stmts b4, scope := s4, globals := 3, closure := [], defaults := Value.none, kwdefaults := Value.none, pyModule := Value.str (Str.ofString "pixelpress.frames") 234, code := Value.ref 92 } }) :: (nat_lit 94, { cls := Value.type "tuple", data := Data.seq #[] }) :: (nat_lit 97, { cls := Value.type "code", data := Data.fields #[Value.str (Str.ofString "most_down") 310, Value.str (Str.ofString "Frame.most_down") 311, Value.str (Str.ofString "/claim/cut.py") 312, Value.int 32 0, Value.int 1 0, Value.int 0 0, Value.int 0 0, Value.int 3 0, Value.ref 94, Value.bool true, Value.int 181 0, Value.ref 95, Value.none, Value.none, Value.none, Value.ref 96, Value.int 313 0, Value.int 32 0, Value.str (Str.ofString "/claim/cut.py") 314] }) :: (nat_lit 98, { cls := Value.type "function", data := Data.func { name := Str.ofString "most_down", qualname := Str.ofString "Frame.most_down", params := a5, body := FuncBody.stmts b5, scope := s5, globals := 3, closure := [], defaults := Value.none, kwdefaults := Value.none, pyModule := Value.str (Str.ofString "pixelpress.frames") 234, code := Value.ref 97 } }) :: (nat_lit 99, { cls := Value.type "tuple", data := Data.seq #[] }) :: (nat_lit 101, { cls := Value.type "tuple", data := Data.seq #[Value.str (Str.ofString "self") 319] }) :: (nat_lit 102, { cls := Value.type "tuple", data := Data.seq #[] }) :: (nat_lit 104, { cls := Value.type "code", data := Data.fields #[Value.str (Str.ofString "mcus_across") 316, Value.str (Str.ofString "Frame.mcus_across") 317, Value.str (Str.ofString "/claim/cut.py") 318, Value.int 35 0, Value.int 1 0, Value.int 0 0, Value.int 0 0, Value.int 3 0, Value.ref 99, Value.bool true, Value.int 181 0, Value.ref 100, Value.none, Value.ref 101, Value.ref 102, Value.ref 103, Value.int 320 0, Value.int 35 0, Value.str (Str.ofString "/claim/cut.py") 321] }) :: (nat_lit 105, { cls := Value.type "function", data := Data.func { name := Str.ofString "mcus_across", qualname := Str.ofString "Frame.mcus_across", params := a6, body := FuncBody.stmts b6, scope := s6, globals := 3, closure := [], defaults := Value.none, kwdefaults := Value.none, pyModule := Value.str (Str.ofString "pixelpress.frames") 234, code := Value.ref 104 } }) :: (nat_lit 106, { cls := Value.type "tuple", data := Data.seq #[] }) :: (nat_lit 108, { cls := Value.type "tuple", data := Data.seq #[Value.str (Str.ofString "self") 326] }) :: (nat_lit 109, { cls := Value.type "tuple", data := Data.seq #[] }) :: (nat_lit 111, { cls := Value.type "code", data := Data.fields #[Value.str (Str.ofString "mcus_down") 323, Value.str (Str.ofString "Frame.mcus_down") 324, Value.str (Str.ofString "/claim/cut.py") 325, Value.int 38 0, Value.int 1 0, Value.int 0 0, Value.int 0 0, Value.int 3 0, Value.ref 106, Value.bool true, Value.int 181 0, Value.ref 107, Value.none, Value.ref 108, Value.ref 109, Value.ref 110, Value.int 327 0, Value.int 38 0, Value.str (Str.ofString "/claim/cut.py") 328] }) :: (nat_lit 112, { cls := Value.type "function", data := Data.func { name := Str.ofString "mcus_down", qualname := Str.ofString "Frame.mcus_down", params := a7, body := FuncBody.stmts b7, scope := s7, globals := 3, closure := [], defaults := Value.none, kwdefaults := Value.none, pyModule := Value.str (Str.ofString "pixelpress.frames") 234, code := Value.ref 111 } }) :: (nat_lit 113, { cls := Value.type "tuple", data := Data.seq #[] }) :: (nat_lit 115, { cls := Value.type "tuple", data := Data.seq #[Value.str (Str.ofString "self") 333, Value.str (Str.ofString "place") 334, Value.str (Str.ofString "component") 335, Value.str (Str.ofString "width") 336] }) :: (nat_lit 116, { cls := Value.type "tuple", data := Data.seq #[] }) :: (nat_lit 118, { cls := Value.type "code", data := Data.fields #[Value.str (Str.ofString "plane_size") 330, Value.str (Str.ofString "Frame.plane_size") 331, Value.str (Str.ofString "/claim/cut.py") 332, Value.int 41 0, Value.int 2 0, Value.int 0 0, Value.int 0 0, Value.int 3 0, Value.ref 113, Value.bool true, Value.int 181 0, Value.ref 114, Value.none, Value.ref 115, Value.ref 116, Value.ref 117, Value.int 337 0, Value.int 41 0, Value.str (Str.ofString "/claim/cut.py") 338] }) :: (nat_lit 119, { cls := Value.type "function", data := Data.func { name := Str.ofString "plane_size", qualname := Str.ofString "Frame.plane_size", params := a8, body := FuncBody.stmts b8, scope := s8, globals := 3, closure := [], defaults := Value.none, kwdefaults := Value.none, pyModule := Value.str (Str.ofString "pixelpress.frames") 234, code := Value.ref 118 } }) :: (nat_lit 120, { cls := Value.type "tuple", data := Data.seq #[] }) :: (nat_lit 122, { cls := Value.type "tuple", data := Data.seq #[Value.str (Str.ofString "self") 343, Value.str (Str.ofString "place") 344, Value.str (Str.ofString "width") 345, Value.str (Str.ofString "height") 346] }) :: (nat_lit 123, { cls := Value.type "tuple", data := Data.seq #[] }) :: (nat_lit 125, { cls := Value.type "code", data := Data.fields #[Value.str (Str.ofString "blocks") 340, Value.str (Str.ofString "Frame.blocks") 341, Value.str (Str.ofString "/claim/cut.py") 342, Value.int 46 0, Value.int 2 0, Value.int 0 0, Value.int 0 0, Value.int 3 0, Value.ref 120, Value.bool true, Value.int 181 0, Value.ref 121, Value.none, Value.ref 122, Value.ref 123, Value.ref 124, Value.int 347 0, Value.int 46 0, Value.str (Str.ofString "/claim/cut.py") 348] }) :: (nat_lit 126, { cls := Value.type "function", data := Data.func { name := Str.ofString "blocks", qualname := Str.ofString "Frame.blocks", params := a9, body := FuncBody.stmts b9, scope := s9, globals := 3, closure := [], defaults := Value.none, kwdefaults := Value.none, pyModule := Value.str (Str.ofString "pixelpress.frames") 234, code := Value.ref 125 } }) :: (nat_lit 127, { cls := Value.type "tuple", data := Data.seq #[] }) :: (nat_lit 129, { cls := Value.type "tuple", data := Data.seq #[Value.str (Str.ofString "self") 353, Value.str (Str.ofString "place") 354, Value.str (Str.ofString "component") 355] }) :: (nat_lit 130, { cls := Value.type "tuple", data := Data.seq #[] }) :: (nat_lit 132, { cls := Value.type "code", data := Data.fields #[Value.str (Str.ofString "padded") 350, Value.str (Str.ofString "Frame.padded") 351, Value.str (Str.ofString "/claim/cut.py") 352, Value.int 50 0, Value.int 2 0, Value.int 0 0, Value.int 0 0, Value.int 3 0, Value.ref 127, Value.bool true, Value.int 181 0, Value.ref 128, Value.none, Value.ref 129, Value.ref 130, Value.ref 131, Value.int 356 0, Value.int 50 0, Value.str (Str.ofString "/claim/cut.py") 357] }) :: (nat_lit 133, { cls := Value.type "function", data := Data.func { name := Str.ofString "padded", qualname := Str.ofString "Frame.padded", params := a10, body := FuncBody.stmts b10, scope := s10, globals := 3, closure := [], defaults := Value.none, kwdefaults := Value.none, pyModule := Value.str (Str.ofString "pixelpress.frames") 234, code := Value.ref 132 } }) :: (nat_lit 134, { cls := Value.type "tuple", data := Data.seq #[Value.str (Str.ofString "components") 359, Value.str (Str.ofString "height") 360, Value.str (Str.ofString "kind") 361, Value.str (Str.ofString "n") 362, Value.str (Str.ofString "precision") 363, Value.str (Str.ofString "width") 364] }) :: (nat_lit 135, { cls := Value.type "dict", data := Data.dict #[{ hash := PyData.keyHash P (Str.ofString "__module__"), key := Value.str (Str.ofString "__module__") 286, val := Value.str (Str.ofString "pixelpress.frames") 234 }, { hash := PyData.keyHash P (Str.ofString "__firstlineno__"), key := Value.str (Str.ofString "__firstlineno__") 290, val := Value.int 19 289 }, { hash := PyData.keyHash P (Str.ofString "__init__"), key := Value.str (Str.ofString "__init__") 303, val := Value.ref 88 }, { hash := PyData.keyHash P (Str.ofString "most_across"), key := Value.str (Str.ofString "most_across") 309, val := Value.ref 93 }, { hash := PyData.keyHash P (Str.ofString "most_down"), key := Value.str (Str.ofString "most_down") 315, val := Value.ref 98 }, { hash := PyData.keyHash P (Str.ofString "mcus_across"), key := Value.str (Str.ofString "mcus_across") 322, val := Value.ref 105 }, { hash := PyData.keyHash P (Str.ofString "mcus_down"), key := Value.str (Str.ofString "mcus_down") 329, val := Value.ref 112 }, { hash := PyData.keyHash P (Str.ofString "plane_size"), key := Value.str (Str.ofString "plane_size") 339, val := Value.ref 119 }, { hash := PyData.keyHash P (Str.ofString "blocks"), key := Value.str (Str.ofString "blocks") 349, val := Value.ref 126 }, { hash := PyData.keyHash P (Str.ofString "padded"), key := Value.str (Str.ofString "padded") 358, val := Value.ref 133 }, { hash := PyData.keyHash P (Str.ofString "__static_attributes__"), key := Value.str (Str.ofString "__static_attributes__") 365, val := Value.ref 134 }, { hash := PyData.keyHash P (Str.ofString "__dict__"), key := Value.str (Str.ofString "__dict__") 367, val := Value.ref 137 }, { hash := PyData.keyHash P (Str.ofString "__weakref__"), key := Value.str (Str.ofString "__weakref__") 369, val := Value.ref 138 }, { hash := PyData.keyHash P (Str.ofString "__doc__"), key := Value.str (Str.ofString "__doc__") 370, val := Value.none }] 4 }) :: (nat_lit 136, { cls := Value.type "type", data := Data.cls { name := Str.ofString "Frame", bases := [Value.type "object"], mro := [Value.ref 136, Value.type "object"], ns := 135, qualname := Str.ofString "Frame" }, slots := #[none, none, some (Value.str (Str.ofString "Frame") 279), some (Value.str (Str.ofString "Frame") 287), some (Value.builtin "object.__new__"), some (Value.bool true)] }) :: (nat_lit 137, { cls := Value.type "getset_descriptor", data := Data.fields #[Value.str (Str.ofString "__dict__") 366, Value.ref 136, Value.builtin "function.__dict__", Value.builtin "function.__dict__#set"] }) :: (nat_lit 138, { cls := Value.type "getset_descriptor", data := Data.fields #[Value.str (Str.ofString "__weakref__") 368, Value.ref 136, Value.builtin "ExceptionGroup.__weakref__", Value.none] }) :: (nat_lit 148, { cls := Value.type "tuple", data := Data.seq #[] }) :: (nat_lit 151, { cls := Value.type "code", data := Data.fields #[Value.str (Str.ofString "__init__") 387, Value.str (Str.ofString "Grid.__init__") 388, Value.str (Str.ofString "/claim/cut.py") 389, Value.int 56 0, Value.int 2 0, Value.int 0 0, Value.int 0 0, Value.int 3 0, Value.ref 148, Value.bool true, Value.int 181 0, Value.ref 149, Value.none, Value.none, Value.none, Value.ref 150, Value.int 390 0, Value.int 56 0, Value.str (Str.ofString "/claim/cut.py") 391] }) :: (nat_lit 152, { cls := Value.type "function", data := Data.func { name := Str.ofString "__init__", qualname := Str.ofString "Grid.__init__", params := a11, body := FuncBody.stmts b11, scope := s11, globals := 3, closure := [], defaults := Value.none, kwdefaults := Value.none, pyModule := Value.str (Str.ofString "pixelpress.grid") 373, code := Value.ref 151 } }) :: (nat_lit 153, { cls := Value.type "tuple", data := Data.seq #[] }) :: (nat_lit 155, { cls := Value.type "tuple", data := Data.seq #[Value.str (Str.ofString "self") 396, Value.str (Str.ofString "place") 397, Value.str (Str.ofString "x") 398, Value.str (Str.ofString "y") 399, Value.str (Str.ofString "row") 400] }) :: (nat_lit 156, { cls := Value.type "tuple", data := Data.seq #[] }) :: (nat_lit 158, { cls := Value.type "code", data := Data.fields #[Value.str (Str.ofString "get") 393, Value.str (Str.ofString "Grid.get") 394, Value.str (Str.ofString "/claim/cut.py") 395, Value.int 63 0, Value.int 4 0, Value.int 0 0, Value.int 0 0, Value.int 3 0, Value.ref 153, Value.bool true, Value.int 181 0, Value.ref 154, Value.none, Value.ref 155, Value.ref 156, Value.ref 157, Value.int 401 0, Value.int 63 0, Value.str (Str.ofString "/claim/cut.py") 402] }) :: (nat_lit 159, { cls := Value.type "function", data := Data.func { name := Str.ofString "get", qualname := Str.ofString "Grid.get", params := a12, body := FuncBody.stmts b12, scope := s12, globals := 3, closure := [], defaults := Value.none, kwdefaults := Value.none, pyModule := Value.str (Str.ofString "pixelpress.grid") 373, code := Value.ref 158 } }) :: (nat_lit 160, { cls := Value.type "tuple", data := Data.seq #[] }) :: (nat_lit 162, { cls := Value.type "tuple", data := Data.seq #[Value.str (Str.ofString "self") 407, Value.str (Str.ofString "place") 408, Value.str (Str.ofString "x") 409, Value.str (Str.ofString "y") 410, Value.str (Str.ofString "row") 411] }) :: (nat_lit 163, { cls := Value.type "tuple", data := Data.seq #[] }) :: (nat_lit 165, { cls := Value.type "code", data := Data.fields #[Value.str (Str.ofString "put") 404, Value.str (Str.ofString "Grid.put") 405, Value.str (Str.ofString "/claim/cut.py") 406, Value.int 67 0, Value.int 5 0, Value.int 0 0, Value.int 0 0, Value.int 3 0, Value.ref 160, Value.bool true, Value.int 181 0, Value.ref 161, Value.none, Value.ref 162, Value.ref 163, Value.ref 164, Value.int 412 0, Value.int 67 0, Value.str (Str.ofString "/claim/cut.py") 413] }) :: (nat_lit 166, { cls := Value.type "function", data := Data.func { name := Str.ofString "put", qualname := Str.ofString "Grid.put", params := a13, body := FuncBody.stmts b13, scope := s13, globals := 3, closure := [], defaults := Value.none, kwdefaults := Value.none, pyModule := Value.str (Str.ofString "pixelpress.grid") 373, code := Value.ref 165 } }) :: (nat_lit 167, { cls := Value.type "tuple", data := Data.seq #[Value.str (Str.ofString "many") 415, Value.str (Str.ofString "planes") 416] }) :: (nat_lit 168, { cls := Value.type "dict", data := Data.dict #[{ hash := PyData.keyHash P (Str.ofString "__module__"), key := Value.str (Str.ofString "__module__") 382, val := Value.str (Str.ofString "pixelpress.grid") 373 }, { hash := PyData.keyHash P (Str.ofString "__firstlineno__"), key := Value.str (Str.ofString "__firstlineno__") 386, val := Value.int 54 385 }, { hash := PyData.keyHash P (Str.ofString "__init__"), key := Value.str (Str.ofString "__init__") 392, val := Value.ref 152 }, { hash := PyData.keyHash P (Str.ofString "get"), key := Value.str (Str.ofString "get") 403, val := Value.ref 159 }, { hash := PyData.keyHash P (Str.ofString "put"), key := Value.str (Str.ofString "put") 414, val := Value.ref 166 }, { hash := PyData.keyHash P (Str.ofString "__static_attributes__"), key := Value.str (Str.ofString "__static_attributes__") 417, val := Value.ref 167 }, { hash := PyData.keyHash P (Str.ofString "__dict__"), key := Value.str (Str.ofString "__dict__") 419, val := Value.ref 170 }, { hash := PyData.keyHash P (Str.ofString "__weakref__"), key := Value.str (Str.ofString "__weakref__") 421, val := Value.ref 171 }, { hash := PyData.keyHash P (Str.ofString "__doc__"), key := Value.str (Str.ofString "__doc__") 422, val := Value.none }] 4 }) :: (nat_lit 169, { cls := Value.type "type", data := Data.cls { name := Str.ofString "Grid", bases := [Value.type "object"], mro := [Value.ref 169, Value.type "object"], ns := 168, qualname := Str.ofString "Grid" }, slots := #[none, none, some (Value.str (Str.ofString "Grid") 375), some (Value.str (Str.ofString "Grid") 383), some (Value.builtin "object.__new__"), some (Value.bool true)] }) :: (nat_lit 170, { cls := Value.type "getset_descriptor", data := Data.fields #[Value.str (Str.ofString "__dict__") 418, Value.ref 169, Value.builtin "function.__dict__", Value.builtin "function.__dict__#set"] }) :: (nat_lit 171, { cls := Value.type "getset_descriptor", data := Data.fields #[Value.str (Str.ofString "__weakref__") 420, Value.ref 169, Value.builtin "ExceptionGroup.__weakref__", Value.none] }) :: (nat_lit 174, { cls := Value.type "tuple", data := Data.seq #[] }) :: (nat_lit 176, { cls := Value.type "tuple", data := Data.seq #[Value.str (Str.ofString "frame") 430] }) :: (nat_lit 177, { cls := Value.type "tuple", data := Data.seq #[] }) :: (nat_lit 179, { cls := Value.type "code", data := Data.fields #[Value.str (Str.ofString "unit_size") 427, Value.str (Str.ofString "unit_size") 428, Value.str (Str.ofString "/claim/cut.py") 429, Value.int 70 0, Value.int 1 0, Value.int 0 0, Value.int 0 0, Value.int 3 0, Value.ref 174, Value.bool true, Value.int 181 0, Value.ref 175, Value.none, Value.ref 176, Value.ref 177, Value.ref 178, Value.int 431 0, Value.int 70 0, Value.str (Str.ofString "/claim/cut.py") 432] }) :: (nat_lit 180, { cls := Value.type "function", data := Data.func { name := Str.ofString "unit_size", qualname := Str.ofString "unit_size", params := a14, body := FuncBody.stmts b14, scope := s14, globals := 3, closure := [], defaults := Value.none, kwdefaults := Value.none, pyModule := Value.str (Str.ofString "pixelpress.turning") 425, code := Value.ref 179 } }) :: (nat_lit 181, { cls := Value.type "tuple", data := Data.seq #[] }) :: (nat_lit 183, { cls := Value.type "tuple", data := Data.seq #[Value.str (Str.ofString "frame") 439, Value.str (Str.ofString "found") 440, Value.str (Str.ofString "component") 441] }) :: (nat_lit 184, { cls := Value.type "tuple", data := Data.seq #[] }) :: (nat_lit 186, { cls := Value.type "code", data := Data.fields #[Value.str (Str.ofString "copied_components") 436, Value.str (Str.ofString "copied_components") 437, Value.str (Str.ofString "/claim/cut.py") 438, Value.int 73 0, Value.int 1 0, Value.int 0 0, Value.int 0 0, Value.int 3 0, Value.ref 181, Value.bool true, Value.int 181 0, Value.ref 182, Value.none, Value.ref 183, Value.ref 184, Value.ref 185, Value.int 442 0, Value.int 73 0, Value.str (Str.ofString "/claim/cut.py") 443] }) :: (nat_lit 187, { cls := Value.type "function", data := Data.func { name := Str.ofString "copied_components", qualname := Str.ofString "copied_components", params := a15, body := FuncBody.stmts b15, scope := s15, globals := 3, closure := [], defaults := Value.none, kwdefaults := Value.none, pyModule := Value.str (Str.ofString "pixelpress.cropping") 434, code := Value.ref 186 } }) :: (nat_lit 188, { cls := Value.type "tuple", data := Data.seq #[] }) :: (nat_lit 190, { cls := Value.type "tuple", data := Data.seq #[Value.str (Str.ofString "frame") 448, Value.str (Str.ofString "x") 449, Value.str (Str.ofString "y") 450, Value.str (Str.ofString "across") 451, Value.str (Str.ofString "down") 452, Value.str (Str.ofString "wide") 453, Value.str (Str.ofString "high") 454, Value.str (Str.ofString "width") 455, Value.str (Str.ofString "height") 456] }) :: (nat_lit 191, { cls := Value.type "tuple", data := Data.seq #[] }) :: (nat_lit 193, { cls := Value.type "code", data := Data.fields #[Value.str (Str.ofString "cropped_frame") 445, Value.str (Str.ofString "cropped_frame") 446, Value.str (Str.ofString "/claim/cut.py") 447, Value.int 78 0, Value.int 5 0, Value.int 0 0, Value.int 0 0, Value.int 3 0, Value.ref 188, Value.bool true, Value.int 181 0, Value.ref 189, Value.none, Value.ref 190, Value.ref 191, Value.ref 192, Value.int 457 0, Value.int 78 0, Value.str (Str.ofString "/claim/cut.py") 458] }) :: (nat_lit 194, { cls := Value.type "function", data := Data.func { name := Str.ofString "cropped_frame", qualname := Str.ofString "cropped_frame", params := a16, body := FuncBody.stmts b16, scope := s16, globals := 3, closure := [], defaults := Value.none, kwdefaults := Value.none, pyModule := Value.str (Str.ofString "pixelpress.cropping") 434, code := Value.ref 193 } }) :: (nat_lit 195, { cls := Value.type "tuple", data := Data.seq #[] }) :: (nat_lit 197, { cls := Value.type "tuple", data := Data.seq #[Value.str (Str.ofString "grid") 463, Value.str (Str.ofString "frame") 464, Value.str (Str.ofString "x") 465, Value.str (Str.ofString "y") 466, Value.str (Str.ofString "across") 467, Value.str (Str.ofString "down") 468, Value.str (Str.ofString "later") 469, Value.str (Str.ofString "found") 470, Value.str (Str.ofString "place") 471, Value.str (Str.ofString "component") 472, Value.str (Str.ofString "left") 473, Value.str (Str.ofString "top") 474, Value.str (Str.ofString "wide") 475, Value.str (Str.ofString "high") 476, Value.str (Str.ofString "row") 477, Value.str (Str.ofString "column") 478] }) :: (nat_lit 198, { cls := Value.type "tuple", data := Data.seq #[] }) :: (nat_lit 200, { cls := Value.type "code", data := Data.fields #[Value.str (Str.ofString "cropped_grid") 460, Value.str (Str.ofString "cropped_grid") 461, Value.str (Str.ofString "/claim/cut.py") 462, Value.int 85 0, Value.int 6 0, Value.int 0 0, Value.int 0 0, Value.int 3 0, Value.ref 195, Value.bool true, Value.int 181 0, Value.ref 196, Value.none, Value.ref 197, Value.ref 198, Value.ref 199, Value.int 479 0, Value.int 85 0, Value.str (Str.ofString "/claim/cut.py") 480] }) :: (nat_lit 201, { cls := Value.type "function", data := Data.func { name := Str.ofString "cropped_grid", qualname := Str.ofString "cropped_grid", params := a17, body := FuncBody.stmts b17, scope := s17, globals := 3, closure := [], defaults := Value.none, kwdefaults := Value.none, pyModule := Value.str (Str.ofString "pixelpress.cropping") 434, code := Value.ref 200 } }) :: (nat_lit 202, { cls := Value.type "tuple", data := Data.seq #[] }) :: (nat_lit 204, { cls := Value.type "tuple", data := Data.seq #[Value.str (Str.ofString "script") 487, Value.str (Str.ofString "cell") 488, Value.str (Str.ofString "size") 489] }) :: (nat_lit 205, { cls := Value.type "tuple", data := Data.seq #[] }) :: (nat_lit 207, { cls := Value.type "code", data := Data.fields #[Value.str (Str.ofString "_law_urn") 484, Value.str (Str.ofString "_law_urn") 485, Value.str (Str.ofString "/claim/cut.py") 486, Value.int 97 0, Value.int 1 0, Value.int 0 0, Value.int 0 0, Value.int 3 0, Value.ref 202, Value.bool true, Value.int 181 0, Value.ref 203, Value.none, Value.ref 204, Value.ref 205, Value.ref 206, Value.int 490 0, Value.int 97 0, Value.str (Str.ofString "/claim/cut.py") 491] }) :: (nat_lit 208, { cls := Value.type "function", data := Data.func { name := Str.ofString "_law_urn", qualname := Str.ofString "_law_urn", params := a18, body := FuncBody.stmts b18, scope := s18, globals := 3, closure := [], defaults := Value.none, kwdefaults := Value.none, pyModule := Value.str (Str.ofString "law_pf0232_01") 482, code := Value.ref 207 } }) :: (nat_lit 209, { cls := Value.type "tuple", data := Data.seq #[] }) :: (nat_lit 211, { cls := Value.type "tuple", data := Data.seq #[Value.str (Str.ofString "urn") 496, Value.str (Str.ofString "many") 497, Value.str (Str.ofString "got") 498] }) :: (nat_lit 212, { cls := Value.type "tuple", data := Data.seq #[] }) :: (nat_lit 214, { cls := Value.type "code", data := Data.fields #[Value.str (Str.ofString "_law_from") 493, Value.str (Str.ofString "_law_from") 494, Value.str (Str.ofString "/claim/cut.py") 495, Value.int 101 0, Value.int 2 0, Value.int 0 0, Value.int 0 0, Value.int 3 0, Value.ref 209, Value.bool true, Value.int 181 0, Value.ref 210, Value.none, Value.ref 211, Value.ref 212, Value.ref 213, Value.int 499 0, Value.int 101 0, Value.str (Str.ofString "/claim/cut.py") 500] }) :: (nat_lit 215, { cls := Value.type "function", data := Data.func { name := Str.ofString "_law_from", qualname := Str.ofString "_law_from", params := a19, body := FuncBody.stmts b19, scope := s19, globals := 3, closure := [], defaults := Value.none, kwdefaults := Value.none, pyModule := Value.str (Str.ofString "law_pf0232_01") 482, code := Value.ref 214 } }) :: (nat_lit 216, { cls := Value.type "tuple", data := Data.seq #[] }) :: (nat_lit 218, { cls := Value.type "tuple", data := Data.seq #[Value.str (Str.ofString "urn") 505, Value.str (Str.ofString "wide") 506, Value.str (Str.ofString "high") 507, Value.str (Str.ofString "members") 508, Value.str (Str.ofString "place") 509, Value.str (Str.ofString "n") 510] }) :: (nat_lit 219, { cls := Value.type "tuple", data := Data.seq #[] }) :: (nat_lit 221, { cls := Value.type "code", data := Data.fields #[Value.str (Str.ofString "_law_frame") 502, Value.str (Str.ofString "_law_frame") 503, Value.str (Str.ofString "/claim/cut.py") 504, Value.int 108 0, Value.int 3 0, Value.int 0 0, Value.int 0 0, Value.int 3 0, Value.ref 216, Value.bool true, Value.int 181 0, Value.ref 217, Value.none, Value.ref 218, Value.ref 219, Value.ref 220, Value.int 511 0, Value.int 108 0, Value.str (Str.ofString "/claim/cut.py") 512] }) :: (nat_lit 222, { cls := Value.type "function", data := Data.func { name := Str.ofString "_law_frame", qualname := Str.ofString "_law_frame", params := a20, body := FuncBody.stmts b20, scope := s20, globals := 3, closure := [], defaults := Value.none, kwdefaults := Value.none, pyModule := Value.str (Str.ofString "law_pf0232_01") 482, code := Value.ref 221 } }) :: (nat_lit 223, { cls := Value.type "tuple", data := Data.seq #[] }) :: (nat_lit 225, { cls := Value.type "tuple", data := Data.seq #[Value.str (Str.ofString "urn") 517, Value.str (Str.ofString "frame") 518, Value.str (Str.ofString "grid") 519, Value.str (Str.ofString "place") 520, Value.str (Str.ofString "across") 521, Value.str (Str.ofString "down") 522, Value.str (Str.ofString "spot") 523] }) :: (nat_lit 226, { cls := Value.type "tuple", data := Data.seq #[] }) :: (nat_lit 228, { cls := Value.type "code", data := Data.fields #[Value.str (Str.ofString "_law_filled") 514, Value.str (Str.ofString "_law_filled") 515, Value.str (Str.ofString "/claim/cut.py") 516, Value.int 114 0, Value.int 2 0, Value.int 0 0, Value.int 0 0, Value.int 3 0, Value.ref 223, Value.bool true, Value.int 181 0, Value.ref 224, Value.none, Value.ref 225, Value.ref 226, Value.ref 227, Value.int 524 0, Value.int 114 0, Value.str (Str.ofString "/claim/cut.py") 525] }) :: (nat_lit 229, { cls := Value.type "function", data := Data.func { name := Str.ofString "_law_filled", qualname := Str.ofString "_law_filled", params := a21, body := FuncBody.stmts b21, scope := s21, globals := 3, closure := [], defaults := Value.none, kwdefaults := Value.none, pyModule := Value.str (Str.ofString "law_pf0232_01") 482, code := Value.ref 228 } }) :: (nat_lit 230, { cls := Value.type "tuple", data := Data.seq #[] }) :: (nat_lit 233, { cls := Value.type "code", data := Data.fields #[Value.str (Str.ofString "_law_all") 527, Value.str (Str.ofString "_law_all") 528, Value.str (Str.ofString "/claim/cut.py") 529, Value.int 122 0, Value.int 2 0, Value.int 0 0, Value.int 0 0, Value.int 3 0, Value.ref 230, Value.bool true, Value.int 181 0, Value.ref 231, Value.none, Value.none, Value.none, Value.ref 232, Value.int 530 0, Value.int 122 0, Value.str (Str.ofString "/claim/cut.py") 531] }) :: (nat_lit 234, { cls := Value.type "function", data := Data.func { name := Str.ofString "_law_all", qualname := Str.ofString "_law_all", params := a22, body := FuncBody.stmts b22, scope := s22, globals := 3, closure := [], defaults := Value.none, kwdefaults := Value.none, pyModule := Value.str (Str.ofString "law_pf0232_01") 482, code := Value.ref 233 } }) :: (nat_lit 235, { cls := Value.type "tuple", data := Data.seq #[] }) :: (nat_lit 237, { cls := Value.type "tuple", data := Data.seq #[Value.str (Str.ofString "frame") 536, Value.str (Str.ofString "grid") 537, Value.str (Str.ofString "later") 538, Value.str (Str.ofString "found") 539, Value.str (Str.ofString "x") 540, Value.str (Str.ofString "y") 541, Value.str (Str.ofString "place") 542, Value.str (Str.ofString "across") 543, Value.str (Str.ofString "down") 544, Value.str (Str.ofString "one") 545, Value.str (Str.ofString "spot") 546, Value.str (Str.ofString "own") 547, Value.str (Str.ofString "due") 548] }) :: (nat_lit 238, { cls := Value.type "tuple", data := Data.seq #[] }) :: (nat_lit 240, { cls := Value.type "code", data := Data.fields #[Value.str (Str.ofString "_law_part_right") 533, Value.str (Str.ofString "_law_part_right") 534, Value.str (Str.ofString "/claim/cut.py") 535, Value.int 126 0, Value.int 6 0, Value.int 0 0, Value.int 0 0, Value.int 3 0, Value.ref 235, Value.bool true, Value.int 181 0, Value.ref 236, Value.none, Value.ref 237, Value.ref 238, Value.ref 239, Value.int 549 0, Value.int 126 0, Value.str (Str.ofString "/claim/cut.py") 550] }) :: (nat_lit 241, { cls := Value.type "function", data := Data.func { name := Str.ofString "_law_part_right", qualname := Str.ofString "_law_part_right", params := a23, body := FuncBody.stmts b23, scope := s23, globals := 3, closure := [], defaults := Value.none, kwdefaults := Value.none, pyModule := Value.str (Str.ofString "law_pf0232_01") 482, code := Value.ref 240 } }) :: (nat_lit 242, { cls := Value.type "tuple", data := Data.seq #[] }) :: (nat_lit 245, { cls := Value.type "code", data := Data.fields #[Value.str (Str.ofString "law") 552, Value.str (Str.ofString "law") 553, Value.str (Str.ofString "/claim/cut.py") 554, Value.int 136 0, Value.int 1 0, Value.int 0 0, Value.int 0 0, Value.int 3 0, Value.ref 242, Value.bool true, Value.int 181 0, Value.ref 243, Value.none, Value.none, Value.none, Value.ref 244, Value.int 555 0, Value.int 136 0, Value.str (Str.ofString "/claim/cut.py") 556] }) :: (nat_lit 246, { cls := Value.type "function", data := Data.func { name := Str.ofString "law", qualname := Str.ofString "law", params := a24, body := FuncBody.stmts b24, scope := s24, globals := 3, closure := [], defaults := Value.none, kwdefaults := Value.none, pyModule := Value.str (Str.ofString "law_pf0232_01") 482, code := Value.ref 245 } }) :: [] : Frag)) ⟨_, _, _, _, _, _, _⟩ (_ :: _) (.mk _ _ _ _ _) ⟨_, _, _, _, _, _, _⟩ (_ :: _) (.mk _ _ _ _ _) ⟨_, _, _, _, _, _, _⟩ (_ :: _) (.mk _ _ _ _ _) ⟨_, _, _, _, _, _, _⟩ (_ :: _) (.mk _ _ _ _ _) ⟨_, _, _, _, _, _, _⟩ (_ :: _) (.mk _ _ _ _ _) ⟨_, _, _, _, _, _, _⟩ (_ :: _) (.mk _ _ _ _ _) ⟨_, _, _, _, _, _, _⟩ (_ :: _) (.mk _ _ _ _ _) ⟨_, _, _, _, _, _, _⟩ (_ :: _) (.mk _ _ _ _ _) ⟨_, _, _, _, _, _, _⟩ (_ :: _) (.mk _ _ _ _ _) ⟨_, _, _, _, _, _, _⟩ (_ :: _) (.mk _ _ _ _ _) ⟨_, _, _, _, _, _, _⟩ (_ :: _) (.mk _ _ _ _ _) ⟨_, _, _, _, _, _, _⟩ (_ :: _) (.mk _ _ _ _ _) ⟨_, _, _, _, _, _, _⟩ (_ :: _) (.mk _ _ _ _ _) ⟨_, _, _, _, _, _, _⟩ (_ :: _) (.mk _ _ _ _ _) ⟨_, _, _, _, _, _, _⟩ (_ :: _) (.mk _ _ _ _ _) ⟨_, _, _, _, _, _, _⟩ (_ :: _) (.mk _ _ _ _ _) ⟨_, _, _, _, _, _, _⟩ (_ :: _) (.mk _ _ _ _ _) ⟨_, _, _, _, _, _, _⟩ (_ :: _) (.mk _ _ _ _ _) ⟨_, _, _, _, _, _, _⟩ (_ :: _) (.mk _ _ _ _ _) ⟨_, _, _, _, _, _, _⟩ (_ :: _) (.mk _ _ _ _ _) ⟨_, _, _, _, _, _, _⟩ (_ :: _) (.mk _ _ _ _ _) ⟨_, _, _, _, _, _, _⟩ (_ :: _) (.mk _ _ _ _ _) ⟨_, _, _, _, _, _, _⟩ (_ :: _) (.mk _ _ _ _ _) ⟨_, _, _, _, _, _, _⟩ (_ :: _) (.mk _ _ _ _ _) ⟨_, _, _, _, _, _, _⟩ (_ :: _) (.mk _ _ _ _ _) rfl rfl rfl rfl rfl rfl rfl rfl rfl rfl rfl rfl rfl rfl rfl rfl rfl rfl rfl rfl rfl rfl rfl rfl rfl rfl rfl rfl rfl rfl rfl rfl rfl rfl rfl rfl rfl rfl rfl rfl rfl rfl rfl rfl rfl rfl rfl rfl rfl rfl rfl rfl rfl rfl rfl rfl rfl rfl rfl rfl rfl rfl rfl rfl rfl rfl rfl rfl rfl rfl rfl rfl rfl rfl rfl
noncomputable def hd.view_39 : Program := { PySem.Challenge.pw_pf0232_01 with main := { PySem.Challenge.pw_pf0232_01.main with body := PySem.Challenge.pw_pf0232_01.main.body.filter (fun | .Assign .. => false | _ => true) } }
noncomputable def hd.written : List Addr := [2, 3, 15, 22, 24, 25, 27, 28, 29, 30, 31, 32, 35, 42, 43, 44, 47, 49, 50, 52, 53, 61, 63, 64, 66, 67, 68, 69, 70, 71, 72, 82, 84, 85, 87, 88, 89, 92, 93, 94, 97, 98, 99, 101, 102, 104, 105, 106, 108, 109, 111, 112, 113, 115, 116, 118, 119, 120, 122, 123, 125, 126, 127, 129, 130, 132, 133, 134, 135, 136, 137, 138, 148, 151, 152, 153, 155, 156, 158, 159, 160, 162, 163, 165, 166, 167, 168, 169, 170, 171, 174, 176, 177, 179, 180, 181, 183, 184, 186, 187, 188, 190, 191, 193, 194, 195, 197, 198, 200, 201, 202, 204, 205, 207, 208, 209, 211, 212, 214, 215, 216, 218, 219, 221, 222, 223, 225, 226, 228, 229, 230, 233, 234, 235, 237, 238, 240, 241, 242, 245, 246]

theorem flush00head {prog : Program} {w : World} {A : Around} {E : Value → Shared → Prop} {s : Shared} {env : Env} {Q : Flow → Shared → Prop} (h : wpAny (model prog w) A (execs [] env) Q E s) : wpAny (model prog w) A (execs [] env) Q E s := by
  w_top off
  (try (walk1; fail))
  exact h
/-- what the head says of the program's top, checked ahead of all else: the check is large -/
theorem hk9 : ∀ P, hd.written = (hd.heap_39 P).map (·.1) := fun _ => by kernel_rfl
theorem hl9 : LeftO PySem.Challenge.rw_pf0232_01.row.prog hd.view_39 [] (fun s => xlAt hd.view_39 [] s && recOk (RowW.records PySem.Challenge.rw_pf0232_01.row.toRowW) s) (Hook.obs (kHook hd.heap_39 hd.written hk9)) (Hook.val (kHook hd.heap_39 hd.written hk9)) 3842 := fun w => by kernel_rfl
theorem hw9 : PySem.Challenge.rw_pf0232_01.row.promised := by w_witness2
/-- the law's head: the walk alone is left -/
theorem top9 {d : DefRec} {kwd : List (Str × PySem.Expr)} (h1 : defOf hd.view_39 PySem.Challenge.rw_pf0232_01.row.name = some (d, kwd)) (h2 : PySem.Challenge.rw_pf0232_01.row.prog.theDef PySem.Challenge.rw_pf0232_01.row.name = some (d.params, d.body, d.scope)) (h3 : kwWritten? d.params.kwonlyargs d.params.kw_defaults = some kwd)
    (call : WalkO hd.view_39 [] (XL hd.view_39 []) (Hook.says (kHook hd.heap_39 hd.written hk9)) PySem.Challenge.rw_pf0232_01.row.toRowW d kwd fun f vs => PySem.call f vs) : PySem.Challenge.rw_pf0232_01.Holds := by
  o_law
  exact holds_open (XP := XL hd.view_39 []) (YP := Hook.says (kHook hd.heap_39 hd.written hk9)) hl9 (Hook.of (kHook hd.heap_39 hd.written hk9)) (Hook.keeps (kHook hd.heap_39 hd.written hk9)) (fun s e => xl_of s (Bool.and_eq_true_iff.mp e).1) XL.keeps h1 h2 h3 (fun s e => recFacts_of (Bool.and_eq_true_iff.mp e).2) (by rfl) (by first | assumption | decide +kernel) (by decide +kernel) ⟨rfl, rfl, rfl, rfl, rfl, by decide +kernel⟩ hw9 call

theorem flush01top {prog : Program} {w : World} {A : Around} {E : Value → Shared → Prop} {s : Shared} {env : Env} {Q : Flow → Shared → Prop} (h : wpAny (model prog w) A (execs [] env) Q E s) : wpAny (model prog w) A (execs [] env) Q E s := by
  w_top off
  (try (walk1; fail))
  exact h
abbrev Led := List (Addr × Obj)
abbrev Con (w : World) (mean : ExcName → Option Value) (mg mb : Str → Option Value) (f : Addr) (vs : List Value) (news : Led) (P : Led → Value → Prop) (dn un : Nat) : Prop :=
  ∀ (dp un' : Nat) (gd : Option (List Code)) (cn : Str) (cs : Scope) (a : Addr) (ccd : Value) (cl : List (Str × Addr)) (outer : List Env) (A₀ : Around) (base h₀ : Heap) (L : Addr) (m : Str → Option Value) (s : Shared) (Q E : Value → Shared → Prop),
    Below A₀ base outer h₀ → Fr h₀ L s.heap m → (hd.heap_39 w.params).In h₀ → News h₀ L s.heap news → Top hd.view_39 (looseW hd.view_39 []) mean mg mb h₀ → cs.kind = .function →
    dp + dn < recursionLimit → un' + un < cLine →
    (∀ r news' h' tk', Fr h₀ L h' m → News h₀ L h' news' → P news' r → Q r { s with heap := h', toks := tk' }) →
    wpAny (model PySem.Challenge.rw_pf0232_01.row.prog w) (ktrTop dp un' gd cn cs L a ccd cl outer) (call (.ref f) vs) Q E s

theorem Con.use {w : World} {mean : ExcName → Option Value} {mg mb : Str → Option Value} {f : Addr} {vs : List Value} {news : Led} {P : Led → Value → Prop} {dn un : Nat} (C : Con w mean mg mb f vs news P dn un)
    {dp un' : Nat} {gd : Option (List Code)} {cn : Str} {cs : Scope} {a : Addr} {ccd : Value} {cl : List (Str × Addr)} {outer : List Env} {A₀ : Around} {base h₀ : Heap} {L : Addr} {m : Str → Option Value} {s : Shared} {Q E : Value → Shared → Prop}
    (B : Below A₀ base outer h₀) (F : Fr h₀ L s.heap m) (X : (hd.heap_39 w.params).In h₀) (N : News h₀ L s.heap news) (T : Top hd.view_39 (looseW hd.view_39 []) mean mg mb h₀) (hk : cs.kind = .function)
    (hd : dp + dn < recursionLimit) (hu : un' + un < cLine)
    (ret : ∀ r news' h' tk', Fr h₀ L h' m → News h₀ L h' news' → P news' r → Q r { s with heap := h', toks := tk' }) :
    wpAny (model PySem.Challenge.rw_pf0232_01.row.prog w) (ktrTop dp un' gd cn cs L a ccd cl outer) (call (.ref f) vs) Q E s := C _ _ _ _ _ _ _ _ _ _ _ _ _ _ _ _ _ B F X N T hk hd hu ret

def repl (u : Addr) (o : Obj) (news : Led) : Led := news.map fun p => if p.1 = u then (u, o) else p
theorem repl_nil {u : Addr} {o : Obj} : repl u o [] = [] := rfl
theorem repl_ne {u a : Addr} {o x : Obj} {r : Led} (h : a ≠ u) : repl u o ((a, x) :: r) = (a, x) :: repl u o r := by simp [repl, h]
theorem repl_eq {u : Addr} {o x : Obj} {r : Led} : repl u o ((u, x) :: r) = (u, o) :: repl u o r := by simp [repl]
theorem repl_off {u : Addr} {o : Obj} {r : Led} (h : ∀ p ∈ r, p.1 ≠ u) : repl u o r = r := by
  unfold repl
  conv => rhs; rw [← List.map_id r]
  exact List.map_congr_left fun p hp => by simp [h p hp]
theorem repl_fst {u : Addr} {o : Obj} {r : Led} : (repl u o r).map (·.1) = r.map (·.1) := by
  unfold repl; rw [List.map_map]
  refine List.map_congr_left fun p _ => ?_
  simp only [Function.comp]
  split <;> simp_all
theorem mem_repl {u : Addr} {o : Obj} {r : Led} {p : Addr × Obj} (hp : p ∈ r) (h : p.1 ≠ u) : p ∈ repl u o r :=
  List.mem_map.mpr ⟨p, hp, by simp [h]⟩
theorem mem_repl_self {u : Addr} {o x : Obj} {r : Led} (hp : (u, x) ∈ r) : (u, o) ∈ repl u o r :=
  List.mem_map.mpr ⟨_, hp, by simp⟩

/-- the ledger's other entries -/
def drop (u : Addr) (r : Led) : Led := r.filter fun p => decide (p.1 ≠ u)
theorem drop_off {u : Addr} {r : Led} : ∀ p ∈ drop u r, p.1 ≠ u := fun p hp => by
  have := (List.mem_filter.mp hp).2; simpa using this
theorem mem_drop {u : Addr} {r : Led} {p : Addr × Obj} (hp : p ∈ r) (h : p.1 ≠ u) : p ∈ drop u r := List.mem_filter.mpr ⟨hp, by simpa using h⟩
theorem drop_sub {u : Addr} {r : Led} {p : Addr × Obj} (hp : p ∈ drop u r) : p ∈ r := (List.mem_filter.mp hp).1

theorem News.sub {h₀ h : Heap} {L : Addr} {news news' : Led} (N : News h₀ L h news') (hs : ∀ p ∈ news, p ∈ news') : News h₀ L h news := fun p hp => N p (hs p hp)
theorem News.take {h₀ h : Heap} {L u : Addr} {o : Obj} {news : Led} (N : News h₀ L h news) (hm : (u, o) ∈ news) : News h₀ L h ((u, o) :: drop u news) :=
  fun p hp => by
    rcases List.mem_cons.mp hp with rfl | hp
    · exact N _ hm
    · exact N _ (drop_sub hp)
theorem News.back {h₀ h : Heap} {L u : Addr} {o : Obj} {news : Led} (N : News h₀ L h ((u, o) :: drop u news)) : News h₀ L h (repl u o news) :=
  fun p hp => by
    obtain ⟨q, hq, rfl⟩ := List.mem_map.mp hp
    by_cases e : q.1 = u
    · simp only [e, if_true]; exact N _ (.head _)
    · simp only [e, if_false]; exact N _ (.tail _ (mem_drop hq e))

theorem ne_of_allLt {a : Addr} {r : Led} (h : AllLt a r) : ∀ p ∈ r, p.1 ≠ a := fun p hp => Nat.ne_of_lt (by
  induction r with
  | nil => cases hp
  | cons q r ih =>
    rcases List.mem_cons.mp hp with rfl | hp
    · exact h.1
    · exact ih h.2 hp)
theorem ne_add {a k : Nat} {r : Led} (h : AllLt a r) : ∀ p ∈ r, p.1 ≠ a + k := fun p hp e => by
  have : p.1 < a := by
    induction r with
    | nil => cases hp
    | cons q r ih =>
      rcases List.mem_cons.mp hp with rfl | hp
      · exact h.1
      · exact ih h.2 hp
  exact (fun (x : Nat) (h1 : x < a) (h2 : x = a + k) => by omega) p.1 this e
theorem ne_of_lt {a : Nat} {r : Led} (h : ∀ p ∈ r, p.1 < a) : ∀ p ∈ r, p.1 ≠ a := fun p hp => Nat.ne_of_lt (h p hp)
theorem off1_of {I : Addr} : ∀ {l : Led}, (∀ p ∈ l, p.1 ≠ I) → LCg.Off1 I l
  | [], _ => trivial
  | _ :: _, h => ⟨h _ (.head _), off1_of fun p hp => h p (.tail _ hp)⟩
theorem of_off1 {I : Addr} : ∀ {l : Led}, LCg.Off1 I l → ∀ p ∈ l, p.1 ≠ I
  | [], _, _, hp => nomatch hp
  | _ :: _, h, p, hp => by
    rcases List.mem_cons.mp hp with rfl | hp
    · exact h.1
    · exact of_off1 h.2 p hp
theorem lt_allLt {a : Addr} {r : Led} (h : AllLt a r) : ∀ p ∈ r, p.1 < a := fun p hp => by
  induction r with
  | nil => cases hp
  | cons q r ih =>
    rcases List.mem_cons.mp hp with rfl | hp
    · exact h.1
    · exact ih h.2 hp
theorem lt_of_allLt {a : Addr} {r : Led} (h : AllLt a r) {b : Addr} {o : Obj} (hm : (b, o) ∈ r) : b ≠ a := ne_of_allLt h _ hm
theorem repl_off_all {I u : Addr} {o : Obj} {r : Led} (h : ∀ p ∈ r, p.1 ≠ I) : ∀ p ∈ repl u o r, p.1 ≠ I := fun p hp => by
  obtain ⟨q, hq, rfl⟩ := List.mem_map.mp hp
  by_cases e : q.1 = u
  · simp only [e, if_true]; exact e ▸ h q hq
  · simp only [e, if_false]; exact h q hq
/-- a goal made small while hypotheses are taken apart -/
theorem hush {G : Prop} (h : ∀ G' : Prop, (G → G') → G') : G := h G id
/-- what a walk is to show, made small -/
theorem hushQ {M : Model} {A : Around} {E : Value → Shared → Prop} {s : Shared} {t : Sem Flow} {Q : Flow → Shared → Prop} (h : ∀ Q' : Flow → Shared → Prop, (∀ f s', Q f s' → Q' f s') → wpAny M A t Q' E s) : wpAny M A t Q E s := h Q fun _ _ x => x
theorem wat (f : Addr) {M : Model} {A : Around} {vs : List Value} {Q E : Value → Shared → Prop} {s : Shared} (h : wpAny M A (call (.ref f) vs) Q E s) : wpAny M A (call (.ref f) vs) Q E s := h
/-- a call that gives back a number and leaves the ledger -/
theorem Con.useI {w : World} {mean : ExcName → Option Value} {mg mb : Str → Option Value} {f : Addr} {vs : List Value} {news : Led} {dn un : Nat} {V : Int} (C : Con w mean mg mb f vs news (fun news' r => news' = news ∧ ∃ t, r = .int V t) dn un)
    {dp un' : Nat} {gd : Option (List Code)} {cn : Str} {cs : Scope} {a : Addr} {ccd : Value} {cl : List (Str × Addr)} {outer : List Env} {A₀ : Around} {base h₀ : Heap} {L : Addr} {m : Str → Option Value} {s : Shared} {Q E : Value → Shared → Prop}
    (B : Below A₀ base outer h₀) (F : Fr h₀ L s.heap m) (X : (hd.heap_39 w.params).In h₀) (N : News h₀ L s.heap news) (T : Top hd.view_39 (looseW hd.view_39 []) mean mg mb h₀) (hk : cs.kind = .function)
    (hd : dp + dn < recursionLimit) (hu : un' + un < cLine)
    (ret : ∀ h' tk', Fr h₀ L h' m → ∀ t, News h₀ L h' news → Q (.int V t) { s with heap := h', toks := tk' }) :
    wpAny (model PySem.Challenge.rw_pf0232_01.row.prog w) (ktrTop dp un' gd cn cs L a ccd cl outer) (call (.ref f) vs) Q E s := by
  refine C.use B F X N T hk hd hu ?_
  rintro r n h' tk' F' N' ⟨rfl, t, rfl⟩
  exact ret h' tk' F' t N'
abbrev tupOf (vs : List Value) : Obj := { cls := .type "tuple", data := .seq vs.toArray }
/-- a call that gives back a new pair of numbers -/
theorem Con.useP {w : World} {mean : ExcName → Option Value} {mg mb : Str → Option Value} {f : Addr} {vs : List Value} {news : Led} {dn un : Nat} {V W : Int} (C : Con w mean mg mb f vs news (fun news' r => ∃ t ta tb, r = .ref t ∧ news' = (t, tupOf [.int V ta, .int W tb]) :: news ∧ AllLt t news) dn un)
    {dp un' : Nat} {gd : Option (List Code)} {cn : Str} {cs : Scope} {a : Addr} {ccd : Value} {cl : List (Str × Addr)} {outer : List Env} {A₀ : Around} {base h₀ : Heap} {L : Addr} {m : Str → Option Value} {s : Shared} {Q E : Value → Shared → Prop}
    (B : Below A₀ base outer h₀) (F : Fr h₀ L s.heap m) (X : (hd.heap_39 w.params).In h₀) (N : News h₀ L s.heap news) (T : Top hd.view_39 (looseW hd.view_39 []) mean mg mb h₀) (hk : cs.kind = .function)
    (hd : dp + dn < recursionLimit) (hu : un' + un < cLine)
    (ret : ∀ h' tk', Fr h₀ L h' m → ∀ t ta tb, AllLt t news → News h₀ L h' ((t, tupOf [.int V ta, .int W tb]) :: news) → Q (.ref t) { s with heap := h', toks := tk' }) :
    wpAny (model PySem.Challenge.rw_pf0232_01.row.prog w) (ktrTop dp un' gd cn cs L a ccd cl outer) (call (.ref f) vs) Q E s := by
  refine C.use B F X N T hk hd hu ?_
  rintro r n h' tk' F' N' ⟨t, ta, tb, rfl, rfl, l⟩
  exact ret h' tk' F' t ta tb l N'

theorem lt1 {d N c : Nat} (h : d + N < c) : d < c := Nat.lt_of_le_of_lt (Nat.le_add_right _ _) h
theorem lt2 {d N c a : Nat} (h : d + N < c) (hk : Nat.ble a N = true) : d + a < c := by have := Nat.le_of_ble_eq_true hk; omega
theorem lt3 {d N c a b : Nat} (h : d + N < c) (hk : Nat.ble (a + b) N = true) : d + a + b < c := by have := Nat.le_of_ble_eq_true hk; omega
theorem lt4 {d N c a b e : Nat} (h : d + N < c) (hk : Nat.ble (a + b + e) N = true) : d + a + b + e < c := by have := Nat.le_of_ble_eq_true hk; omega
theorem ar1 {a1 b : Prop} (h : a1 ∧ b) : b := h.2
theorem ar2 {a1 a2 b : Prop} (h : a1 ∧ a2 ∧ b) : b := h.2.2
theorem ar3 {a1 a2 a3 b : Prop} (h : a1 ∧ a2 ∧ a3 ∧ b) : b := h.2.2.2
theorem ar4 {a1 a2 a3 a4 b : Prop} (h : a1 ∧ a2 ∧ a3 ∧ a4 ∧ b) : b := h.2.2.2.2
theorem ar5 {a1 a2 a3 a4 a5 b : Prop} (h : a1 ∧ a2 ∧ a3 ∧ a4 ∧ a5 ∧ b) : b := h.2.2.2.2.2
theorem ar6 {a1 a2 a3 a4 a5 a6 b : Prop} (h : a1 ∧ a2 ∧ a3 ∧ a4 ∧ a5 ∧ a6 ∧ b) : b := h.2.2.2.2.2.2
theorem ar7 {a1 a2 a3 a4 a5 a6 a7 b : Prop} (h : a1 ∧ a2 ∧ a3 ∧ a4 ∧ a5 ∧ a6 ∧ a7 ∧ b) : b := h.2.2.2.2.2.2.2
theorem ar8 {a1 a2 a3 a4 a5 a6 a7 a8 b : Prop} (h : a1 ∧ a2 ∧ a3 ∧ a4 ∧ a5 ∧ a6 ∧ a7 ∧ a8 ∧ b) : b := h.2.2.2.2.2.2.2.2
theorem ar9 {a1 a2 a3 a4 a5 a6 a7 a8 a9 b : Prop} (h : a1 ∧ a2 ∧ a3 ∧ a4 ∧ a5 ∧ a6 ∧ a7 ∧ a8 ∧ a9 ∧ b) : b := h.2.2.2.2.2.2.2.2.2
theorem ar10 {a1 a2 a3 a4 a5 a6 a7 a8 a9 a10 b : Prop} (h : a1 ∧ a2 ∧ a3 ∧ a4 ∧ a5 ∧ a6 ∧ a7 ∧ a8 ∧ a9 ∧ a10 ∧ b) : b := h.2.2.2.2.2.2.2.2.2.2
theorem ar11 {a1 a2 a3 a4 a5 a6 a7 a8 a9 a10 a11 b : Prop} (h : a1 ∧ a2 ∧ a3 ∧ a4 ∧ a5 ∧ a6 ∧ a7 ∧ a8 ∧ a9 ∧ a10 ∧ a11 ∧ b) : b := h.2.2.2.2.2.2.2.2.2.2.2
theorem ar12 {a1 a2 a3 a4 a5 a6 a7 a8 a9 a10 a11 a12 b : Prop} (h : a1 ∧ a2 ∧ a3 ∧ a4 ∧ a5 ∧ a6 ∧ a7 ∧ a8 ∧ a9 ∧ a10 ∧ a11 ∧ a12 ∧ b) : b := h.2.2.2.2.2.2.2.2.2.2.2.2

theorem flush10base {prog : Program} {w : World} {A : Around} {E : Value → Shared → Prop} {s : Shared} {env : Env} {Q : Flow → Shared → Prop} (h : wpAny (model prog w) A (execs [] env) Q E s) : wpAny (model prog w) A (execs [] env) Q E s := by
  w_top off
  (try (walk1; fail))
  exact h
local macro_rules | `(tactic| walk_at "ar") => `(tactic| first | assumption | exact ar1 (by assumption) | exact ar2 (by assumption) | exact ar3 (by assumption) | exact ar4 (by assumption) | exact ar5 (by assumption) | exact ar6 (by assumption) | exact ar7 (by assumption) | exact ar8 (by assumption) | exact ar9 (by assumption) | exact ar10 (by assumption) | exact ar11 (by assumption) | exact ar12 (by assumption))
local macro_rules | `(tactic| k_all) => `(tactic| first | assumption | exact ne_of_lt (by assumption) | (refine ne_of_allLt ?_; walk_at "ar") | (refine ne_add ?_; walk_at "ar") | (refine of_off1 ?_; walk_at "ar"))
local macro_rules | `(tactic| k_mem) => `(tactic| assumption)
local macro_rules | `(tactic| walk_at "CompEnd") => `(tactic| (refine LCg.CompEnd.intro (by assumption) (by k_asm) _ (fun _ h => h) (by assumption) (by lcg_src) ?_))
local macro_rules | `(tactic| k_enter) => `(tactic| first
  | cell_enter
  | (refine' code_defC ?k1 ?k2 ?k3 ?k4 ?k5 ?kA ?kF ?kK ?k6 ?k7 ?k8 ?k9 ?kB ?kD ?_ ?c2 ?c3 ?c4; (case kA | kF => exact rfl); (case kK => first | exact rfl | assumption); (case k1 | k2 | k3 | k4 | k5 => k_asm); (case k6 | k7 => k_is); (case k8 => ktr_room); (case k9 => exact BindsTo.of_eq rfl); (case kB => exact rfl); (case kD => decide +kernel); (case c2 | c3 | c4 => exact rfl); k_whole; intro g' L' h' tk' cells' FG' F' N' Y' B' X' T' l1; (try k_lt l1); k_cells Y'; (try simp only [List.cons_append, List.nil_append] at N'); (try dsimp only); (try k_lift B'); (try k_fold)))
local macro_rules | `(tactic| kqd_sub) => `(tactic| (intro p9 hp9; (repeat (first | exact hp9 | refine List.Mem.tail _ ?_)); done))
local macro_rules | `(tactic| walk_at "lt") => `(tactic| ((try dsimp only [ktrTop]); first | exact lt4 (by assumption) (by exact rfl) | exact lt3 (by assumption) (by exact rfl) | exact lt2 (by assumption) (by exact rfl) | exact lt1 (by assumption)))
local macro_rules | `(tactic| ktr_units) => `(tactic| ((try simp only [units_under_make, units_in1, units_deeper, Around.mark_units, units_caller]); first | walk_at "lt" | ((try dsimp only [ktrTop]); (have hcL9 := cLine_is); omega)))
local macro_rules | `(tactic| ktr_room) => `(tactic| ((try simp only [depth_under_make, depth_under_kw, depth_in1, depth_deeper, depth_caller]); first | walk_at "lt" | ((try dsimp only [ktrTop]); first | omega | (simp only [recursionLimit] at *; omega))))
local macro_rules | `(tactic| omega) => `(tactic| first | with_reducible assumption | with_reducible exact Int.natCast_nonneg _ | decide +kernel | omega (config := {}))
/-- a place at which the walk is to stand still -/
@[irreducible] def Stop (P : Prop) : Prop := P
theorem Stop.mk {P : Prop} (h : P) : Stop P := by unfold Stop; exact h
theorem Stop.out {P : Prop} (h : Stop P) : P := by unfold Stop at h; exact h
theorem Stop.callL {f : Addr} {M : Model} {A : Around} {vs : List Value} {Q E : Value → Shared → Prop} {s : Shared} (hf : [234, 166, 201, 159, 194, 241, 208, 222, 229, 187, 44].contains f = true) (h : Stop (wpAny M A (call (.ref f) vs) Q E s)) : wpAny M A (call (.ref f) vs) Q E s := h.out

/-- a mark in the context: the walk is to stand still at this kind of step -/
structure StopKey (k : String) : Prop where
  on : True
theorem Stop.key {k : String} {P : Prop} (_ : StopKey k) (h : Stop P) : P := h.out
/-- the same, ahead of the statement in this row of the text -/
structure StopLine (n : Nat) : Prop where
  on : True
theorem Stop.ln {n : Nat} {M : Model} {A : Around} {t : Stmt} {r : List Stmt} {env : Env} {Q : Flow → Shared → Prop} {E : Value → Shared → Prop} {s : Shared} (_ : StopLine n) (e : Nat.beq t.pos.line n = true) (h : Stop (wpAny M A (execs (t :: r) env) Q E s)) : wpAny M A (execs (t :: r) env) Q E s := h.out
section
variable {prog : Program} {w : World} {A : Around} {E : Value → Shared → Prop} {s : Shared} {h₀ : Heap} {env : Env} {x : Str} {body : List Stmt} {Q : Flow → Shared → Prop} {m : Str → Option Value}
theorem For_stop {px pos : Pos} {iter : PySem.Expr} (F : Fr h₀ env.locals s.heap m) (hx : env.kindOf x = some .local)
    (hp : (env.scope.kind == .class || (env.scope.kind == .module && env.locals != env.globals)) = false)
    (h : wpAny (model prog w) A (eval iter env) (fun xv s₁ => Stop (wpAny (model prog w) A (pyIter xv) (fun it s₂ => LoopAtV prog w A h₀ env x body Q E it s₂) E s₁)) E s)
    (hs : ∀ x, foldedSetIterable iter env x = pure x := by intro _; rfl)
    (hE : PassesOwn (model prog w) A env E := by passes_own) :
    wpAny (model prog w) A (exec (.For (.Name x px) iter body [] pos) env) Q E s := by
  unfold Stop at h
  exact let _ := F; For_invV h₀ hx hp h hs hE

theorem For_stopA {px pos : Pos} {iter : PySem.Expr}
    (h : wpAny (model prog w) A (eval iter env) (fun xv s₁ => Stop (wpAny (model prog w) A (pyIter xv) (fun it s₂ => LoopAtV prog w A h₀ env x body Q E it s₂) E s₁)) E s)
    (F : Fr h₀ env.locals s.heap m := by k_asm) (hx : env.kindOf x = some .local := by exact rfl)
    (hp : (env.scope.kind == .class || (env.scope.kind == .module && env.locals != env.globals)) = false := by exact rfl)
    (hs : ∀ x, foldedSetIterable iter env x = pure x := by intro _; rfl)
    (hE : PassesOwn (model prog w) A env E := by passes_own) :
    wpAny (model prog w) A (exec (.For (.Name x px) iter body [] pos) env) Q E s := For_stop F hx hp h hs hE

/-- what a turn's end is to show -/
def TurnEnd (h₀ : Heap) (L : Addr) (J : (Str → Option Value) → Led → Prop) (I : Addr) (oI : Obj) (s₁ s₂ : Shared) : Prop :=
  ∃ h' tk m' nx, s₂ = { s₁ with heap := h', toks := tk } ∧ Fr h₀ L h' m' ∧ News h₀ L h' ((I, oI) :: nx) ∧ (∀ p ∈ nx, p.1 ≠ I) ∧ J m' nx
def TurnPost (h₀ : Heap) (L : Addr) (J : (Str → Option Value) → Led → Prop) (I : Addr) (oI : Obj) (s₁ : Shared) (Q : Flow → Shared → Prop) (f : Flow) (s₂ : Shared) : Prop :=
  match f with
  | .ret v => Q (.ret v) s₂
  | .brk => Q .next s₂
  | _ => TurnEnd h₀ L J I oI s₁ s₂
theorem TurnEnd.intro {L : Addr} {J : (Str → Option Value) → Led → Prop} {I : Addr} {oI : Obj} {s₁ : Shared} {h' : Heap} {tk : Nat} {m' : Str → Option Value} {nx all : Led} (F : Fr h₀ L h' m') (N : News h₀ L h' all)
    (hI : (I, oI) ∈ all) (hn : ∀ p ∈ nx, p ∈ all) (off : ∀ p ∈ nx, p.1 ≠ I) (hj : J m' nx) : TurnEnd h₀ L J I oI s₁ { s₁ with heap := h', toks := tk } :=
  ⟨h', tk, m', nx, rfl, F, fun p hp => by
    rcases List.mem_cons.mp hp with rfl | hp
    · exact N _ hI
    · exact N _ (hn p hp), off, hj⟩

theorem for_walk {I : Addr} {n : Nat} {P : Nat → Value → Prop} {St : Nat → Heap → Prop} {fp : List Addr} {m₀ : Str → Option Value} {news : Led} (J : Nat → (Str → Option Value) → Led → Prop)
    (W : Walks prog w A I fp [I] n P St) (hLf : env.locals ∉ fp) (hI : h₀.get? I = none) (hno : ∀ b ∈ fp, b ≠ I → ∀ p ∈ news, True) (hnw : ∀ p ∈ news, p.1 ≠ I) (hst : St 0 s.heap)
    (hIo : ∀ i h, St i h → ∃ o, h.get? I = some o) (F : Fr h₀ env.locals s.heap m₀) (N : News h₀ env.locals s.heap news) (hj : J 0 m₀ news)
    (hkeep : ∀ i h nx, St i h → J i m₀ nx → True)
    (turn : ∀ i v m₁ nx h tk oI, i < n → P i v → J i m₁ nx → (∀ p ∈ nx, p.1 ≠ I) → Fr h₀ env.locals h (fun y => if y = x then some v else m₁ y) → News h₀ env.locals h ((I, oI) :: nx) →
      wpAny (model prog w) A (execs body env) (TurnPost h₀ env.locals (fun m' nx' => J (i + 1) m' nx' ∧ ∀ b ∈ fp, b ≠ I → h₀.get? b = none → ∀ o, h.get? b = some o → (b, o) ∈ nx') I oI { s with heap := h, toks := tk } Q) E { s with heap := h, toks := tk })
    (done : ∀ m₁ nx h tk, J n m₁ nx → Fr h₀ env.locals h m₁ → News h₀ env.locals h nx → Q .next { s with heap := h, toks := tk }) :
    LoopAtV prog w A h₀ env x body Q E (.ref I) s := by
  refine ⟨I, fp, [I], n, P, St, m₀, news, J, rfl, W, hLf, fun b hb => by rw [List.mem_singleton.mp hb]; exact hI, fun p hp hm => hnw p hp (List.mem_singleton.mp hm), hst, F, N, hj, ?_, ?_⟩
  · rintro i v m₁ nx s₁ own ⟨h, tk, rfl⟩ hin hP hJ hoff hown hget hall hst₁ F₁ N₁
    obtain ⟨oI, hoI⟩ := hIo _ _ hst₁
    have hIown : (I, oI) ∈ own := hall I (W.sub _ (List.mem_singleton.mpr rfl)) hI oI hoI
    have hoff' : ∀ p ∈ nx, p.1 ≠ I := fun p hp e => hoff p hp (List.mem_singleton.mpr e)
    have N₂ : News h₀ env.locals h ((I, oI) :: nx) := fun p hp => by
      rcases List.mem_cons.mp hp with rfl | hp
      · exact N₁ _ (List.mem_append_left _ hIown)
      · exact N₁ _ (List.mem_append_right _ hp)
    refine wpAny_mono (turn i v m₁ nx h tk oI hin hP hJ hoff' F₁ N₂) (fun f s₂ p => ?_) fun _ _ e => e
    have fin : TurnEnd h₀ env.locals (fun m' nx' => J (i + 1) m' nx' ∧ ∀ b ∈ fp, b ≠ I → h₀.get? b = none → ∀ o, h.get? b = some o → (b, o) ∈ nx') I oI { s with heap := h, toks := tk } s₂ → LoopStepU h₀ env.locals [I] own (J (i + 1)) { s with heap := h, toks := tk } .next s₂ := by
      rintro ⟨h', tk', m', nx', rfl, F', N', hn, hJ', hfp⟩
      refine ⟨rfl, h', tk', m', nx', rfl, F', fun p hp => ?_, fun p hp hq => hn p hp (List.mem_singleton.mp hq), hJ'⟩
      rcases List.mem_append.mp hp with hp | hp
      · by_cases e : p.1 = I
        · have q := hget p hp
          have : p = (I, oI) := by
            obtain ⟨pa, po⟩ := p
            dsimp only at e q
            subst e
            rw [hoI] at q
            cases q; rfl
          rw [this]; exact N' _ (.head _)
        · have q := (N₁ p (List.mem_append_left _ hp)).2.2
          exact N' _ (.tail _ (hfp p.1 (hown p hp) e q p.2 (hget p hp)))
      · exact N' _ (.tail _ hp)
    cases f with
    | ret v => exact .ret p
    | brk => exact .brk p
    | next => exact .next (fin p)
    | cont => exact .cont (fin p)
  · rintro h' tk m' news' F' N' _ hJ
    exact done m' news' h' tk hJ F' N'

/-- for x in range(n): any state that is told by a word over the ledger -/
theorem for_range {r : Addr} {b : Int} {t u v : Tok} {n : Nat} {m₀ : Str → Option Value} {news : Led} (J : Nat → (Str → Option Value) → Led → Prop)
    (hh : A.handled = none) (hr : IsRange s.heap r 0 b 1 t u v) (hsmall : Builtin.Range.small 0 b 1 = true) (hn : Builtin.Range.rangeSize 0 b 1 = (n : Int)) (F : Fr h₀ env.locals s.heap m₀) (N : News h₀ env.locals s.heap news) (hj : J 0 m₀ news)
    (turn : ∀ i tv m₁ nx h tk I oI, i < n → J i m₁ nx → (∀ p ∈ nx, p.1 ≠ I) → Fr h₀ env.locals h (fun y => if y = x then some (.int (i : Int) tv) else m₁ y) → News h₀ env.locals h ((I, oI) :: nx) →
      wpAny (model prog w) A (execs body env) (TurnPost h₀ env.locals (J (i + 1)) I oI { s with heap := h, toks := tk } Q) E { s with heap := h, toks := tk })
    (done : ∀ m₁ nx h tk, J n m₁ nx → Fr h₀ env.locals h m₁ → News h₀ env.locals h nx → Q .next { s with heap := h, toks := tk }) :
    wpAny (model prog w) A (pyIter (.ref r)) (fun it s₂ => LoopAtV prog w A h₀ env x body Q E it s₂) E s := by
  refine wpAny_pyIter_range hr hsmall ?_
  have W : Walks prog w A s.heap.objs.size [s.heap.objs.size] [s.heap.objs.size] n (fun i v => i < n ∧ ∃ t, v = .int (0 + i * 1) t)
      (fun i h => IsRangeIter h s.heap.objs.size (0 + (i : Nat) * 1) ((n : Int) - (i : Nat)) 1) := (Walks.range hh _ 0 1 n).bound
  refine for_walk J W ?_ (next_is_new F) (fun _ _ _ _ _ => trivial) (fun p hp e => absurd (Heap.lt_size (N p hp).1) (e ▸ Nat.lt_irrefl _)) (by show IsRangeIter _ _ _ _ _; rw [hn]; simpa using Heap.get?_push_size _ rfl) (fun i h st => ⟨_, st⟩) (F.push _)
    (fun p hp => ⟨Heap.get?_push_of_some _ (N p hp).1, (N p hp).2⟩) hj (fun _ _ _ _ _ => trivial) ?_ ?_
  · intro hm
    exact absurd F.ns.lt ((List.mem_singleton.mp hm) ▸ Nat.lt_irrefl _)
  · rintro i v m₁ nx h tk oI hi ⟨_, tv, rfl⟩ hJ hoff F' N'
    simp only [Int.mul_one, Int.zero_add] at F'
    refine wpAny_mono (turn i tv m₁ nx h tk _ oI hi hJ hoff F' N') (fun f s₂ p => ?_) fun _ _ e => e
    have fin : TurnEnd h₀ env.locals (J (i + 1)) s.heap.objs.size oI { s with heap := h, toks := tk } s₂ → TurnEnd h₀ env.locals (fun m' nx' => J (i + 1) m' nx' ∧ ∀ b ∈ [s.heap.objs.size], b ≠ s.heap.objs.size → h₀.get? b = none → ∀ o, h.get? b = some o → (b, o) ∈ nx') s.heap.objs.size oI { s with heap := h, toks := tk } s₂ := by
      rintro ⟨h', tk', m', nx', e, F', N', hn, hJ'⟩
      exact ⟨h', tk', m', nx', e, F', N', hn, hJ', fun b hb hne => absurd (List.mem_singleton.mp hb) hne⟩
    cases f with
    | ret v => exact p
    | brk => exact p
    | next => exact fin p
    | cont => exact fin p
  · exact fun m₁ nx h tk => done m₁ nx h tk
end

theorem for_upto {prog : Program} {w : World} {A : Around} {E : Value → Shared → Prop} {s : Shared} {h₀ : Heap} {env : Env} {x : Str} {body : List Stmt} {Q : Flow → Shared → Prop} {r : Addr} {b : Int} {t u v : Tok} {m₀ : Str → Option Value} {news : Led} (J : Nat → (Str → Option Value) → Led → Prop)
    (hh : A.handled = none) (hr : IsRange s.heap r 0 b 1 t u v) (hb0 : 0 ≤ b) (hb1 : b < 2 ^ 40) (F : Fr h₀ env.locals s.heap m₀) (N : News h₀ env.locals s.heap news) (hj : J 0 m₀ news)
    (turn : ∀ i tv m₁ nx h tk I oI, i < b.toNat → J i m₁ nx → (∀ p ∈ nx, p.1 ≠ I) → Fr h₀ env.locals h (fun y => if y = x then some (.int (i : Int) tv) else m₁ y) → News h₀ env.locals h ((I, oI) :: nx) →
      wpAny (model prog w) A (execs body env) (TurnPost h₀ env.locals (J (i + 1)) I oI { s with heap := h, toks := tk } Q) E { s with heap := h, toks := tk })
    (done : ∀ m₁ nx h tk, J b.toNat m₁ nx → Fr h₀ env.locals h m₁ → News h₀ env.locals h nx → Q .next { s with heap := h, toks := tk }) :
    wpAny (model prog w) A (pyIter (.ref r)) (fun it s₂ => LoopAtV prog w A h₀ env x body Q E it s₂) E s := by
  refine for_range (n := b.toNat) J hh hr (small_one (by omega) (by omega) (by omega) (by omega)) ?_ F N hj turn done
  rw [rangeSize_one]; split <;> omega

theorem for_to {prog : Program} {w : World} {A : Around} {E : Value → Shared → Prop} {s : Shared} {h₀ : Heap} {env : Env} {L : Addr} {x : Str} {body : List Stmt} {Q : Flow → Shared → Prop} {r : Addr} {b : Int} {t u v : Tok} {m₀ : Str → Option Value} {news : Led} (hL : env.locals = L) (J : Nat → (Str → Option Value) → Led → Prop)
    (hh : A.handled = none) (hr : IsRange s.heap r 0 b 1 t u v) (hb0 : 0 ≤ b) (hb1 : b < 2 ^ 40) (F : Fr h₀ L s.heap m₀) (N : News h₀ L s.heap news) (hj : J 0 m₀ news)
    (turn : ∀ i tv m₁ nx h tk I oI, i < b.toNat → J i m₁ nx → (∀ p ∈ nx, p.1 ≠ I) → Fr h₀ L h (fun y => if y = x then some (.int (i : Int) tv) else m₁ y) → News h₀ L h ((I, oI) :: nx) →
      wpAny (model prog w) A (execs body env) (TurnPost h₀ L (J (i + 1)) I oI { s with heap := h, toks := tk } Q) E { s with heap := h, toks := tk })
    (done : ∀ m₁ nx h tk, J b.toNat m₁ nx → Fr h₀ L h m₁ → News h₀ L h nx → Q .next { s with heap := h, toks := tk }) :
    wpAny (model prog w) A (pyIter (.ref r)) (fun it s₂ => LoopAtV prog w A h₀ env x body Q E it s₂) E s := by
  subst hL
  exact for_upto J hh hr hb0 hb1 F N hj turn done

/-- a map with some names written out -/
def over (m : Str → Option Value) : List (Str × Value) → Str → Option Value
  | [], y => m y
  | (a, v) :: r, y => if y = a then some v else over m r y
theorem over_eq {m : Str → Option Value} : ∀ {ps : List (Str × Value)}, (∀ p ∈ ps, m p.1 = some p.2) → over m ps = m
  | [], _ => rfl
  | (a, v) :: r, h => by
    funext y
    unfold over
    rw [over_eq fun p hp => h p (.tail _ hp)]
    by_cases e : y = a
    · rw [if_pos e, e]; exact (h _ (.head _)).symm
    · rw [if_neg e]
theorem Fr.over {h₀ h : Heap} {L : Addr} {m : Str → Option Value} {x : Str} {v : Value} (F : Fr h₀ L h (fun y => if y = x then some v else m y)) (ps : List (Str × Value)) (hp : ∀ p ∈ ps, m p.1 = some p.2) :
    Fr h₀ L h (fun y => if y = x then some v else over m ps y) := by rw [over_eq hp]; exact F
theorem Fr.over0 {h₀ h : Heap} {L : Addr} {m : Str → Option Value} (F : Fr h₀ L h m) (ps : List (Str × Value)) (hp : ∀ p ∈ ps, m p.1 = some p.2) :
    Fr h₀ L h (Mine.over m ps) := by rw [over_eq hp]; exact F

/-- a comprehension's turns, by a word over what is made and over the ledger -/
theorem comp_inv {prog : Program} {w : World} {A : Around} {h₀ : Heap} {L : Addr} {m : Str → Option Value} {env : Env} {elt : PySem.Expr} {x : Str} {scope : Scope} {cl : List (Str × Addr)} {s : Shared} {S : Led → Prop} {P : Nat → Value → Prop} {Fin : List Value → Led → Prop} {n : Nat} {news : Led}
    (J : Nat → List Value → Led → Prop) (h0 : J 0 [] news)
    (turn : ∀ i ys nx v I oI C oC D m₂ h tk (E' : Value → Shared → Prop), i < n → ys.length = i → P i v → J i ys nx → LCg.NsObj oC m₂ → m₂ x = some v → Fr h₀ L h m → News h₀ L h ((I, oI) :: (C, oC) :: (D, LCg.lst ys) :: nx) → LCg.Off3 I C D nx → ((@Ne Nat I C) ∧ (@Ne Nat I D) ∧ (@Ne Nat C D)) →
      wpAny (model prog w) A (eval elt (compEnvC scope cl C env)) (LCg.CompEnd h₀ L m { s with heap := h, toks := tk } I oI C oC D (LCg.lst ys) S (fun y nx' => J (i + 1) (ys ++ [y]) nx')) E' { s with heap := h, toks := tk })
    (fin : ∀ ys nx, ys.length = n → J n ys nx → Fin ys nx) : LCg.CompRest prog w A h₀ L m env elt x scope cl s S P Fin n 0 [] news := by
  have key : ∀ (j i : Nat) (ys : List Value) (nx : Led), i + j = n → ys.length = i → J i ys nx → LCg.CompRest prog w A h₀ L m env elt x scope cl s S P Fin j i ys nx := by
    intro j
    induction j with
    | zero =>
      intro i ys nx hi hl hJ
      have : i = n := by omega
      subst this
      exact LCg.CompRest.zero (fin ys nx hl hJ)
    | succ j ih =>
      intro i ys nx hi hl hJ
      refine LCg.CompRest.succ ?_
      intro v I oI C oC D m₂ h tk E' hP hC hx F N off ne
      refine wpAny_mono (turn i ys nx v I oI C oC D m₂ h tk E' (by omega) hl hP hJ hC hx F N off ne) (fun y s₂ p => ?_) fun _ _ e => e
      obtain ⟨h', tk', nx', e, F', N', off', hS, hJ'⟩ := p
      exact ⟨h', tk', nx', e, F', N', off', hS, ih (i + 1) _ nx' (by omega) (by simp [hl]) hJ'⟩
  exact key n 0 [] news (by omega) rfl h0

theorem flush12loops {prog : Program} {w : World} {A : Around} {E : Value → Shared → Prop} {s : Shared} {env : Env} {Q : Flow → Shared → Prop} (h : wpAny (model prog w) A (execs [] env) Q E s) : wpAny (model prog w) A (execs [] env) Q E s := by
  w_top off
  (try (walk1; fail))
  exact h
set_option hygiene false in
local macro_rules | `(tactic| walk_at "h") => `(tactic| first | assumption | exact FrameIn.mono (by assumption) (by kqd_sub) | omega)
set_option hygiene false in
local macro_rules | `(tactic| walk_at "u") => `(tactic| ((case B | F | X | N | T => k_asm); (case hk => first | exact rfl | assumption)))
set_option hygiene false in
local macro_rules | `(tactic| walk_at "v") => `(tactic| ((case hd => ktr_room); (case hu => ktr_units); k_whole))
local macro_rules | `(tactic| walk_at "in") => `(tactic| (intros; (try (rename AllLt _ _ => l9; simp only [AllLt, and_true] at l9)); (try dsimp only); (try k_sweep); (try k_fold)))
set_option hygiene false in
local macro_rules | `(tactic| walk_at "call ref") => `(tactic| (k_here; k_dflt ((first | ((with_reducible refine wat 53 ?_); refine' Con.useI (parts_con _ _ _ _ _ _ _ _ _ ?za ?zb) ?B ?F ?X ?N ?T ?hk ?hd ?hu ?_) | ((with_reducible refine wat 93 ?_); refine' Con.useI (most_across_con _ _ _ _ _ _ _ _ _ _ _ ?za ?zb) ?B ?F ?X ?N ?T ?hk ?hd ?hu ?_) | ((with_reducible refine wat 98 ?_); refine' Con.useI (most_down_con _ _ _ _ _ _ _ _ _ _ _ ?za ?zb) ?B ?F ?X ?N ?T ?hk ?hd ?hu ?_) | ((with_reducible refine wat 105 ?_); refine' Con.useI (mcus_across_con _ _ _ _ _ _ _ _ _ _ _ ?za ?zb) ?B ?F ?X ?N ?T ?hk ?hd ?hu ?_) | ((with_reducible refine wat 112 ?_); refine' Con.useI (mcus_down_con _ _ _ _ _ _ _ _ _ _ _ ?za ?zb) ?B ?F ?X ?N ?T ?hk ?hd ?hu ?_) | ((with_reducible refine wat 180 ?_); refine' Con.useP (unit_con _ _ _ _ _ _ _ _ _ _ _ ?za ?zb) ?B ?F ?X ?N ?T ?hk ?hd ?hu ?_) | ((with_reducible refine wat 133 ?_); refine' Con.useP (padded_con _ _ _ _ _ _ _ _ _ _ _ ?za ?zb _ _ _ ?zc ?zd ?ze) ?B ?F ?X ?N ?T ?hk ?hd ?hu ?_)); walk_at "u"; (case za => walk_at "h"); (case zb => walk_at "h"); (try case zc | zd | ze => walk_at "h"); walk_at "v"); walk_at "in"))
local macro_rules | `(tactic| walk_at "stop") => `(tactic| (k_here; refine Stop.out ?_))
local macro_rules | `(tactic| walk_at "for") => `(tactic| (k_here; (with_unfolding_all refine' For_stopA ?_; k_whole)))
local macro_rules
  | `(tactic| walk_at "SrcH") => `(tactic| walk_at "stop")
  | `(tactic| walk_at "ElemEnd") => `(tactic| walk_at "stop")
  | `(tactic| walk_at "SrcT") => `(tactic| walk_at "stop")
  | `(tactic| walk_at "PickEnd") => `(tactic| walk_at "stop")
  | `(tactic| walk_at "exec Raise some none") => `(tactic| walk_at "stop")
  | `(tactic| walk_at "call builtin:Exception.__init__") => `(tactic| walk_at "stop")
  | `(tactic| walk_at "getMethod type:Exception") => `(tactic| walk_at "stop")
  | `(tactic| walk_at "exec For Name Call cons nil") => `(tactic| walk_at "for")
  | `(tactic| walk_at "exec For Name Attribute cons nil") => `(tactic| walk_at "for")
  | `(tactic| walk_at "exec For Name Subscript cons nil") => `(tactic| walk_at "for")
  | `(tactic| walk_at "exec For Name Name cons nil") => `(tactic| walk_at "for")
  | `(tactic| walk_at "exec For Name BinOp cons nil") => `(tactic| walk_at "for")
  | `(tactic| walk_at "subscriptTail") => `(tactic| (k_here; with_reducible refine Stop.key (k := "subscriptTail") (by assumption) ?_))
  | `(tactic| walk_at "setAttr ref") => `(tactic| (k_here; with_reducible refine Stop.key (k := "setAttr ref") (by assumption) ?_))
  | `(tactic| walk_at "setItem ref int") => `(tactic| (k_here; with_reducible refine Stop.key (k := "setItem ref int") (by assumption) ?_))
  | `(tactic| walk_at "compareOp NotEq ref ref") => `(tactic| (k_here; with_reducible refine Stop.key (k := "compareOp NotEq ref ref") (by assumption) ?_))
  | `(tactic| walk_at "compareOp Eq ref ref") => `(tactic| (k_here; with_reducible refine Stop.key (k := "compareOp Eq ref ref") (by assumption) ?_))
  | `(tactic| walk_at "noteFrame ref") => `(tactic| (k_here; with_reducible refine Stop.key (k := "noteFrame ref") (by assumption) ?_))
  | `(tactic| walk_at "exec Try") => `(tactic| (k_here; with_reducible refine Stop.key (k := "exec Try") (by assumption) ?_))
  | `(tactic| walk_at "leaving ref") => `(tactic| (k_here; with_reducible refine Stop.key (k := "leaving ref") (by assumption) ?_))
  | `(tactic| walk_at "eval ListComp") => `(tactic| (k_here; with_reducible refine Stop.key (k := "eval ListComp") (by assumption) ?_))
  | `(tactic| walk_at "exec Assign cons ListComp") => `(tactic| (k_here; with_reducible refine Stop.key (k := "exec Assign cons ListComp") (by assumption) ?_))
  | `(tactic| walk_at "execs cons") => `(tactic| (k_here; (with_reducible refine' Stop.ln (by assumption) ?e ?_); k_dflt (case e => exact rfl)))
  | `(tactic| walk_at "call ref") => `(tactic| (k_here; first | (with_reducible refine Stop.key (k := "call ref") (by assumption) ?_) | ((with_reducible refine' Stop.callL ?hf ?_); k_dflt (case hf => exact rfl))))

theorem parts_con (w : World) (mean : ExcName → Option Value) (mg mb : Str → Option Value) (news : Led) (x y : Int) (tx ty : Tok) (hy : 0 < y) (hy1 : y < 1000) :
    Con w mean mg mb 53 [.int x tx, .int y ty] news (fun news' r => news' = news ∧ ∃ t, r = .int (Int.fdiv (x + y - 1) y) t) 1 8 := by
  unfold Con; k_fill
  intro dp un gd cn cs a ccd cl outer A₀ base h₀ L m s Q E B F X N T hk hd hu hret
  refine wpAny_call ?_
  k_dflt cell_enter
  k_steps
  apply hret; k_asm; k_asm; exact ⟨rfl, _, rfl⟩

def UrnObj (o : Obj) : Prop := ∃ (a b : Int) (ta tb : Tok) (n : Nat), o = listOf #[.int a ta, .int b tb] n ∧ 0 ≤ a ∧ 0 ≤ b ∧ b < 2147483647

theorem from_con (w : World) (mean : ExcName → Option Value) (mg mb : Str → Option Value) (rest : Led) (u : Addr) (o : Obj) (ho : UrnObj o) (hoff : ∀ p ∈ rest, p.1 ≠ u) (k : Int) (tk : Tok) (hk0 : 0 < k) (hk1 : k < 10) :
    Con w mean mg mb 215 [.ref u, .int k tk] ((u, o) :: rest) (fun news' r => ∃ o', UrnObj o' ∧ news' = (u, o') :: rest ∧ ∃ i t, r = .int i t ∧ 0 ≤ i ∧ i < k) 1 8 := by
  refine hush fun GG9 out9 => ?_
  obtain ⟨x, y, tx, ty, n, rfl, hx, hy, hy'⟩ := ho
  refine out9 ?_
  clear out9 GG9
  unfold Con; k_fill
  intro dp un gd cn cs a ccd cl outer A₀ base h₀ L m s Q E B F X N T hk hd hu hret
  refine wpAny_call ?_
  k_dflt cell_enter
  k_steps
  all_goals (apply hret; k_asm; k_asm)
  · refine ⟨_, ⟨_, _, _, _, _, rfl, ?_, hy, hy'⟩, rfl, _, _, rfl, fmod_lo _ hk0, fmod_hi _ hk0⟩
    exact Int.fdiv_nonneg hx (by omega)
  · refine ⟨_, ⟨_, _, _, _, _, rfl, hx, fmod_lo _ (by omega), fmod_hi _ (by omega)⟩, rfl, _, _, rfl, fmod_lo _ hk0, fmod_hi _ hk0⟩

/-- the same for an urn anywhere in the ledger -/
theorem from_any (w : World) (mean : ExcName → Option Value) (mg mb : Str → Option Value) (news : Led) (u : Addr) (o : Obj) (hm : (u, o) ∈ news) (ho : UrnObj o) (k : Int) (tk : Tok) (hk0 : 0 < k) (hk1 : k < 10) :
    Con w mean mg mb 215 [.ref u, .int k tk] news (fun news' r => ∃ o', UrnObj o' ∧ news' = repl u o' news ∧ ∃ i t, r = .int i t ∧ 0 ≤ i ∧ i < k) 1 8 := by
  intro dp un gd cn cs a ccd cl outer A₀ base h₀ L m s Q E B F X N T hk hd hu hret
  refine from_con w mean mg mb (drop u news) u o ho drop_off k tk hk0 hk1 dp un gd cn cs a ccd cl outer A₀ base h₀ L m s Q E B F X (News.take N hm) T hk hd hu ?_
  rintro r news' h' tk' F' N' ⟨o', ho', rfl, hr⟩
  exact hret r _ h' tk' F' (News.back N') ⟨o', ho', rfl, hr⟩

theorem flush20from {prog : Program} {w : World} {A : Around} {E : Value → Shared → Prop} {s : Shared} {env : Env} {Q : Flow → Shared → Prop} (h : wpAny (model prog w) A (execs [] env) Q E s) : wpAny (model prog w) A (execs [] env) Q E s := by
  w_top off
  (try (walk1; fail))
  exact h

theorem int_eq {x y : Int} {t : Tok} (e : x = y) : ∃ t', Value.int x t = .int y t' := ⟨t, by rw [e]⟩
theorem fdiv_is {x k q : Int} (hk : 0 < k) (h1 : q * k ≤ x) (h2 : x < q * k + k) : x.fdiv k = q := by
  rw [Int.fdiv_eq_ediv_of_nonneg _ (by omega)]
  refine Int.le_antisymm (Int.le_of_lt_add_one (Int.ediv_lt_of_lt_mul hk ?_)) (Int.le_ediv_of_mul_le hk h1)
  rw [Int.add_mul]; omega

/-- what a component says -/
structure CD where
  i : Int
  a : Int
  d : Int
  q : Int
/-- what a frame says -/
structure FD where
  height : Int
  width : Int
  n : Int
  comps : List CD
abbrev ent (w : World) (nm : String) (t : Tok) (v : Value) : DictEntry := ⟨PyData.keyHash w.params (Str.ofString nm), .str (Str.ofString nm) t, v⟩
abbrev compEs (w : World) (c : CD) (t1 t2 t3 t4 v1 v2 v3 v4 : Tok) : List DictEntry :=
  [ent w "ident" t1 (.int c.i v1), ent w "across" t2 (.int c.a v2), ent w "down" t3 (.int c.d v3), ent w "quant" t4 (.int c.q v4)]
inductive CompIn (w : World) (news : Led) (x : Addr) (c : CD) : Prop
  | mk (dx : Addr) (t1 t2 t3 t4 v1 v2 v3 v4 : Tok) (n : Nat) (hx : (x, instObj 70 dx) ∈ news) (hd : (dx, dictOf (compEs w c t1 t2 t3 t4 v1 v2 v3 v4) n) ∈ news) : CompIn w news x c
abbrev frameEs (w : World) (h wd nn : Int) (cl : Addr) (t1 t2 t3 t4 t5 t6 v1 v2 v3 v4 v6 : Tok) : List DictEntry :=
  [ent w "kind" t1 (.str (Str.ofString "progressive") v1), ent w "precision" t2 (.int 8 v2), ent w "height" t3 (.int h v3), ent w "width" t4 (.int wd v4), ent w "components" t5 (.ref cl), ent w "n" t6 (.int nn v6)]
inductive CompsIn (w : World) (news : Led) : List Addr → List CD → Prop
  | nil : CompsIn w news [] []
  | cons {x : Addr} {c : CD} {xs : List Addr} {cs : List CD} : CompIn w news x c → CompsIn w news xs cs → CompsIn w news (x :: xs) (c :: cs)
inductive FrameIn (w : World) (news : Led) (f : Addr) (fd : FD) : Prop
  | mk (d cl : Addr) (xs : List Addr) (t1 t2 t3 t4 t5 t6 v1 v2 v3 v4 v6 : Tok) (n n0 : Nat) (hf : (f, instObj 136 d) ∈ news) (hd : (d, dictOf (frameEs w fd.height fd.width fd.n cl t1 t2 t3 t4 t5 t6 v1 v2 v3 v4 v6) n) ∈ news)
    (hcl : (cl, listOf (xs.map Value.ref).toArray n0) ∈ news) (hC : CompsIn w news xs fd.comps) : FrameIn w news f fd

theorem CompIn.mono {w : World} {news news' : Led} {x : Addr} {c : CD} (h : CompIn w news x c) (hs : ∀ p ∈ news, p ∈ news') : CompIn w news' x c := by
  obtain ⟨dx, t1, t2, t3, t4, v1, v2, v3, v4, n, h1, h2⟩ := h
  exact ⟨dx, t1, t2, t3, t4, v1, v2, v3, v4, n, hs _ h1, hs _ h2⟩
theorem CompsIn.mono {w : World} {news news' : Led} {xs : List Addr} {cs : List CD} (h : CompsIn w news xs cs) (hs : ∀ p ∈ news, p ∈ news') : CompsIn w news' xs cs := by
  induction h with
  | nil => exact .nil
  | cons h1 h2 ih => exact .cons (h1.mono hs) ih
theorem FrameIn.mono {w : World} {news news' : Led} {f : Addr} {fd : FD} (h : FrameIn w news f fd) (hs : ∀ p ∈ news, p ∈ news') : FrameIn w news' f fd := by
  obtain ⟨d, cl, xs, t1, t2, t3, t4, t5, t6, v1, v2, v3, v4, v6, n, n0, hf, hfd, hcl, hC⟩ := h
  exact ⟨d, cl, xs, t1, t2, t3, t4, t5, t6, v1, v2, v3, v4, v6, n, n0, hs _ hf, hs _ hfd, hs _ hcl, hC.mono hs⟩
/-- the kinds of frames that the law makes: so many MCUs across and down -/
structure FOK (fd : FD) (c0 : CD) (more : List CD) (wide high : Int) : Prop where
  comps : fd.comps = c0 :: more
  few : more.length ≤ 2
  one : ∀ c ∈ more, c.a = 1 ∧ c.d = 1
  a1 : 1 ≤ c0.a
  a3 : c0.a ≤ 3
  d1 : 1 ≤ c0.d
  d2 : c0.d ≤ 2
  n1 : 1 ≤ fd.n
  n2 : fd.n ≤ 2
  w1 : 1 ≤ wide
  w3 : wide ≤ 3
  h1 : 1 ≤ high
  h3 : high ≤ 3
  width : fd.width = wide * (fd.n * c0.a)
  heightLo : high * (fd.n * c0.d) - (fd.n - 1) ≤ fd.height
  heightHi : fd.height ≤ high * (fd.n * c0.d)

theorem most_across_con (w : World) (mean : ExcName → Option Value) (mg mb : Str → Option Value) (news : Led) (f : Addr) (fd : FD) (c0 : CD) (more : List CD) (wide high : Int) (hF : FrameIn w news f fd) (ok : FOK fd c0 more wide high) :
    Con w mean mg mb 93 [.ref f] news (fun news' r => news' = news ∧ ∃ t, r = .int c0.a t) 5 80 := by
  refine hush fun GG9 out9 => ?_
  obtain ⟨d, cl, xs, t1, t2, t3, t4, t5, t6, v1, v2, v3, v4, v6, n, n0, hf, hfd, hcl, hC⟩ := hF
  obtain ⟨hcs, hfew, hone, ha1, _⟩ := ok
  rw [hcs] at hC
  refine out9 ?_
  clear out9 GG9
  obtain - | @⟨x0, _, xs, _, hC0, hC⟩ := hC
  refine hush fun GG9 out9 => ?_
  obtain ⟨d0, p0, p1, p2, p3, p4, p5, p6, p7, m0, hx0, hd0⟩ := hC0
  refine out9 ?_
  clear out9 GG9
  obtain - | @⟨x1, c1, xs, more, hC1, hC⟩ := hC
  · simp only [List.map] at hcl
    unfold Con; k_fill
    intro dp un gd cn cs a ccd cl outer A₀ base h₀ L m s Q E B F X N T hk hd hu hret
    refine wpAny_call ?_
    k_dflt cell_enter
    k_steps
    all_goals (apply hret; k_asm; exact News.sub (by k_asm) (fun _ h => List.Mem.tail _ h); exact ⟨rfl, int_eq (by omega)⟩)
  · have e1 := hone _ (.head _)
    refine hush fun GG9 out9 => ?_
    obtain ⟨d1, q0, q1, q2, q3, q4, q5, q6, q7, m1, hx1, hd1⟩ := hC1
    refine out9 ?_
    clear out9 GG9
    obtain - | @⟨x2, c2, xs, more, hC2, hC⟩ := hC
    · simp only [List.map] at hcl
      unfold Con; k_fill
      intro dp un gd cn cs a ccd cl outer A₀ base h₀ L m s Q E B F X N T hk hd hu hret
      refine wpAny_call ?_
      k_dflt cell_enter
      k_steps
      all_goals (apply hret; k_asm; exact News.sub (by k_asm) (fun _ h => List.Mem.tail _ h); exact ⟨rfl, int_eq (by omega)⟩)
    · have e2 := hone _ (.tail _ (.head _))
      refine hush fun GG9 out9 => ?_
      obtain ⟨d2, r0, r1, r2, r3, r4, r5, r6, r7, m2, hx2, hd2⟩ := hC2
      refine out9 ?_
      clear out9 GG9
      obtain - | ⟨_, _⟩ := hC
      · simp only [List.map] at hcl
        unfold Con; k_fill
        intro dp un gd cn cs a ccd cl outer A₀ base h₀ L m s Q E B F X N T hk hd hu hret
        refine wpAny_call ?_
        k_dflt cell_enter
        k_steps
        all_goals (apply hret; k_asm; exact News.sub (by k_asm) (fun _ h => List.Mem.tail _ h); exact ⟨rfl, int_eq (by omega)⟩)
      · simp at hfew
theorem most_down_con (w : World) (mean : ExcName → Option Value) (mg mb : Str → Option Value) (news : Led) (f : Addr) (fd : FD) (c0 : CD) (more : List CD) (wide high : Int) (hF : FrameIn w news f fd) (ok : FOK fd c0 more wide high) :
    Con w mean mg mb 98 [.ref f] news (fun news' r => news' = news ∧ ∃ t, r = .int c0.d t) 5 80 := by
  refine hush fun GG9 out9 => ?_
  obtain ⟨d, cl, xs, t1, t2, t3, t4, t5, t6, v1, v2, v3, v4, v6, n, n0, hf, hfd, hcl, hC⟩ := hF
  obtain ⟨hcs, hfew, hone, _, _, ha1, _⟩ := ok
  rw [hcs] at hC
  refine out9 ?_
  clear out9 GG9
  obtain - | @⟨x0, _, xs, _, hC0, hC⟩ := hC
  refine hush fun GG9 out9 => ?_
  obtain ⟨d0, p0, p1, p2, p3, p4, p5, p6, p7, m0, hx0, hd0⟩ := hC0
  refine out9 ?_
  clear out9 GG9
  obtain - | @⟨x1, c1, xs, more, hC1, hC⟩ := hC
  · simp only [List.map] at hcl
    unfold Con; k_fill
    intro dp un gd cn cs a ccd cl outer A₀ base h₀ L m s Q E B F X N T hk hd hu hret
    refine wpAny_call ?_
    k_dflt cell_enter
    k_steps
    all_goals (apply hret; k_asm; exact News.sub (by k_asm) (fun _ h => List.Mem.tail _ h); exact ⟨rfl, int_eq (by omega)⟩)
  · have e1 := hone _ (.head _)
    refine hush fun GG9 out9 => ?_
    obtain ⟨d1, q0, q1, q2, q3, q4, q5, q6, q7, m1, hx1, hd1⟩ := hC1
    refine out9 ?_
    clear out9 GG9
    obtain - | @⟨x2, c2, xs, more, hC2, hC⟩ := hC
    · simp only [List.map] at hcl
      unfold Con; k_fill
      intro dp un gd cn cs a ccd cl outer A₀ base h₀ L m s Q E B F X N T hk hd hu hret
      refine wpAny_call ?_
      k_dflt cell_enter
      k_steps
      all_goals (apply hret; k_asm; exact News.sub (by k_asm) (fun _ h => List.Mem.tail _ h); exact ⟨rfl, int_eq (by omega)⟩)
    · have e2 := hone _ (.tail _ (.head _))
      refine hush fun GG9 out9 => ?_
      obtain ⟨d2, r0, r1, r2, r3, r4, r5, r6, r7, m2, hx2, hd2⟩ := hC2
      refine out9 ?_
      clear out9 GG9
      obtain - | ⟨_, _⟩ := hC
      · simp only [List.map] at hcl
        unfold Con; k_fill
        intro dp un gd cn cs a ccd cl outer A₀ base h₀ L m s Q E B F X N T hk hd hu hret
        refine wpAny_call ?_
        k_dflt cell_enter
        k_steps
        all_goals (apply hret; k_asm; exact News.sub (by k_asm) (fun _ h => List.Mem.tail _ h); exact ⟨rfl, int_eq (by omega)⟩)
      · simp at hfew

theorem flush30most {prog : Program} {w : World} {A : Around} {E : Value → Shared → Prop} {s : Shared} {env : Env} {Q : Flow → Shared → Prop} (h : wpAny (model prog w) A (execs [] env) Q E s) : wpAny (model prog w) A (execs [] env) Q E s := by
  w_top off
  (try (walk1; fail))
  exact h
theorem mcus_across_con (w : World) (mean : ExcName → Option Value) (mg mb : Str → Option Value) (news : Led) (f : Addr) (fd : FD) (c0 : CD) (more : List CD) (wide high : Int) (hF : FrameIn w news f fd) (ok : FOK fd c0 more wide high) :
    Con w mean mg mb 105 [.ref f] news (fun news' r => news' = news ∧ ∃ t, r = .int wide t) 10 160 := by
  have hF' := hF
  refine hush fun GG9 out9 => ?_
  obtain ⟨d, cl, xs, t1, t2, t3, t4, t5, t6, v1, v2, v3, v4, v6, n, n0, hf, hfd, hcl, hC⟩ := hF'
  have ok' := ok
  obtain ⟨hcs, hfew, hone, ha1, ha3, hd1, hd2, hn1, hn2, hw1, hw3, hh1, hh3, hwd, hht⟩ := ok'
  have hna : fd.n * c0.a ≤ 6 := by
    have : fd.n = 1 ∨ fd.n = 2 := by omega
    rcases this with e | e <;> rw [e] <;> omega
  have hna1 : 0 < fd.n * c0.a := Int.mul_pos (by omega) (by omega)
  have hna2 : fd.n * c0.a < 1000 := by omega
  have key : (fd.width + fd.n * c0.a - 1).fdiv (fd.n * c0.a) = wide := fdiv_is hna1 (by omega) (by omega)
  refine out9 ?_
  clear out9 GG9
  unfold Con; k_fill
  intro dp un gd cn cs a ccd cl outer A₀ base h₀ L m s Q E B F X N T hk hd hu hret
  refine wpAny_call ?_
  k_dflt cell_enter
  k_steps
  all_goals (apply hret; k_asm; k_asm; exact ⟨rfl, int_eq key⟩)

theorem mcus_down_con (w : World) (mean : ExcName → Option Value) (mg mb : Str → Option Value) (news : Led) (f : Addr) (fd : FD) (c0 : CD) (more : List CD) (wide high : Int) (hF : FrameIn w news f fd) (ok : FOK fd c0 more wide high) :
    Con w mean mg mb 112 [.ref f] news (fun news' r => news' = news ∧ ∃ t, r = .int high t) 10 160 := by
  have hF' := hF
  refine hush fun GG9 out9 => ?_
  obtain ⟨d, cl, xs, t1, t2, t3, t4, t5, t6, v1, v2, v3, v4, v6, n, n0, hf, hfd, hcl, hC⟩ := hF'
  have ok' := ok
  obtain ⟨hcs, hfew, hone, ha1, ha3, hd1, hd2, hn1, hn2, hw1, hw3, hh1, hh3, hwd, hht, hht'⟩ := ok'
  have hna : fd.n * c0.d ≤ 4 := by
    have : fd.n = 1 ∨ fd.n = 2 := by omega
    rcases this with e | e <;> rw [e] <;> omega
  have hna0 : fd.n ≤ fd.n * c0.d := by
    have : fd.n = 1 ∨ fd.n = 2 := by omega
    rcases this with e | e <;> rw [e] <;> omega
  have hna1 : 0 < fd.n * c0.d := Int.mul_pos (by omega) (by omega)
  have hna2 : fd.n * c0.d < 1000 := by omega
  have key : (fd.height + fd.n * c0.d - 1).fdiv (fd.n * c0.d) = high := fdiv_is hna1 (by omega) (by omega)
  refine out9 ?_
  clear out9 GG9
  unfold Con; k_fill
  intro dp un gd cn cs a ccd cl outer A₀ base h₀ L m s Q E B F X N T hk hd hu hret
  refine wpAny_call ?_
  k_dflt cell_enter
  k_steps
  all_goals (apply hret; k_asm; k_asm; exact ⟨rfl, int_eq key⟩)

theorem flush31mcus {prog : Program} {w : World} {A : Around} {E : Value → Shared → Prop} {s : Shared} {env : Env} {Q : Flow → Shared → Prop} (h : wpAny (model prog w) A (execs [] env) Q E s) : wpAny (model prog w) A (execs [] env) Q E s := by
  w_top off
  (try (walk1; fail))
  exact h
/-- an item of a list of the ledger at a place that is not written -/
theorem item_led {prog : Program} {w : World} {A : Around} {E : Value → Shared → Prop} {s : Shared} {value slice : PySem.Expr} {l : Addr} {vs : List Value} {n : Nat} {k : Int} {u : Tok} {v : Value} {h₀ : Heap} {L : Addr} {news : Led} {Q : Value → Shared → Prop}
    (N : News h₀ L s.heap news) (hm : (l, listOf vs.toArray n) ∈ news) (h0 : 0 ≤ k) (hhi : k < 2 ^ 63) (hx : vs[k.toNat]? = some v) (h : Q v s)
    (hs : subscripted slice false (.ref l) (.int k u) = operate [.ref l, .int k u] (getItem (.ref l) (.int k u)) := by with_unfolding_all rfl) :
    wpAny (model prog w) A (subscriptTail value slice (.ref l) (.int k u)) Q E s :=
  have hl : s.heap.IsList l vs.toArray := ⟨_, (N _ hm).1, rfl, n, rfl⟩
  tail_any hl.typeIs slot_list_getitem.lookup (wpAny_getItem_list hl h0 hhi (by simpa using hx) h) hs
theorem len_led {prog : Program} {w : World} {A : Around} {E : Value → Shared → Prop} {s : Shared} {D : Addr} {vs : List Value} {c n : Nat} {h₀ : Heap} {L : Addr} {news : Led} {Q : Value → Shared → Prop}
    (N : News h₀ L s.heap news) (hm : (D, listOf vs.toArray c) ∈ news) (hs : vs.length = n) (hf : n < 2 ^ 62) (h : Q (.int (n : Nat) (s.toks + 1)) { s with toks := s.toks + 1 + 1 }) :
    wpAny (model prog w) A (call (.builtin "len") [.ref D]) Q E s := KM.len_K N hm (by rw [List.size_toArray]; exact hs) hf h
theorem range_led {prog : Program} {w : World} {A : Around} {E : Value → Shared → Prop} {s : Shared} {k : Int} {t : Tok} {h₀ : Heap} {L : Addr} {m : Str → Option Value} {news : Led} {Q : Value → Shared → Prop}
    (F : Fr h₀ L s.heap m) (N : News h₀ L s.heap news) (h : ∀ r h' tk u v, Fr h₀ L h' m → News h₀ L h' news → IsRange h' r 0 k 1 u t v → Q (.ref r) { s with heap := h', toks := tk }) :
    wpAny (model prog w) A (call (.type "range") [.int k t]) Q E s :=
  call_range_1 (h _ _ _ s.toks (s.toks + 1) (F.push _) (fun p hp => ⟨Heap.get?_push_of_some _ (N p hp).1, (N p hp).2⟩) (Heap.get?_push_size _ rfl))
theorem flat_one {α : Type} (v : α) : ∀ k : Nat, (List.replicate k [v]).flatten = List.replicate k v
  | 0 => rfl
  | k + 1 => by rw [List.replicate_succ, List.flatten_cons, flat_one v k, List.replicate_succ]; rfl
theorem mul_led {prog : Program} {w : World} {A : Around} {E : Value → Shared → Prop} {s : Shared} {l : Addr} {v : Value} {n : Nat} {k : Int} {t : Tok} {h₀ : Heap} {L : Addr} {m : Str → Option Value} {news : Led} {Q : Value → Shared → Prop}
    (F : Fr h₀ L s.heap m) (N : News h₀ L s.heap news) (hm : (l, listOf [v].toArray n) ∈ news) (h0 : 0 ≤ k) (h1 : k ≤ 256)
    (h : ∀ D h', Fr h₀ L h' m → News h₀ L h' ((D, listOf (List.replicate k.toNat v).toArray 0) :: news) → (∀ p ∈ news, p.1 < D) → Q (.ref D) { s with heap := h' }) : wpAny (model prog w) A (binaryOp .Mult (.ref l) (.int k t)) Q E s :=
  KMa.mul F N (News.isList N hm) (by omega) (by omega) (by simp only [List.length_cons, List.length_nil]; omega) (flat_one v k.toNat) h
theorem copy_led {prog : Program} {w : World} {A : Around} {E : Value → Shared → Prop} {s : Shared} {l : Addr} {vs : List Value} {n : Nat} {h₀ : Heap} {L : Addr} {m : Str → Option Value} {news : Led} {Q : Value → Shared → Prop}
    (F : Fr h₀ L s.heap m) (N : News h₀ L s.heap news) (hm : (l, listOf vs.toArray n) ∈ news) (hz : vs.length ≤ 1000)
    (h : ∀ D c h', Fr h₀ L h' m → News h₀ L h' ((D, listOf vs.toArray c) :: news) → (∀ p ∈ news, p.1 < D) → Q (.ref D) { s with heap := h' }) : wpAny (model prog w) A (call (.type "list") [.ref l]) Q E s :=
  list_copyK F N (News.isList N hm) h (by rw [List.size_toArray, sizeLine_eq]; omega)
theorem News.func {h₀ h : Heap} {L a : Addr} {o o' : Obj} {news : Led} (N : News h₀ L h news) (h1 : (a, o) ∈ news) (h2 : (a, o') ∈ news) : o = o' := by
  have e1 := (N _ h1).1
  have e2 := (N _ h2).1
  exact Option.some.inj (e1.symm.trans e2)
theorem inst_ne_list {C d : Addr} {vs : Array Value} {n : Nat} (h : instObj C d = listOf vs n) : False := by
  have := congrArg Obj.cls h
  exact Value.noConfusion this
theorem dict_ne_list {es : List DictEntry} {k : Nat} {vs : Array Value} {n : Nat} (h : dictOf es k = listOf vs n) : False := by
  have := congrArg Obj.data h
  exact Data.noConfusion this

theorem flush32item {prog : Program} {w : World} {A : Around} {E : Value → Shared → Prop} {s : Shared} {env : Env} {Q : Flow → Shared → Prop} (h : wpAny (model prog w) A (execs [] env) Q E s) : wpAny (model prog w) A (execs [] env) Q E s := by
  w_top off
  (try (walk1; fail))
  exact h
local macro_rules | `(tactic| walk_at "subscriptTail") => `(tactic| (k_here; (with_reducible show wpAny _ _ (subscriptTail _ _ (Value.ref _) (Value.int _ _)) _ _ _); (with_unfolding_all refine' item_led ?N ?hm ?h0 ?h1 ?hx ?_ ?hs); (case N => k_asm); (case hm => k_mem); (case h0 => first | assumption | omega); (case h1 => omega); (case hx => assumption); (case hs => with_unfolding_all rfl); k_whole))
local macro_rules | `(tactic| walk_at "call builtin:len") => `(tactic| (k_here; (with_reducible show wpAny _ _ (call (Value.builtin _) [Value.ref _]) _ _ _); (with_unfolding_all refine' len_led ?N ?hm ?hs ?hf ?_); (case N => k_asm); (case hm => k_mem); (case hs => assumption); (case hf => omega); k_whole))
local macro_rules | `(tactic| walk_at "call type:range") => `(tactic| (k_here; (with_reducible show wpAny _ _ (call (Value.type _) [Value.int _ _]) _ _ _); (with_unfolding_all refine' range_led ?F ?N ?_); (case F | N => k_asm); k_whole; intro r9 h9 tk9 u9 v9 F9 N9 R9; (try k_sweep)))
local macro_rules | `(tactic| walk_at "binaryOp Mult ref int") => `(tactic| (k_here; (with_reducible show wpAny _ _ (binaryOp Operator.Mult (Value.ref _) (Value.int _ _)) _ _ _); (with_unfolding_all refine' mul_led ?F ?N ?hm ?h0 ?h1 ?_); (case F | N => k_asm); (case hm => k_mem); (case h0 | h1 => first | assumption | omega); k_whole; intro D9 h9 F9 N9 l9; (try k_lt l9); (try k_sweep)))
local macro_rules | `(tactic| walk_at "call type:list") => `(tactic| (k_here; (with_reducible show wpAny _ _ (call (Value.type _) [Value.ref _]) _ _ _); (with_unfolding_all refine' copy_led ?F ?N ?hm ?hz ?_); (case F | N => k_asm); (case hm => k_mem); (case hz => first | assumption | omega); k_whole; intro D9 c9 h9 F9 N9 l9; (try k_lt l9); (try k_sweep)))
theorem CompsIn.get {w : World} {news : Led} {xs : List Addr} {cs : List CD} (h : CompsIn w news xs cs) : ∀ {i : Nat} {c : CD}, cs[i]? = some c → ∃ x, xs[i]? = some x ∧ CompIn w news x c := by
  induction h with
  | nil => intro i c hc; simp at hc
  | cons h1 h2 ih =>
    intro i c hc
    cases i with
    | zero => simp at hc; subst hc; exact ⟨_, rfl, h1⟩
    | succ i => exact ih (by simpa using hc)
theorem CompsIn.length {w : World} {news : Led} {xs : List Addr} {cs : List CD} (h : CompsIn w news xs cs) : xs.length = cs.length := by
  induction h with
  | nil => rfl
  | cons h1 h2 ih => simp [ih]
/-- what holds of all members, member by member -/
theorem fc {α : Type} {P : α → Prop} {a : α} {l : List α} (h : P a) (t : ∀ p ∈ l, P p) : ∀ p ∈ a :: l, P p := List.forall_mem_cons.mpr ⟨h, t⟩
theorem pmS {α : Type} {a b q : α} {l : List α} (h : q ∈ a :: b :: l) : q ∈ b :: a :: l := by
  simp only [List.mem_cons] at h ⊢
  rcases h with h | h | h <;> simp [h]
theorem pmA {α : Type} {a b c d q : α} {l : List α} (h : q ∈ a :: b :: c :: d :: l) : q ∈ a :: c :: d :: b :: l := by
  simp only [List.mem_cons] at h ⊢
  rcases h with h | h | h | h | h <;> simp [h]
theorem pmB {α : Type} {a b c d i q : α} {l : List α} (h : q ∈ a :: b :: c :: d :: l) : q ∈ c :: d :: i :: a :: b :: l := by
  simp only [List.mem_cons] at h ⊢
  rcases h with h | h | h | h | h <;> simp [h]
theorem pmC {α : Type} {a b c x y q : α} {l : List α} (h : q ∈ a :: b :: c :: x :: l) : q ∈ x :: y :: a :: b :: c :: l := by
  simp only [List.mem_cons] at h ⊢
  rcases h with h | h | h | h | h <;> simp [h]
theorem pmE {α : Type} {a c x d q : α} {l : List α} (h : q ∈ a :: x :: d :: l) : q ∈ a :: c :: x :: d :: l := by
  simp only [List.mem_cons] at h ⊢
  rcases h with h | h | h | h <;> simp [h]
theorem pmD {α : Type} {a b c d e x q : α} {l r : List α} (h : q ∈ a :: b :: c :: d :: e :: x :: (r ++ l)) : q ∈ x :: (r ++ a :: b :: c :: d :: e :: l) := by
  simp only [List.mem_cons, List.mem_append] at h ⊢
  rcases h with h | h | h | h | h | h | h | h <;> simp [h]
theorem padded_con (w : World) (mean : ExcName → Option Value) (mg mb : Str → Option Value) (news : Led) (f : Addr) (fd : FD) (c0 : CD) (more : List CD) (wide high : Int) (hF : FrameIn w news f fd) (ok : FOK fd c0 more wide high)
    (j : Int) (tj : Tok) (c : CD) (hj0 : 0 ≤ j) (hj : j < 3) (hc : fd.comps[j.toNat]? = some c) :
    Con w mean mg mb 133 [.ref f, .int j tj] news (fun news' r => ∃ t ta tb, r = .ref t ∧ news' = (t, tupOf [.int (wide * c.a) ta, .int (high * c.d) tb]) :: news ∧ AllLt t news) 20 320 := by
  have hF' := hF
  refine hush fun GG9 out9 => ?_
  obtain ⟨d, cl, xs, t1, t2, t3, t4, t5, t6, v1, v2, v3, v4, v6, n, n0, hf, hfd, hcl, hC⟩ := hF'
  have ok' := ok
  obtain ⟨hcs, hfew, hone, ha1, ha3, hd1, hd2, hn1, hn2, hw1, hw3, hh1, hh3, hwd, hht⟩ := ok'
  obtain ⟨x, hx, hxc⟩ := hC.get hc
  have hx : (xs.map Value.ref)[j.toNat]? = some (.ref x) := by simp [hx]
  obtain ⟨dx, p0, p1, p2, p3, p4, p5, p6, p7, m0, hx0, hdx⟩ := hxc
  have hca : -1000 ≤ c.a ∧ c.a ≤ 1000 := by
    rw [hcs] at hc
    have := List.mem_of_getElem? hc
    rcases List.mem_cons.mp this with rfl | hm
    · omega
    · have := hone _ hm; omega
  have hcd : -1000 ≤ c.d ∧ c.d ≤ 1000 := by
    rw [hcs] at hc
    have := List.mem_of_getElem? hc
    rcases List.mem_cons.mp this with rfl | hm
    · omega
    · have := hone _ hm; omega
  refine out9 ?_
  clear out9 GG9
  unfold Con; k_fill
  intro dp un gd cn cs a ccd cl outer A₀ base h₀ L m s Q E B F X N T hk hd hu hret
  refine wpAny_call ?_
  k_dflt cell_enter
  k_steps
  all_goals (apply hret; k_asm; k_asm; exact ⟨_, _, _, rfl, rfl, by first | assumption | exact allLt_of (by assumption)⟩)

theorem flush33padded {prog : Program} {w : World} {A : Around} {E : Value → Shared → Prop} {s : Shared} {env : Env} {Q : Flow → Shared → Prop} (h : wpAny (model prog w) A (execs [] env) Q E s) : wpAny (model prog w) A (execs [] env) Q E s := by
  w_top off
  (try (walk1; fail))
  exact h
abbrev Cell := Option (List Int)
def CellIn (news : Led) (st : List Addr) (v : Value) (c : Cell) : Prop :=
  match c with
  | none => v = .none
  | some is => ∃ (b : Addr) (vs : List Value) (n : Nat), v = .ref b ∧ (b, listOf vs.toArray n) ∈ news ∧ IntsAre vs is ∧ b ∉ st
inductive RowIn (news : Led) (st : List Addr) (ra : Addr) (W : Nat) (R : Nat → Cell) : Prop
  | mk (vs : List Value) (n : Nat) (hra : (ra, listOf vs.toArray n) ∈ news) (hl : vs.length = W) (hc : ∀ (i : Nat) (v : Value), vs[i]? = some v → CellIn news st v (R i)) : RowIn news st ra W R
inductive PlaneIn (news : Led) (st : List Addr) (p : Addr) (ras : List Addr) (W : Nat) (Pl : Nat → Nat → Cell) : Prop
  | mk (n : Nat) (hp : (p, listOf (ras.map Value.ref).toArray n) ∈ news) (hr : ∀ (j : Nat) (ra : Addr), ras[j]? = some ra → RowIn news st ra W (Pl j)) : PlaneIn news st p ras W Pl
def PlanesIn (news : Led) (st : List Addr) (pas : List Addr) (rass : List (List Addr)) (Ws : Nat → Nat) (G : Nat → Nat → Nat → Cell) : Prop :=
  ∀ k p ras, pas[k]? = some p → rass[k]? = some ras → PlaneIn news st p ras (Ws k) (G k)
abbrev gridEs (w : World) (many : Int) (P : Addr) (t1 t2 v1 : Tok) : List DictEntry := [ent w "many" t1 (.int many v1), ent w "planes" t2 (.ref P)]
inductive GridIn (w : World) (news : Led) (st : List Addr) (g P : Addr) (many : Int) (pas : List Addr) (rass : List (List Addr)) (Ws : Nat → Nat) (G : Nat → Nat → Nat → Cell) : Prop
  | mk (d : Addr) (t1 t2 v1 : Tok) (n n1 : Nat) (hg : (g, instObj 169 d) ∈ news) (hd : (d, dictOf (gridEs w many P t1 t2 v1) n) ∈ news) (hP : (P, listOf (pas.map Value.ref).toArray n1) ∈ news) (hPl : PlanesIn news st pas rass Ws G) : GridIn w news st g P many pas rass Ws G

theorem CellIn.mono {news news' : Led} {st : List Addr} {v : Value} {c : Cell} (h : CellIn news st v c) (hs : ∀ p ∈ news, p ∈ news') : CellIn news' st v c := by
  unfold CellIn at *
  cases c with
  | none => exact h
  | some is => obtain ⟨b, vs, n, e, hm, hi, hb⟩ := h; exact ⟨b, vs, n, e, hs _ hm, hi, hb⟩
theorem RowIn.mono {news news' : Led} {st : List Addr} {ra : Addr} {W : Nat} {R : Nat → Cell} (h : RowIn news st ra W R) (hs : ∀ p ∈ news, p ∈ news') : RowIn news' st ra W R := by
  obtain ⟨vs, n, hm, hl, hc⟩ := h
  exact ⟨vs, n, hs _ hm, hl, fun i v e => (hc i v e).mono hs⟩
theorem PlaneIn.mono {news news' : Led} {st : List Addr} {p : Addr} {ras : List Addr} {W : Nat} {Pl : Nat → Nat → Cell} (h : PlaneIn news st p ras W Pl) (hs : ∀ p ∈ news, p ∈ news') : PlaneIn news' st p ras W Pl := by
  obtain ⟨n, hm, hr⟩ := h
  exact ⟨n, hs _ hm, fun j ra e => (hr j ra e).mono hs⟩
theorem PlanesIn.mono {news news' : Led} {st pas : List Addr} {rass : List (List Addr)} {Ws : Nat → Nat} {G : Nat → Nat → Nat → Cell} (h : PlanesIn news st pas rass Ws G) (hs : ∀ p ∈ news, p ∈ news') : PlanesIn news' st pas rass Ws G :=
  fun k p ras e1 e2 => (h k p ras e1 e2).mono hs
theorem GridIn.mono {w : World} {news news' : Led} {st : List Addr} {g P : Addr} {many : Int} {pas : List Addr} {rass : List (List Addr)} {Ws : Nat → Nat} {G : Nat → Nat → Nat → Cell} (h : GridIn w news st g P many pas rass Ws G) (hs : ∀ p ∈ news, p ∈ news') : GridIn w news' st g P many pas rass Ws G := by
  obtain ⟨d, t1, t2, v1, n, n1, h1, h2, h3, h4⟩ := h
  exact ⟨d, t1, t2, v1, n, n1, hs _ h1, hs _ h2, hs _ h3, h4.mono hs⟩
/-- the rows and planes of a grid: where its structure lies -/
abbrev stOf (P : Addr) (pas : List Addr) (rass : List (List Addr)) : List Addr := P :: (pas ++ rass.flatten)
theorem mem_st_row {P : Addr} {pas : List Addr} {rass : List (List Addr)} {k j : Nat} {ras : List Addr} {ra : Addr} (h1 : rass[k]? = some ras) (h2 : ras[j]? = some ra) : ra ∈ stOf P pas rass :=
  List.mem_cons_of_mem _ (List.mem_append_right _ (List.mem_flatten.mpr ⟨ras, List.mem_of_getElem? h1, List.mem_of_getElem? h2⟩))
theorem mem_st_plane {P : Addr} {pas : List Addr} {rass : List (List Addr)} {k : Nat} {p : Addr} (h1 : pas[k]? = some p) : p ∈ stOf P pas rass :=
  List.mem_cons_of_mem _ (List.mem_append_left _ (List.mem_of_getElem? h1))
/-- what of news' is new beside news -/
def newp (news news' : Led) : Led := news'.filter fun p => news.all fun q => decide (q.1 ≠ p.1)
theorem mem_newp {news news' : Led} {p : Addr × Obj} : p ∈ newp news news' ↔ p ∈ news' ∧ ∀ q ∈ news, q.1 ≠ p.1 := by
  unfold newp; rw [List.mem_filter, List.all_eq_true]
  constructor
  · exact fun h => ⟨h.1, fun q hq => of_decide_eq_true (h.2 q hq)⟩
  · exact fun h => ⟨h.1, fun q hq => decide_eq_true (h.2 q hq)⟩
theorem PlanesIn.restrict {news nn : Led} {st pas : List Addr} {P : Addr} {rass : List (List Addr)} {Ws : Nat → Nat} (h : PlanesIn news st pas rass Ws (fun _ _ _ => none)) (hs : ∀ p ∈ news, p.1 ∈ pas ++ rass.flatten → p ∈ nn) : PlanesIn nn st pas rass Ws (fun _ _ _ => none) := by
  intro k p ras e1 e2
  obtain ⟨n, hp, hr⟩ := h k p ras e1 e2
  refine ⟨n, hs _ hp (List.mem_append_left _ (List.mem_of_getElem? e1)), fun j ra e => ?_⟩
  obtain ⟨vs, n', hm, hl, hc⟩ := hr j ra e
  exact ⟨vs, n', hs _ hm (List.mem_append_right _ (List.mem_flatten.mpr ⟨ras, List.mem_of_getElem? e2, List.mem_of_getElem? e⟩)), hl, hc⟩
/-- one address, one object -/
def Fn (news : Led) : Prop := ∀ a o o', (a, o) ∈ news → (a, o') ∈ news → o = o'
theorem Fn.of {h₀ h : Heap} {L : Addr} {news : Led} (N : News h₀ L h news) : Fn news := fun a o o' h1 h2 => Option.some.inj ((N _ h1).1.symm.trans (N _ h2).1)
theorem Fn.sub {news nn : Led} (F : Fn news) (hs : ∀ p ∈ nn, p ∈ news) : Fn nn := fun a o o' h1 h2 => F a o o' (hs _ h1) (hs _ h2)
/-- a grid's content with one cell anew -/
def upd (G : Nat → Nat → Nat → Cell) (k y x : Nat) (c : Cell) : Nat → Nat → Nat → Cell := fun k' y' x' => if k' = k ∧ y' = y ∧ x' = x then c else G k' y' x'

theorem flatten_apart {α : Type} : ∀ {ls : List (List α)}, ls.flatten.Nodup → ∀ {i j : Nat} {a b : List α} {x : α}, ls[i]? = some a → ls[j]? = some b → x ∈ a → x ∈ b → i = j
  | [], _, i, j, a, b, x, h1, _, _, _ => by simp at h1
  | l :: ls, hn, i, j, a, b, x, h1, h2, ha, hb => by
    rw [List.flatten_cons, List.nodup_append] at hn
    obtain ⟨_, n2, n3⟩ := hn
    cases i with
    | zero =>
      cases j with
      | zero => rfl
      | succ j =>
        simp only [List.getElem?_cons_zero, Option.some.injEq, List.getElem?_cons_succ] at h1 h2
        subst h1
        exact absurd rfl (n3 x ha x (List.mem_flatten.mpr ⟨b, List.mem_of_getElem? h2, hb⟩))
    | succ i =>
      cases j with
      | zero =>
        simp only [List.getElem?_cons_zero, Option.some.injEq, List.getElem?_cons_succ] at h1 h2
        subst h2
        exact absurd rfl (n3 x hb x (List.mem_flatten.mpr ⟨a, List.mem_of_getElem? h1, ha⟩))
      | succ j =>
        simp only [List.getElem?_cons_succ] at h1 h2
        rw [flatten_apart n2 h1 h2 ha hb]
theorem flatten_nodup_at {α : Type} : ∀ {ls : List (List α)}, ls.flatten.Nodup → ∀ {i : Nat} {a : List α}, ls[i]? = some a → a.Nodup
  | [], _, i, a, h1 => by simp at h1
  | l :: ls, hn, i, a, h1 => by
    rw [List.flatten_cons, List.nodup_append] at hn
    cases i with
    | zero => simp only [List.getElem?_cons_zero, Option.some.injEq] at h1; exact h1 ▸ hn.1
    | succ i => simp only [List.getElem?_cons_succ] at h1; exact flatten_nodup_at hn.2.1 h1
theorem nodup_at {α : Type} {l : List α} (hn : l.Nodup) {i j : Nat} {x : α} (h1 : l[i]? = some x) (h2 : l[j]? = some x) : i = j := by
  obtain ⟨a1, e1⟩ := List.getElem?_eq_some_iff.mp h1
  obtain ⟨a2, e2⟩ := List.getElem?_eq_some_iff.mp h2
  rcases Nat.lt_trichotomy i j with h | h | h
  · exact absurd (e1.trans e2.symm) (List.pairwise_iff_getElem.mp hn i j a1 a2 h)
  · exact h
  · exact absurd (e2.trans e1.symm) (List.pairwise_iff_getElem.mp hn j i a2 a1 h)

theorem GridIn.put {w : World} {nn : Led} {g P : Addr} {many : Int} {pas : List Addr} {rass : List (List Addr)} {Ws : Nat → Nat} {G : Nat → Nat → Nat → Cell} (Fn' : Fn nn)
    (hG : GridIn w nn (stOf P pas rass) g P many pas rass Ws G) (hn : (stOf P pas rass).Nodup) {k y x : Nat} {ras : List Addr} {ra : Addr} (e2 : rass[k]? = some ras) (e3 : ras[y]? = some ra) (e4 : x < Ws k)
    {vs : List Value} {n : Nat} (hra : (ra, listOf vs.toArray n) ∈ nn) {b : Addr} {rvs : List Value} {c : Nat} {is : List Int} (hi : IntsAre rvs is) (hb : ∀ q ∈ nn, q.1 ≠ b) (hbs : b ∉ stOf P pas rass) :
    GridIn w ((b, listOf rvs.toArray c) :: repl ra (listOf (vs.set x (.ref b)).toArray n) nn) (stOf P pas rass) g P many pas rass Ws (upd G k y x (some is)) := by
  obtain ⟨d, t1, t2, v1, m, m1, hg, hd, hP, hPl⟩ := hG
  have hst : ra ∈ stOf P pas rass := mem_st_row e2 e3
  have hn' := hn
  rw [List.nodup_cons, List.nodup_append] at hn'
  obtain ⟨hn1, hn2, hn3, hn4⟩ := hn'
  have hraf : ra ∈ rass.flatten := List.mem_flatten.mpr ⟨ras, List.mem_of_getElem? e2, List.mem_of_getElem? e3⟩
  have up : ∀ {a : Addr} {o : Obj}, (a, o) ∈ nn → a ≠ ra → (a, o) ∈ (b, listOf rvs.toArray c) :: repl ra (listOf (vs.set x (.ref b)).toArray n) nn := fun h e => .tail _ (mem_repl h e)
  have hgr : g ≠ ra := fun e => inst_ne_list (Fn' _ _ _ hg (e ▸ hra))
  have hdr : d ≠ ra := fun e => dict_ne_list (Fn' _ _ _ hd (e ▸ hra))
  have hPr : P ≠ ra := fun e => hn1 (e ▸ List.mem_append_right _ hraf)
  have hcellup : ∀ {v : Value} {c' : Cell}, CellIn nn (stOf P pas rass) v c' → CellIn ((b, listOf rvs.toArray c) :: repl ra (listOf (vs.set x (.ref b)).toArray n) nn) (stOf P pas rass) v c' := by
    intro v c' h
    unfold CellIn at *
    cases c' with
    | none => exact h
    | some is' =>
      obtain ⟨b', vs', n', e, hm, hi', hb'⟩ := h
      exact ⟨b', vs', n', e, up hm (fun e => hb' (e ▸ hst)), hi', hb'⟩
  refine ⟨d, t1, t2, v1, m, m1, up hg hgr, up hd hdr, up hP hPr, ?_⟩
  intro k' p' ras' f1 f2
  obtain ⟨n2, hp', hrow⟩ := hPl k' p' ras' f1 f2
  have hpr : p' ≠ ra := fun e => hn4 p' (List.mem_of_getElem? f1) ra hraf e
  refine ⟨n2, up hp' hpr, fun j ra' f3 => ?_⟩
  obtain ⟨vs', n3, hra', hl', hc'⟩ := hrow j ra' f3
  by_cases e : ra' = ra
  · subst e
    have ek : k' = k := flatten_apart hn3 f2 e2 (List.mem_of_getElem? f3) (List.mem_of_getElem? e3)
    subst ek
    have er : ras' = ras := Option.some.inj (f2.symm.trans e2)
    subst er
    have ej : j = y := nodup_at (flatten_nodup_at hn3 e2) f3 e3
    subst ej
    have eo := Fn' _ _ _ hra' hra
    have ed := congrArg Obj.data eo
    have ev : vs' = vs ∧ n3 = n := by
      have h1 : Data.seq vs'.toArray n3 = Data.seq vs.toArray n := ed
      injection h1 with h1 h2
      exact ⟨by simpa using congrArg Array.toList h1, h2⟩
    obtain ⟨rfl, rfl⟩ := ev
    refine ⟨vs'.set x (.ref b), n3, .tail _ (mem_repl_self hra'), by rw [List.length_set]; exact hl', fun i v f4 => ?_⟩
    by_cases ei : i = x
    · subst ei
      rw [List.getElem?_set_self (by omega)] at f4
      cases f4
      simp only [upd, and_self, if_true]
      exact ⟨b, rvs, c, rfl, .head _, hi, hbs⟩
    · rw [List.getElem?_set_ne (Ne.symm ei)] at f4
      simp only [upd, ei, and_false, if_false]
      exact hcellup (hc' i v f4)
  · refine ⟨vs', n3, up hra' e, hl', fun i v f4 => ?_⟩
    have : upd G k y x (some is) k' j i = G k' j i := by
      unfold upd
      rw [if_neg]
      rintro ⟨rfl, rfl, rfl⟩
      have er : ras' = ras := Option.some.inj (f2.symm.trans e2)
      subst er
      exact e (Option.some.inj (f3.symm.trans e3))
    rw [this]
    exact hcellup (hc' i v f4)

theorem flush34gridpred {prog : Program} {w : World} {A : Around} {E : Value → Shared → Prop} {s : Shared} {env : Env} {Q : Flow → Shared → Prop} (h : wpAny (model prog w) A (execs [] env) Q E s) : wpAny (model prog w) A (execs [] env) Q E s := by
  w_top off
  (try (walk1; fail))
  exact h
abbrev cAt (fd : FD) (k : Nat) : CD := fd.comps.getD k ⟨0, 0, 0, 0⟩
abbrev WsOf (fd : FD) (wide : Int) : Nat → Nat := fun k => (wide * (cAt fd k).a).toNat
abbrev HsOf (fd : FD) (high : Int) : Nat → Nat := fun k => (high * (cAt fd k).d).toNat
theorem FOK.len3 {fd : FD} {c0 : CD} {more : List CD} {wide high : Int} (ok : FOK fd c0 more wide high) : fd.comps.length ≤ 3 := by
  have := ok.few
  rw [ok.comps, List.length_cons]; omega
theorem FOK.ca {fd : FD} {c0 : CD} {more : List CD} {wide high : Int} (ok : FOK fd c0 more wide high) : ∀ i, i < fd.comps.length → 1 ≤ (cAt fd i).a ∧ (cAt fd i).a ≤ 3 ∧ 1 ≤ (cAt fd i).d ∧ (cAt fd i).d ≤ 2 := by
  obtain ⟨hcs, hfew, hone, ha1, ha3, hd1, hd2, _⟩ := ok
  intro i hi
  have hm : cAt fd i ∈ c0 :: more := by rw [← hcs]; simp [cAt, List.getD, hi]
  rcases List.mem_cons.mp hm with e | hm
  · rw [e]; omega
  · have := hone _ hm; omega
theorem FOK.ws {fd : FD} {c0 : CD} {more : List CD} {wide high : Int} (ok : FOK fd c0 more wide high) : ∀ i, i < fd.comps.length → 1 ≤ wide * (cAt fd i).a ∧ wide * (cAt fd i).a ≤ 9 := by
  intro i hi
  have := ok.ca i hi
  have h1 := ok.w1
  have h2 := ok.w3
  have e : (cAt fd i).a = 1 ∨ (cAt fd i).a = 2 ∨ (cAt fd i).a = 3 := by omega
  rcases e with e | e | e <;> rw [e] <;> omega
theorem FOK.hs {fd : FD} {c0 : CD} {more : List CD} {wide high : Int} (ok : FOK fd c0 more wide high) : ∀ i, i < fd.comps.length → 1 ≤ high * (cAt fd i).d ∧ high * (cAt fd i).d ≤ 6 := by
  intro i hi
  have := ok.ca i hi
  have h1 := ok.h1
  have h2 := ok.h3
  have e : (cAt fd i).d = 1 ∨ (cAt fd i).d = 2 := by omega
  rcases e with e | e <;> rw [e] <;> omega
theorem FOK.nn {fd : FD} {c0 : CD} {more : List CD} {wide high : Int} (ok : FOK fd c0 more wide high) : 1 ≤ fd.n * fd.n ∧ fd.n * fd.n ≤ 4 := by
  have h1 := ok.n1
  have h2 := ok.n2
  have e : fd.n = 1 ∨ fd.n = 2 := by omega
  rcases e with e | e <;> rw [e] <;> decide
structure GJ (news : Led) (x d P c : Addr) (fd : FD) (wide high : Int) (i : Nat) (pas : List Addr) (rass : List (List Addr)) (rest : Led) : Prop where
  lp : pas.length = i
  lr : rass.length = i
  planes : PlanesIn rest [] pas rass (WsOf fd wide) (fun _ _ _ => none)
  sub : ∀ p ∈ news, p ∈ rest
  new : ∀ p ∈ rest, p ∈ news ∨ ∀ q ∈ news, q.1 ≠ p.1
  offP : ∀ p ∈ rest, p.1 ≠ P
  offc : ∀ p ∈ rest, p.1 ≠ c
  offx : ∀ p ∈ rest, p.1 ≠ x
  offd : ∀ p ∈ rest, p.1 ≠ d
  nodup : (pas ++ rass.flatten).Nodup
  big : ∀ a ∈ pas ++ rass.flatten, P ≠ a
  fresh : ∀ a ∈ pas ++ rass.flatten, ∀ q ∈ news, q.1 ≠ a
  inn : ∀ a ∈ pas ++ rass.flatten, ∃ o, (a, o) ∈ rest
  hts : ∀ k ras, rass[k]? = some ras → ras.length = HsOf fd high k

/-- how a grid of a frame is laid: a plane a component, so many rows, all apart -/
structure GShape (fd : FD) (high : Int) (P : Addr) (pas : List Addr) (rass : List (List Addr)) : Prop where
  lp : pas.length = fd.comps.length
  lr : rass.length = fd.comps.length
  hts : ∀ k ras, rass[k]? = some ras → ras.length = HsOf fd high k
  nodup : (stOf P pas rass).Nodup
/-- news' has all of news and what is new besides -/
structure Grown (news news' : Led) : Prop where
  sub : ∀ p ∈ news, p ∈ news'
  new : ∀ p ∈ news', p ∈ news ∨ ∀ q ∈ news, q.1 ≠ p.1
theorem PlanesIn.st_none {news : Led} {st st' pas : List Addr} {rass : List (List Addr)} {Ws : Nat → Nat} (h : PlanesIn news st pas rass Ws (fun _ _ _ => none)) : PlanesIn news st' pas rass Ws (fun _ _ _ => none) := fun k p ras e1 e2 => by
  obtain ⟨n, hp, hr⟩ := h k p ras e1 e2
  exact ⟨n, hp, fun j ra e => by
    obtain ⟨vs, n', a, b, c⟩ := hr j ra e
    exact ⟨vs, n', a, b, c⟩⟩
section
theorem snoc_get {α : Type} {l : List α} {x y : α} {i k : Nat} (hl : l.length = i) (h : (l ++ [x])[k]? = some y) : (k < i ∧ l[k]? = some y) ∨ (k = i ∧ y = x) := by
  by_cases hk : k < l.length
  · rw [List.getElem?_append_left hk] at h
    exact .inl ⟨hl ▸ hk, h⟩
  · rw [List.getElem?_append_right (Nat.le_of_not_lt hk)] at h
    have h0 : k - l.length = 0 := by
      obtain ⟨h1, _⟩ := List.getElem?_eq_some_iff.mp h
      simp only [List.length_cons, List.length_nil] at h1
      omega
    rw [h0] at h
    simp only [List.getElem?_cons_zero, Option.some.injEq] at h
    exact .inr ⟨by omega, h.symm⟩
theorem grid_con (w : World) (mean : ExcName → Option Value) (mg mb : Str → Option Value) (news : Led) (f : Addr) (fd : FD) (c0 : CD) (more : List CD) (wide high : Int) (hF : FrameIn w news f fd) (ok : FOK fd c0 more wide high) :
    Con w mean mg mb 169 [.ref f] news (fun news' r => ∃ x P pas rass, r = .ref x ∧ GShape fd high P pas rass ∧ GridIn w (newp news news') (stOf P pas rass) x P (fd.n * fd.n) pas rass (WsOf fd wide) (fun _ _ _ => none) ∧ Grown news news' ∧ ∀ a ∈ stOf P pas rass, ∀ q ∈ news, q.1 ≠ a) 30 400 := by
  have hF' := hF
  refine hush fun GG9 out9 => ?_
  obtain ⟨d, cl, xs, t1, t2, t3, t4, t5, t6, v1, v2, v3, v4, v6, n, n0, hf, hfd, hcl, hC⟩ := hF'
  have ok' := ok
  obtain ⟨hcs, hfew, hone, ha1, ha3, hd1, hd2, hn1, hn2, hw1, hw3, hh1, hh3, hwd, hht⟩ := ok'
  have hlen : (xs.map Value.ref).length = fd.comps.length := by rw [List.length_map]; exact hC.length
  have hlen3 : fd.comps.length ≤ 3 := by rw [hcs, List.length_cons]; omega
  have hWs := ok.ws
  have hHs := ok.hs
  refine out9 ?_
  clear out9 GG9
  unfold Con; k_fill
  intro dp un gd cn cs a ccd cl outer A₀ base h₀ L m s Q E B F X N T hk hd hu hret
  k_steps
  rename_i x dI h4 F4 N4 l12 l2 g L' h3 tk' FG B' X' T' l11 oc dc h2 P h1 l1 h' r h9 tk9 u9 v9 F9 N9 R9
  refine Stop.mk ?_
  refine for_upto (fun i m nx => ∃ pas rass rest oc v0 tt1 tt2 vv1, nx = (P, listOf (pas.map Value.ref).toArray i) :: (L' + 1, oc) :: (x, instObj 169 dI) :: (dI, dictOf (gridEs w (fd.n * fd.n) P tt1 tt2 vv1) 2) :: rest ∧ oc.data = .cell v0 ∧
    GJ news x dI P (L' + 1) fd wide high i pas rass rest ∧ m (Str.ofString "self") = some (.ref x) ∧ m (Str.ofString "frame") = some (.ref f)) rfl R9 (by omega) (by omega) F9 N9 ⟨[], [], news, oc, _, _, _, _, rfl, dc, ?_, rfl, rfl⟩ ?_ ?_
  · exact GJ.mk rfl rfl (fun k p ras e => by simp at e) (fun _ h => h) (fun _ h => .inl h) (ne_of_allLt l1.2.2.2) (ne_add l11.2.2) (fun p hp => Nat.ne_of_lt (Nat.lt_trans (l12 p hp) l2)) (ne_of_lt l12) List.Pairwise.nil (fun _ h => nomatch h) (fun _ h => nomatch h) (fun _ h => nomatch h) (fun k ras e => by simp at e) -- fun _ h => h, fun _ h => .inl h, ne_of_allLt l1.2.2.2, ne_add l11.2.2, fun p hp => Nat.ne_of_lt (Nat.lt_trans (l12 p hp) l2), ne_of_lt l12, List.Pairwise.nil, fun _ h => nomatch h, fun _ h => nomatch h, fun k ras e => nomatch e⟩
  · intro i tv m₁ nx h tk I oI hi PP1 hoff F N
    refine hush fun GG9 out9 => ?_
    obtain ⟨pas, rass, rest, oc, v0, tt1, tt2, vv1, rfl, ho, G, e1, e2⟩ := PP1
    have F := Fr.over F [(Str.ofString "self", .ref x), (Str.ofString "frame", .ref f)] (by simp [e1, e2])
    dsimp only [over] at F
    have F : Fr g L' h _ := F
    have N : News g L' h _ := N
    have hoff := off1_of hoff
    simp only [LCg.Off1] at hoff
    have hi' : i < fd.comps.length := by simpa using hi
    have c1 := hoff.1
    have c2 := hoff.2.1
    have c3 := hoff.2.2.1
    have c4 := hoff.2.2.2.1
    have c5 := c1.symm
    have c6 := c2.symm
    have c7 : P ≠ L' + 1 := Nat.ne_of_gt l1.1
    have c8 := c7.symm
    have hc : fd.comps[((i : Nat) : Int).toNat]? = some (cAt fd i) := by simp [cAt, List.getD, hi']
    have hF1 := hF.mono G.sub
    have hf := G.sub _ hf
    have hfd := G.sub _ hfd
    have hcl := G.sub _ hcl
    obtain ⟨g1, g2, g3, g4, g5, oP, oc', ox, od, g6, g7, gf, g8, gh⟩ := G
    clear F9 N9 R9 F4 N4
    refine out9 ?_
    clear out9 GG9
    refine hushQ fun QQ9 outQ9 => ?_
    k_steps
    rename_i h91 tk91 t9 ta9 tb9 l9 h2' h1' o9 d9 h' r9 h9 tk9 u9 v9 F9 N9 R9
    have hdn : 1 ≤ high * (cAt fd i).d ∧ high * (cAt fd i).d ≤ 6 := hHs i hi'
    have han : 1 ≤ wide * (cAt fd i).a ∧ wide * (cAt fd i).a ≤ 9 := hWs i hi'
    refine LCg.CompSrc.range (n := (high * (cAt fd i).d).toNat) rfl F9 (news := (I, oI) :: (P, listOf (pas.map Value.ref).toArray i) :: (L' + 1, o9) :: (x, instObj 169 dI) :: (dI, dictOf (gridEs w (fd.n * fd.n) P tt1 tt2 vv1) 2) :: rest) (News.sub N9 fun p hp => .tail _ hp) R9 (small_one (by omega) (by omega) (by omega) (by omega)) (by rw [rangeSize_one]; split <;> omega) (by rw [sizeLine_eq]; omega) ?_
    intro g9
    have hcell : (L' + 1, o9) ∈ (I, oI) :: (P, listOf (pas.map Value.ref).toArray i) :: (L' + 1, o9) :: (x, instObj 169 dI) :: (dI, dictOf (gridEs w (fd.n * fd.n) P tt1 tt2 vv1) 2) :: rest := .tail _ (.tail _ (.head _))
    generalize hB : (I, oI) :: (P, listOf (pas.map Value.ref).toArray i) :: (L' + 1, o9) :: (x, instObj 169 dI) :: (dI, dictOf (gridEs w (fd.n * fd.n) P tt1 tt2 vv1) 2) :: rest = BASE at hcell ⊢
    refine comp_inv (fun j ys nx => ∃ ras rows, ys = ras.map Value.ref ∧ nx = rows ++ BASE ∧ (∀ ra ∈ ras, (ra, listOf (List.replicate (wide * (cAt fd i).a).toNat Value.none).toArray 0) ∈ rows) ∧ (∀ p ∈ rows, p.1 ∈ ras) ∧ ras.Nodup ∧ ∀ ra ∈ ras, ∀ p ∈ BASE, p.1 < ra)
      ⟨[], [], rfl, rfl, (fun _ h => nomatch h), (fun _ h => nomatch h), List.Pairwise.nil, (fun _ h => nomatch h)⟩ ?_ ?_
    · intro j ys nx v I2 oI2 C oC D m₂ h tk E' hj hyl hv PP1 hC hx2 F N off ne
      refine hush fun GG9 out9 => ?_
      obtain ⟨ras, rows, rfl, rfl, b1, b2, b3, b4⟩ := PP1
      clear F9 N9 R9
      have hcell' := List.mem_append_right rows hcell
      refine out9 ?_
      clear out9 GG9
      k_steps
      rename_i l3 h3' l13 D9 h9' F9 N9 l9
      refine LCg.CompEnd.intro F9 N9 ((D9, listOf (List.replicate (wide * (cAt fd i).a).toNat Value.none).toArray 0) :: (rows ++ BASE)) ?_ ?_ trivial ⟨ras ++ [D9], (D9, listOf (List.replicate (wide * (cAt fd i).a).toNat Value.none).toArray 0) :: rows, by simp, rfl, ?_, ?_, ?_, ?_⟩
      · exact fun p hp => pmC hp
      · exact ⟨⟨Nat.ne_of_gt l9.2.1, Nat.ne_of_gt l9.2.2.1, Nat.ne_of_gt l9.2.2.2.1⟩, off⟩
      · intro ra hra
        rcases List.mem_append.mp hra with h | h
        · exact .tail _ (b1 ra h)
        · rw [List.mem_singleton.mp h]; exact .head _
      · intro p hp
        rcases List.mem_cons.mp hp with rfl | h
        · exact List.mem_append_right _ (.head _)
        · exact List.mem_append_left _ (b2 p h)
      · rw [List.nodup_append]
        refine ⟨b3, by simp, ?_⟩
        intro a ha b hb e
        rw [List.mem_singleton.mp hb] at e
        exact lt_of_allLt l9.2.2.2.2 (List.mem_append_left _ (b1 a ha)) e
      · intro ra hra p hp
        rcases List.mem_append.mp hra with h | h
        · exact b4 ra h p hp
        · rw [List.mem_singleton.mp h]; exact lt_allLt l9.2.2.2.2 _ (List.mem_append_right _ hp)
    · intro ys nx hyl PP1
      refine hush fun GG9 out9 => ?_
      obtain ⟨ras, rows, rfl, rfl, b1, b2, b3, b4⟩ := PP1
      subst hB
      refine out9 ?_
      clear out9 GG9
      unfold LCg.FinE
      intro D h' tk' F' N' o1'
      have o1 := of_off1 o1'
      have N2 : News g L' h' ((I, oI) :: (P, listOf (pas.map Value.ref).toArray i) :: (L' + 1, o9) :: (x, instObj 169 dI) :: (dI, dictOf (gridEs w (fd.n * fd.n) P tt1 tt2 vv1) 2) :: ((D, LCg.lst (ras.map Value.ref)) :: (rows ++ rest))) := News.sub N' (fun p hp => pmD hp)
      have rowlt : ∀ p ∈ rows, ∀ q ∈ (I, oI) :: (P, listOf (pas.map Value.ref).toArray i) :: (L' + 1, o9) :: (x, instObj 169 dI) :: (dI, dictOf (gridEs w (fd.n * fd.n) P tt1 tt2 vv1) 2) :: rest, q.1 ≠ p.1 := fun p hp q hq => Nat.ne_of_lt (b4 _ (b2 p hp) q hq)
      have oD : ∀ q ∈ (I, oI) :: (P, listOf (pas.map Value.ref).toArray i) :: (L' + 1, o9) :: (x, instObj 169 dI) :: (dI, dictOf (gridEs w (fd.n * fd.n) P tt1 tt2 vv1) 2) :: rest, q.1 ≠ D := fun q hq => o1 q (List.mem_append_right _ hq)
      have both : ∀ q ∈ (I, oI) :: (P, listOf (pas.map Value.ref).toArray i) :: (L' + 1, o9) :: (x, instObj 169 dI) :: (dI, dictOf (gridEs w (fd.n * fd.n) P tt1 tt2 vv1) 2) :: rest, ∀ p ∈ (D, LCg.lst (ras.map Value.ref)) :: rows, p.1 ≠ q.1 := fun q hq p hp e => by
        rcases List.mem_cons.mp hp with rfl | h
        · exact oD q hq e.symm
        · exact rowlt p h q hq e.symm
      have r2 : ∀ q ∈ [(I, oI), (P, listOf (pas.map Value.ref).toArray i), (L' + 1, o9), (x, instObj 169 dI), (dI, dictOf (gridEs w (fd.n * fd.n) P tt1 tt2 vv1) 2)], (∀ p ∈ rest, p.1 ≠ q.1) → ∀ p ∈ (D, LCg.lst (ras.map Value.ref)) :: (rows ++ rest), p.1 ≠ q.1 := fun q hq h p hp => by
        rcases List.mem_cons.mp hp with e | hp
        · exact both q (List.mem_append_left rest hq) p (by rw [e]; exact .head _)
        · rcases List.mem_append.mp hp with hp | hp
          · exact both q (List.mem_append_left rest hq) p (.tail _ hp)
          · exact h p hp
      have rI := r2 (I, oI) (.head _) (of_off1 hoff.2.2.2.2)
      have rP := r2 (P, listOf (pas.map Value.ref).toArray i) (.tail _ (.head _)) oP
      have rc := r2 (L' + 1, o9) (.tail _ (.tail _ (.head _))) oc'
      have rx := r2 (x, instObj 169 dI) (.tail _ (.tail _ (.tail _ (.head _)))) ox
      have rd := r2 (dI, dictOf (gridEs w (fd.n * fd.n) P tt1 tt2 vv1) 2) (.tail _ (.tail _ (.tail _ (.tail _ (.head _))))) od
      have rsub : ∀ p ∈ rest, p ∈ (D, LCg.lst (ras.map Value.ref)) :: (rows ++ rest) := fun p hp => .tail _ (List.mem_append_right _ hp)
      have rD : (D, LCg.lst (ras.map Value.ref)) ∈ (D, LCg.lst (ras.map Value.ref)) :: (rows ++ rest) := .head _
      have rrows : ∀ p ∈ rows, p ∈ (D, LCg.lst (ras.map Value.ref)) :: (rows ++ rest) := fun p hp => .tail _ (List.mem_append_left _ hp)
      have rinv : ∀ p ∈ (D, LCg.lst (ras.map Value.ref)) :: (rows ++ rest), p ∈ rest ∨ ∀ q ∈ rest, q.1 ≠ p.1 := fun p hp => by
        have bb : ∀ p ∈ (D, LCg.lst (ras.map Value.ref)) :: rows, ∀ q ∈ rest, q.1 ≠ p.1 := fun p hp q hq e => both q (.tail _ (.tail _ (.tail _ (.tail _ (.tail _ hq))))) p hp e.symm
        rcases List.mem_cons.mp hp with e | hp
        · exact .inr (bb p (by rw [e]; exact .head _))
        · rcases List.mem_append.mp hp with hp | hp
          · exact .inr (bb p (.tail _ hp))
          · exact .inl hp
      dsimp only at rI rP rc rx rd
      generalize (D, LCg.lst (ras.map Value.ref)) :: (rows ++ rest) = rest2 at N2 rI rP rc rx rd rsub rD rrows rinv
      clear N' F9 N9 R9 hcell b4 o1' r2
      k_steps
      rename_i h5 F5 N5
      have e5 : (pas.map Value.ref).toArray.push (Value.ref D) = ((pas ++ [D]).map Value.ref).toArray := by simp
      rw [e5] at N5
      have g8' : ∀ a ∈ pas ++ rass.flatten, ∀ p ∈ (D, LCg.lst (ras.map Value.ref)) :: rows, p.1 ≠ a := fun a ha p hp => by
        obtain ⟨o, ho⟩ := g8 a ha
        exact both (a, o) (.tail _ (.tail _ (.tail _ (.tail _ (.tail _ ho))))) p hp
      have hras : ∀ a ∈ ras, ∃ p ∈ (D, LCg.lst (ras.map Value.ref)) :: rows, p.1 = a := fun a ha => ⟨_, .tail _ (b1 a ha), rfl⟩
      have hDr : D ∉ ras := fun hm => o1 _ (List.mem_append_left _ (b1 D hm)) rfl
      have hall : ∀ a ∈ (pas ++ [D]) ++ (rass ++ [ras]).flatten, a ∈ pas ++ rass.flatten ∨ a = D ∨ a ∈ ras := fun a ha => by
        simp only [List.mem_append, List.flatten_append, List.flatten_cons, List.flatten_nil, List.append_nil, List.mem_singleton] at ha ⊢
        rcases ha with (h | h) | (h | h) <;> simp [h]
      refine outQ9 _ _ ?_
      refine TurnEnd.intro F5 N5 (.head _) (fun p hp => .tail _ hp) ?_ ⟨pas ++ [D], rass ++ [ras], rest2, o9, _, tt1, tt2, vv1, rfl, d9, ?_, rfl, rfl⟩
      · exact fc hoff.1 (fc hoff.2.1 (fc hoff.2.2.1 (fc hoff.2.2.2.1 rI)))
      · refine ⟨by simp [g1], by simp [g2], ?_, fun p hp => rsub _ (g4 p hp), ?_, rP, rc, rx, rd, ?_, ?_, ?_, ?_, ?_⟩
        · intro k p ras' e1 e2
          rcases snoc_get g1 e1 with ⟨hk, e1⟩ | ⟨hk, e1⟩
          · rcases snoc_get g2 e2 with ⟨_, e2⟩ | ⟨hk2, _⟩
            · exact (g3 k p ras' e1 e2).mono rsub
            · exact absurd hk2 (Nat.ne_of_lt hk)
          · rcases snoc_get g2 e2 with ⟨hk2, _⟩ | ⟨_, e2⟩
            · exact absurd hk (Nat.ne_of_lt hk2)
            subst hk e1 e2
            refine ⟨_, rD, fun j ra e => ⟨_, _, rrows _ (b1 ra (List.mem_of_getElem? e)), List.length_replicate, fun i' v e' => ?_⟩⟩
            have := List.mem_of_getElem? e'
            exact (List.mem_replicate.mp this).2
        · intro p hp
          rcases rinv p hp with h | h
          · exact g5 p h
          · exact .inr fun q hq => h q (g4 q hq)
        · rw [List.flatten_append, List.flatten_cons, List.flatten_nil, List.append_nil]
          have dD : ∀ a ∈ pas ++ rass.flatten, a ≠ D := fun a ha e => g8' a ha _ (.head _) e.symm
          have dR : ∀ a ∈ pas ++ rass.flatten, a ∉ ras := fun a ha hm => by
            obtain ⟨p, hp, e⟩ := hras a hm
            exact g8' a ha p hp e
          rw [List.nodup_append] at g6 ⊢
          refine hush fun GG9 out9 => ?_
          obtain ⟨n1, n2, n3⟩ := g6
          refine out9 ?_
          clear out9 GG9
          refine ⟨?_, ?_, ?_⟩
          · rw [List.nodup_append]
            exact ⟨n1, by simp, fun a ha b hb e => dD a (List.mem_append_left _ ha) (e.trans (List.mem_singleton.mp hb))⟩
          · rw [List.nodup_append]
            exact ⟨n2, b3, fun a ha b hb e => dR a (List.mem_append_right _ ha) (e ▸ hb)⟩
          · intro a ha b hb e
            subst e
            rcases List.mem_append.mp ha with ha | ha
            · rcases List.mem_append.mp hb with hb | hb
              · exact n3 a ha a hb rfl
              · exact dR a (List.mem_append_left _ ha) hb
            · rw [List.mem_singleton.mp ha] at hb
              rcases List.mem_append.mp hb with hb | hb
              · exact dD _ (List.mem_append_right _ hb) rfl
              · exact hDr hb
        · intro a ha
          rcases hall a ha with h | h | h
          · exact g7 a h
          · rw [h]; exact oD (P, listOf (pas.map Value.ref).toArray i) (.tail _ (.head _))
          · exact rowlt _ (b1 a h) (P, listOf (pas.map Value.ref).toArray i) (.tail _ (.head _))
        · intro a ha q hq
          have hq' := g4 q hq
          rcases hall a ha with h | h | h
          · exact gf a h q hq
          · rw [h]; exact oD q (.tail _ (.tail _ (.tail _ (.tail _ (.tail _ hq')))))
          · exact rowlt _ (b1 a h) q (.tail _ (.tail _ (.tail _ (.tail _ (.tail _ hq')))))
        · intro a ha
          rcases hall a ha with h | h | h
          · obtain ⟨o, ho⟩ := g8 a h; exact ⟨o, rsub _ ho⟩
          · rw [h]; exact ⟨_, rD⟩
          · exact ⟨_, rrows _ (b1 a h)⟩
        · intro k ras' e2
          rcases snoc_get g2 e2 with ⟨_, e2⟩ | ⟨hk, e2⟩
          · exact gh k ras' e2
          · subst hk e2
            rw [List.length_map] at hyl
            exact hyl
  · intro m₁ nx h tk PP1 F N
    refine hush fun GG9 out9 => ?_
    obtain ⟨pas, rass, rest, oc, v0, tt1, tt2, vv1, rfl, ho, G, e1, e2⟩ := PP1
    have F := Fr.over0 F [(Str.ofString "self", .ref x), (Str.ofString "frame", .ref f)] (by simp [e1, e2])
    dsimp only [over] at F
    have F : Fr g L' h _ := F
    have N : News g L' h _ := N
    clear F9 N9 R9 F4 N4
    refine out9 ?_
    clear out9 GG9
    k_steps
    (rename News h₀ _ _ _ => N0)
    refine hush fun GG9 out9 => ?_
    obtain ⟨g1, g2, g3, g4, g5, oP, oc', ox, od, g6, g7, gf, g8, gh⟩ := G
    have hPx : x < P := l1.2.1
    have hPd : dI < P := l1.2.2.1
    have hPn := lt_allLt l1.2.2.2
    refine out9 ?_
    clear out9 GG9
    apply hret
    · k_asm
    · exact News.sub (news := (P, listOf (pas.map Value.ref).toArray fd.comps.length) :: (x, instObj 169 dI) :: (dI, dictOf (gridEs w (fd.n * fd.n) P tt1 tt2 vv1) 2) :: rest) N0 (fun p hp => pmE hp)
    · refine ⟨x, P, pas, rass, rfl, ⟨by simpa using g1, by simpa using g2, gh, ?_⟩, ⟨dI, tt1, tt2, vv1, 2, _, mem_newp.mpr ⟨.tail _ (.head _), fun q hq => Nat.ne_of_lt (Nat.lt_trans (l12 q hq) l2)⟩, mem_newp.mpr ⟨.tail _ (.tail _ (.head _)), fun q hq => Nat.ne_of_lt (l12 q hq)⟩, mem_newp.mpr ⟨.head _, fun q hq => Nat.ne_of_lt (hPn q hq)⟩, ?_⟩, ⟨fun p hp => .tail _ (.tail _ (.tail _ (g4 p hp))), ?_⟩, ?_⟩
      · exact List.nodup_cons.mpr ⟨fun hm => g7 P hm rfl, g6⟩
      · exact PlanesIn.restrict (P := P) (PlanesIn.st_none g3) fun p hp ha => mem_newp.mpr ⟨.tail _ (.tail _ (.tail _ hp)), gf p.1 ha⟩
      · intro p hp
        simp only [List.mem_cons] at hp
        rcases hp with rfl | rfl | rfl | hp
        · exact .inr fun q hq => Nat.ne_of_lt (hPn q hq)
        · exact .inr fun q hq => Nat.ne_of_lt (Nat.lt_trans (l12 q hq) l2)
        · exact .inr fun q hq => Nat.ne_of_lt (l12 q hq)
        · exact g5 p hp
      · intro a ha q hq
        rcases List.mem_cons.mp ha with rfl | ha
        · exact Nat.ne_of_lt (hPn q hq)
        · exact gf a ha q hq
end

theorem flush40grid {prog : Program} {w : World} {A : Around} {E : Value → Shared → Prop} {s : Shared} {env : Env} {Q : Flow → Shared → Prop} (h : wpAny (model prog w) A (execs [] env) Q E s) : wpAny (model prog w) A (execs [] env) Q E s := by
  w_top off
  (try (walk1; fail))
  exact h
/-- what a get hands back: the block's ints, noughts for none -/
abbrev cellVal (many : Int) (c : Cell) : List Int := c.getD (List.replicate many.toNat 0)
theorem ints_rep0 (t : Tok) : ∀ k : Nat, IntsAre (List.replicate k (Value.int 0 t)) (List.replicate k 0)
  | 0 => .nil
  | k + 1 => .cons 0 t (ints_rep0 t k)
theorem get_con (w : World) (mean : ExcName → Option Value) (mg mb : Str → Option Value) (news : Led) (st : List Addr) (g P : Addr) (many : Int) (pas : List Addr) (rass : List (List Addr)) (Ws : Nat → Nat) (G : Nat → Nat → Nat → Cell)
    (hG : GridIn w news st g P many pas rass Ws G) (hm0 : 0 ≤ many) (hm1 : many ≤ 4) (k y x : Int) (tk ty tx : Tok) (p : Addr) (ras : List Addr) (ra : Addr) (hk0 : 0 ≤ k) (hk1 : k < 1000) (hy0 : 0 ≤ y) (hy1 : y < 1000) (hx0 : 0 ≤ x) (hx1 : x < 1000)
    (e1 : pas[k.toNat]? = some p) (e2 : rass[k.toNat]? = some ras) (e3 : ras[y.toNat]? = some ra) (e4 : x.toNat < Ws k.toNat) :
    Con w mean mg mb 159 [.ref g, .int k tk, .int x tx, .int y ty] news (fun news' r => ∃ b vs n, r = .ref b ∧ IntsAre vs (cellVal many (G k.toNat y.toNat x.toNat)) ∧
      ((news' = news ∧ (b, listOf vs.toArray n) ∈ news) ∨ (news' = (b, listOf vs.toArray n) :: news ∧ AllLt b news))) 5 80 := by
  refine hush fun GG9 out9 => ?_
  obtain ⟨d, t1, t2, v1, n, n1, hg, hd, hP, hPl⟩ := hG
  obtain ⟨n2, hp, hrow⟩ := hPl k.toNat p ras e1 e2
  obtain ⟨vs, n3, hra, hlen, hcell⟩ := hrow y.toNat ra e3
  have hi1 : (pas.map Value.ref)[k.toNat]? = some (.ref p) := by simp [e1]
  have hi2 : (ras.map Value.ref)[y.toNat]? = some (.ref ra) := by simp [e3]
  obtain ⟨v, hv⟩ : ∃ v, vs[x.toNat]? = some v := ⟨_, List.getElem?_eq_getElem (by omega)⟩
  have hc := hcell x.toNat v hv
  refine out9 ?_
  clear out9 GG9
  cases hG : G k.toNat y.toNat x.toNat with
  | none =>
    rw [hG] at hc
    have hc : v = .none := hc
    subst hc
    unfold Con; k_fill
    intro dp un gd cn cs a ccd cl outer A₀ base h₀ L m s Q E B F X N T hk hd hu hret
    refine wpAny_call ?_
    k_dflt cell_enter
    k_steps
    rename_i l5 h5 l6 D5 h6 F5 N5 l7 kF kN _ _
    apply hret
    · k_asm
    · exact @News.sub _ _ _ ((D5, _) :: news) _ kN (by
        refine fc ?_ ?_
        · exact .head _
        · intro p hp
          exact .tail _ (.tail _ hp))
    · exact ⟨_, _, _, rfl, ints_rep0 _ _, .inr ⟨rfl, l7.2⟩⟩
  | some is =>
    rw [hG] at hc
    refine hush fun GG9 out9 => ?_
    obtain ⟨b, bvs, nb, rfl, hb, hi, hst⟩ := hc
    refine out9 ?_
    clear out9 GG9
    unfold Con; k_fill
    intro dp un gd cn cs a ccd cl outer A₀ base h₀ L m s Q E B F X N T hk hd hu hret
    refine wpAny_call ?_
    k_dflt cell_enter
    k_steps
    apply hret
    · k_asm
    · k_asm
    · exact ⟨_, _, _, rfl, hi, .inl ⟨rfl, hb⟩⟩

theorem flush41get {prog : Program} {w : World} {A : Around} {E : Value → Shared → Prop} {s : Shared} {env : Env} {Q : Flow → Shared → Prop} (h : wpAny (model prog w) A (execs [] env) Q E s) : wpAny (model prog w) A (execs [] env) Q E s := by
  w_top off
  (try (walk1; fail))
  exact h
/-- a store into a list of the ledger, at a place that is not written -/
theorem set_led {prog : Program} {w : World} {A : Around} {E : Value → Shared → Prop} {s : Shared} {h₀ : Heap} {L D : Addr} {m : Str → Option Value} {news news' : Led} {vs : List Value} {n : Nat} {k : Int} {t : Tok} {v : Value} {Q : Unit → Shared → Prop}
    (F : Fr h₀ L s.heap m) (N : News h₀ L s.heap news) (U : Upd D (listOf vs.toArray n) (listOf (vs.set k.toNat v).toArray n) news news') (h0 : 0 ≤ k) (h1 : k.toNat < vs.length) (hfit : k < 2 ^ 63)
    (h : ∀ h', Fr h₀ L h' m → News h₀ L h' news' → Q () { s with heap := h' }) : wpAny (model prog w) A (setItem (.ref D) (.int k t) v) Q E s := by
  obtain ⟨pre, post, rfl, rfl, a, b⟩ := U.split
  have z := N (D, listOf vs.toArray n) (List.mem_append.mpr (.inr (.head _)))
  have hs : vs.toArray.size = vs.length := List.size_toArray ..
  refine ki_setAt z.1 h0 hfit (by omega) (h _ (F.change (Heap.SameBut.update ..) z.2.1 z.2.2) (ki_turn _ N a b ?_ ?_))
  · show vs.toArray.setIfInBounds k.toNat v = (vs.set k.toNat v).toArray
    apply Array.toList_inj.mp
    simp
  · simp

section
local macro_rules | `(tactic| walk_at "setItem ref int") => `(tactic| (k_here; (with_unfolding_all refine' set_led ?F ?N ?U ?h0 ?h1 ?hf ?_); (case F | N => k_asm); (case U => k_dflt k_upd); (case h0 | h1 => assumption); (case hf => omega); k_whole; intro h9 F9 N9; (try k_sweep)))
theorem put_con (w : World) (mean : ExcName → Option Value) (mg mb : Str → Option Value) (news : Led) (st : List Addr) (g P : Addr) (many : Int) (pas : List Addr) (rass : List (List Addr)) (Ws : Nat → Nat) (G : Nat → Nat → Nat → Cell)
    (hG : GridIn w news st g P many pas rass Ws G) (k y x : Int) (tk ty tx : Tok) (p : Addr) (ras : List Addr) (ra : Addr) (hk0 : 0 ≤ k) (hk1 : k < 1000) (hy0 : 0 ≤ y) (hy1 : y < 1000) (hx0 : 0 ≤ x) (hx1 : x < 1000)
    (e1 : pas[k.toNat]? = some p) (e2 : rass[k.toNat]? = some ras) (e3 : ras[y.toNat]? = some ra) (e4 : x.toNat < Ws k.toNat)
    (rr : Addr) (rvs : List Value) (rn : Nat) (is : List Int) (hr : (rr, listOf rvs.toArray rn) ∈ news) (hi : IntsAre rvs is) (hl : is.length ≤ 1000) (hrr : rr ≠ ra) (hpr : p ≠ ra) (hPr : P ≠ ra) :
    Con w mean mg mb 166 [.ref g, .int k tk, .int x tx, .int y ty, .ref rr] news (fun news' r => r = .none ∧ ∃ (b : Addr) (c : Nat) (vs : List Value) (n : Nat), (ra, listOf vs.toArray n) ∈ news ∧ vs.length = Ws k.toNat ∧
      news' = (b, listOf rvs.toArray c) :: repl ra (listOf (vs.set x.toNat (.ref b)).toArray n) news ∧ ∀ q ∈ news, q.1 ≠ b) 5 80 := by
  refine hush fun GG9 out9 => ?_
  obtain ⟨d, t1, t2, v1, n, n1, hg, hd, hP, hPl⟩ := hG
  obtain ⟨n2, hp, hrow⟩ := hPl k.toNat p ras e1 e2
  obtain ⟨vs, n3, hra, hlen, hcell⟩ := hrow y.toNat ra e3
  have hi1 : (pas.map Value.ref)[k.toNat]? = some (.ref p) := by simp [e1]
  have hi2 : (ras.map Value.ref)[y.toNat]? = some (.ref ra) := by simp [e3]
  have hx2 : x.toNat < vs.length := by omega
  refine out9 ?_
  clear out9 GG9
  unfold Con; k_fill
  intro dp un gd cn cs a ccd cl outer A₀ base h₀ L m s Q E B F X N T hk hd' hu hret
  have N₀ := N
  have N := News.take N hra
  have hoff : ∀ q ∈ drop ra news, q.1 ≠ ra := drop_off
  have hg := mem_drop (u := ra) hg (fun e => by
    have e : g = ra := e
    exact inst_ne_list (News.func N₀ hg (e ▸ hra)))
  have hd := mem_drop (u := ra) hd (fun e => by
    have e : d = ra := e
    exact dict_ne_list (News.func N₀ hd (e ▸ hra)))
  have hP := mem_drop (u := ra) hP hPr
  have hp := mem_drop (u := ra) hp hpr
  have hr := mem_drop (u := ra) hr hrr
  have hrl : rvs.length ≤ 1000 := by rw [hi.length]; exact hl
  refine wpAny_call ?_
  k_dflt cell_enter
  k_steps
  rename_i D9 c9 h8 l9 h9 F9 N9 kF kN _ _
  apply hret
  · k_asm
  · exact @News.sub _ _ _ ((D9, listOf rvs.toArray c9) :: repl ra (listOf (vs.set x.toNat (Value.ref D9)).toArray n3) news) _ kN (by
      refine fc ?_ ?_
      · exact .head _
      · intro q hq
        obtain ⟨q', hq', rfl⟩ := List.mem_map.mp hq
        by_cases e : q'.1 = ra
        · simp only [e, if_true]; exact .tail _ (.head _)
        · simp only [e, if_false]; exact .tail _ (.tail _ (mem_drop hq' e)))
  · refine ⟨rfl, D9, c9, vs, n3, hra, hlen, rfl, fun q hq e => ?_⟩
    by_cases e' : q.1 = ra
    · exact absurd (e'.symm.trans e) (Nat.ne_of_lt l9.1)
    · exact ne_of_allLt l9.2 q (mem_drop hq e') e
end

theorem flush42put {prog : Program} {w : World} {A : Around} {E : Value → Shared → Prop} {s : Shared} {env : Env} {Q : Flow → Shared → Prop} (h : wpAny (model prog w) A (execs [] env) Q E s) : wpAny (model prog w) A (execs [] env) Q E s := by
  w_top off
  (try (walk1; fail))
  exact h
/-- what a plain constructor leaves: a new object with its dict -/
abbrev Made (C : Addr) (Es : Obj → Prop) (news news' : Led) (r : Value) : Prop :=
  ∃ x dx od, Es od ∧ r = .ref x ∧ news' = (x, instObj C dx) :: (dx, od) :: news ∧ AllLt dx news ∧ dx < x
theorem Con.useC {w : World} {mean : ExcName → Option Value} {mg mb : Str → Option Value} {f : Addr} {vs : List Value} {news : Led} {dn un : Nat} {C : Addr} {Es : Obj → Prop} (c : Con w mean mg mb f vs news (fun news' r => Made C Es news news' r) dn un)
    {dp un' : Nat} {gd : Option (List Code)} {cn : Str} {cs : Scope} {a : Addr} {ccd : Value} {cl : List (Str × Addr)} {outer : List Env} {A₀ : Around} {base h₀ : Heap} {L : Addr} {m : Str → Option Value} {s : Shared} {Q E : Value → Shared → Prop}
    (B : Below A₀ base outer h₀) (F : Fr h₀ L s.heap m) (X : (hd.heap_39 w.params).In h₀) (N : News h₀ L s.heap news) (T : Top hd.view_39 (looseW hd.view_39 []) mean mg mb h₀) (hk : cs.kind = .function)
    (hd : dp + dn < recursionLimit) (hu : un' + un < cLine)
    (ret : ∀ h' tk', Fr h₀ L h' m → ∀ x dx od, Es od → AllLt dx news → dx < x → News h₀ L h' ((x, instObj C dx) :: (dx, od) :: news) → Q (.ref x) { s with heap := h', toks := tk' }) :
    wpAny (model PySem.Challenge.rw_pf0232_01.row.prog w) (ktrTop dp un' gd cn cs L a ccd cl outer) (call (.ref f) vs) Q E s := by
  refine c.use B F X N T hk hd hu ?_
  rintro r n h' tk' F' N' ⟨x, dx, od, e, rfl, rfl, l1, l2⟩
  exact ret h' tk' F' x dx od e l1 l2 N'
abbrev IsComp (w : World) (c : CD) (od : Obj) : Prop := ∃ t1 t2 t3 t4 v1 v2 v3 v4, od = dictOf (compEs w c t1 t2 t3 t4 v1 v2 v3 v4) 4
abbrev IsFrame (w : World) (h wd nn : Int) (cl : Addr) (od : Obj) : Prop := ∃ t1 t2 t3 t4 t5 t6 v1 v2 v3 v4 v6, od = dictOf (frameEs w h wd nn cl t1 t2 t3 t4 t5 t6 v1 v2 v3 v4 v6) 6
theorem comp_con (w : World) (mean : ExcName → Option Value) (mg mb : Str → Option Value) (news : Led) (a b c d : Int) (ta tb tc td : Tok) :
    Con w mean mg mb 70 [.int a ta, .int b tb, .int c tc, .int d td] news (fun news' r => Made 70 (IsComp w ⟨a, b, c, d⟩) news news' r) 3 40 := by
  unfold Con; k_fill
  intro dp un gd cn cs ca ccd cl outer A₀ base h₀ L m s Q E B F X N T hk hd hu' hret
  k_steps
  apply hret
  · k_asm
  · k_asm
  · exact ⟨_, _, _, ⟨_, _, _, _, _, _, _, _, rfl⟩, rfl, rfl, allLt_of ‹_›, ‹_›⟩
theorem framec_con (w : World) (mean : ExcName → Option Value) (mg mb : Str → Option Value) (news : Led) (h wd nn : Int) (l : Addr) (t1 t2 t3 t4 t6 : Tok) :
    Con w mean mg mb 136 [.str (Str.ofString "progressive") t1, .int 8 t2, .int h t3, .int wd t4, .ref l, .int nn t6] news (fun news' r => Made 136 (IsFrame w h wd nn l) news news' r) 3 40 := by
  unfold Con; k_fill
  intro dp un gd cn cs ca ccd cl outer A₀ base h₀ L m s Q E B F X N T hk hd hu' hret
  k_steps
  apply hret
  · k_asm
  · k_asm
  · exact ⟨_, _, _, ⟨_, _, _, _, _, _, _, _, _, _, _, rfl⟩, rfl, rfl, allLt_of ‹_›, ‹_›⟩

theorem flush43ctor {prog : Program} {w : World} {A : Around} {E : Value → Shared → Prop} {s : Shared} {env : Env} {Q : Flow → Shared → Prop} (h : wpAny (model prog w) A (execs [] env) Q E s) : wpAny (model prog w) A (execs [] env) Q E s := by
  w_top off
  (try (walk1; fail))
  exact h
set_option hygiene false in
local macro_rules | `(tactic| walk_at "call ref") => `(tactic| (k_here; k_dflt ((first | ((with_reducible refine wat 70 ?_); refine' Con.useC (comp_con _ _ _ _ _ _ _ _ _ _ _ _ _) ?B ?F ?X ?N ?T ?hk ?hd ?hu ?_) | ((with_reducible refine wat 136 ?_); refine' Con.useC (framec_con _ _ _ _ _ _ _ _ _ _ _ _ _ _) ?B ?F ?X ?N ?T ?hk ?hd ?hu ?_)); walk_at "u"; walk_at "v"); walk_at "in"))
def GOK (G : Nat → Nat → Nat → Cell) : Prop := ∀ k y x is, G k y x = some is → 1 ≤ is.length ∧ is.length ≤ 1000
/-- the ledger while a grid is filled -/
structure LF (w : World) (news0 : Led) (u g P : Addr) (fd : FD) (wide : Int) (pas : List Addr) (rass : List (List Addr)) (nx : Led) : Prop where
  urn : ∃ o, (u, o) ∈ nx ∧ UrnObj o
  keep : ∀ p ∈ news0, p.1 ≠ u → p ∈ nx
  grid : ∃ nn G, GridIn w nn (stOf P pas rass) g P (fd.n * fd.n) pas rass (WsOf fd wide) G ∧ GOK G ∧ (∀ p ∈ nn, p ∈ nx) ∧ ∀ p ∈ nn, ∀ q ∈ news0, q.1 ≠ p.1

theorem LF.repl {w : World} {news0 : Led} {u g P : Addr} {fd : FD} {wide : Int} {pas : List Addr} {rass : List (List Addr)} {nx : Led} (h : LF w news0 u g P fd wide pas rass nx) {o0 o' : Obj} (h0 : (u, o0) ∈ news0) (ho : UrnObj o') : LF w news0 u g P fd wide pas rass (repl u o' nx) := by
  obtain ⟨⟨o, hu, _⟩, hk, nn, G, hG, hok, hs, hf⟩ := h
  exact ⟨⟨o', mem_repl_self hu, ho⟩, fun p hp hne => mem_repl (hk p hp hne) hne, nn, G, hG, hok, fun p hp => mem_repl (hs p hp) (Ne.symm (hf p hp _ h0)), hf⟩
theorem mem_of_ne {a b : Addr} {o x : Obj} {r : Led} (h : (a, o) ∈ (b, x) :: r) (hne : b ≠ a) : (a, o) ∈ r := by
  rcases List.mem_cons.mp h with e | e
  · exact absurd (congrArg Prod.fst e).symm hne
  · exact e
theorem GridIn.st_in {w : World} {nn : Led} {st : List Addr} {g P : Addr} {many : Int} {pas : List Addr} {rass : List (List Addr)} {Ws : Nat → Nat} {G : Nat → Nat → Nat → Cell} (hG : GridIn w nn st g P many pas rass Ws G) (hl : pas.length = rass.length) : ∀ a ∈ stOf P pas rass, ∃ o, (a, o) ∈ nn := by
  obtain ⟨d, t1, t2, v1, m, m1, hg, hd, hP, hPl⟩ := hG
  refine fc ?_ ?_
  · exact ⟨_, hP⟩
  · intro a ha
    rcases List.mem_append.mp ha with ha | ha
    · obtain ⟨k, hk, e⟩ := List.mem_iff_getElem.mp ha
      have e1 : pas[k]? = some a := by rw [List.getElem?_eq_getElem hk, e]
      have e2 : rass[k]? = some (rass[k]'(by omega)) := List.getElem?_eq_getElem _
      obtain ⟨n, hp, _⟩ := hPl k a _ e1 e2
      exact ⟨_, hp⟩
    · obtain ⟨ras, hr, ha⟩ := List.mem_flatten.mp ha
      obtain ⟨k, hk, e⟩ := List.mem_iff_getElem.mp hr
      have e2 : rass[k]? = some ras := by rw [List.getElem?_eq_getElem hk, e]
      have e1 : pas[k]? = some (pas[k]'(by omega)) := List.getElem?_eq_getElem _
      obtain ⟨n, hp, hrow⟩ := hPl k _ _ e1 e2
      obtain ⟨j, hj, e'⟩ := List.mem_iff_getElem.mp ha
      obtain ⟨vs, n', hra, _⟩ := hrow j a (by rw [List.getElem?_eq_getElem hj, e'])
      exact ⟨_, hra⟩
theorem GridIn.row_in {w : World} {nn : Led} {st : List Addr} {g P : Addr} {many : Int} {pas : List Addr} {rass : List (List Addr)} {Ws : Nat → Nat} {G : Nat → Nat → Nat → Cell} (hG : GridIn w nn st g P many pas rass Ws G) {k y : Nat} {p ra : Addr} {ras : List Addr} (e1 : pas[k]? = some p) (e2 : rass[k]? = some ras) (e3 : ras[y]? = some ra) :
    ∃ (vs : List Value) (n : Nat), (ra, listOf vs.toArray n) ∈ nn ∧ vs.length = Ws k := by
  obtain ⟨d, t1, t2, v1, m, m1, hg, hd, hP, hPl⟩ := hG
  obtain ⟨n, hp, hrow⟩ := hPl k p ras e1 e2
  obtain ⟨vs, n', hra, hl, _⟩ := hrow y ra e3
  exact ⟨vs, n', hra, hl⟩
theorem GOK.upd {G : Nat → Nat → Nat → Cell} (h : GOK G) {k y x : Nat} {is : List Int} (h1 : 1 ≤ is.length) (h2 : is.length ≤ 1000) : GOK (upd G k y x (some is)) := by
  intro k' y' x' is' e
  unfold Mine.upd at e
  split at e
  · cases e; exact ⟨h1, h2⟩
  · exact h _ _ _ _ e
theorem st_apart {P : Addr} {pas : List Addr} {rass : List (List Addr)} (hn : (stOf P pas rass).Nodup) {k k' y : Nat} {p ra : Addr} {ras : List Addr} (e1 : pas[k']? = some p) (e2 : rass[k]? = some ras) (e3 : ras[y]? = some ra) : p ≠ ra ∧ P ≠ ra := by
  rw [List.nodup_cons, List.nodup_append] at hn
  obtain ⟨hn1, hn2, hn3, hn4⟩ := hn
  have hraf : ra ∈ rass.flatten := List.mem_flatten.mpr ⟨ras, List.mem_of_getElem? e2, List.mem_of_getElem? e3⟩
  exact ⟨fun e => hn4 p (List.mem_of_getElem? e1) ra hraf e, fun e => hn1 (e ▸ List.mem_append_right _ hraf)⟩
theorem LF.put {w : World} {news0 : Led} {u g P : Addr} {fd : FD} {wide : Int} {pas : List Addr} {rass : List (List Addr)} {nx : Led} (hl : pas.length = rass.length) (hst : (stOf P pas rass).Nodup) (F : Fn nx) (h : LF w news0 u g P fd wide pas rass nx)
    {k y x : Nat} {p ra : Addr} {ras : List Addr} (e1 : pas[k]? = some p) (e2 : rass[k]? = some ras) (e3 : ras[y]? = some ra) (e4 : x < WsOf fd wide k) {vs : List Value} {n : Nat} (hra : (ra, listOf vs.toArray n) ∈ nx)
    {b : Addr} {rvs : List Value} {c : Nat} {is : List Int} (hi : IntsAre rvs is) (l1 : 1 ≤ is.length) (l2 : is.length ≤ 1000) (hb : ∀ q ∈ nx, q.1 ≠ b) {o0 : Obj} (hu0 : (u, o0) ∈ news0) :
    LF w news0 u g P fd wide pas rass ((b, listOf rvs.toArray c) :: Mine.repl ra (listOf (vs.set x (.ref b)).toArray n) nx) := by
  obtain ⟨⟨o, hu, ho⟩, hk, nn, G, hG, hok, hs, hf⟩ := h
  obtain ⟨vs', n', hra', _⟩ := hG.row_in e1 e2 e3
  have eo := F _ _ _ hra (hs _ hra')
  rw [← eo] at hra'
  have hru : ∀ q ∈ news0, q.1 ≠ ra := fun q hq => hf _ hra' q hq
  have hbs : b ∉ stOf P pas rass := fun hm => by
    obtain ⟨o', ho'⟩ := hG.st_in hl b hm
    exact hb _ (hs _ ho') rfl
  refine ⟨⟨o, .tail _ (mem_repl hu (fun e => hru _ hu0 e)), ho⟩, fun q hq hne => .tail _ (mem_repl (hk q hq hne) (hru q hq)), _, _, GridIn.put (b := b) (c := c) (F.sub hs) hG hst e2 e3 e4 hra' hi (fun q hq => hb q (hs q hq)) hbs, hok.upd l1 l2, ?_, ?_⟩
  · refine fc ?_ ?_
    · exact .head _
    · intro q hq
      obtain ⟨q', hq', rfl⟩ := List.mem_map.mp hq
      exact .tail _ (List.mem_map.mpr ⟨q', hs _ hq', rfl⟩)
  · intro q hq q0 hq0
    rcases List.mem_cons.mp hq with rfl | hq
    · by_cases e : q0.1 = u
      · exact fun e' => hb _ hu (e.symm.trans e')
      · exact hb _ (hk _ hq0 e)
    · obtain ⟨q', hq', rfl⟩ := List.mem_map.mp hq
      by_cases e : q'.1 = ra
      · simp only [e, if_true]; exact hru _ hq0
      · simp only [e, if_false]; exact hf _ hq' _ hq0
theorem ints_rep (x : Int) (t : Tok) : ∀ k : Nat, IntsAre (List.replicate k (Value.int x t)) (List.replicate k x)
  | 0 => .nil
  | k + 1 => .cons x t (ints_rep x t k)
theorem jlt {j : Nat} {a : Int} (h : j < a.toNat) : (j : Int) < a := by omega
theorem tlt {a b : Int} (h : a < b) (hb : 1 ≤ b) : a.toNat < b.toNat := by omega
theorem l9k {a b : Int} (h : a < b) (hb : b ≤ 9) : a < 1000 := by omega
theorem l6k {a b : Int} (h : a < b) (hb : b ≤ 6) : a < 1000 := by omega
theorem c1k {k n : Nat} (h : k < n) (hn : n ≤ 3) : (k : Int) < 1000 := by omega
theorem min_r {a b c : Int} (h : min a b = c) : c ≤ b := by omega
theorem kcl {k n m : Nat} (h : k < (n : Int).toNat) (e : n = m) : k < m := by omega
theorem spot_at {j W H : Int} (hj0 : 0 ≤ j) (hj : j < W * H) (hW : 1 ≤ W) : 0 ≤ Int.fdiv j W ∧ Int.fdiv j W < H ∧ 0 ≤ Int.fmod j W ∧ Int.fmod j W < W := by
  refine ⟨Int.fdiv_nonneg hj0 (by omega), ?_, fmod_lo _ (by omega), fmod_hi _ (by omega)⟩
  rw [Int.fdiv_eq_ediv_of_nonneg _ (by omega)]
  exact Int.ediv_lt_of_lt_mul (by omega) (by rw [Int.mul_comm]; exact hj)
section
theorem filled_con (w : World) (mean : ExcName → Option Value) (mg mb : Str → Option Value) (news fr : Led) (u f : Addr) (o : Obj) (fd : FD) (c0 : CD) (more : List CD) (wide high : Int) (hu : (u, o) ∈ news) (ho : UrnObj o)
    (hfr : ∀ p ∈ fr, p ∈ news ∧ p.1 ≠ u) (hF : FrameIn w fr f fd) (ok : FOK fd c0 more wide high) :
    Con w mean mg mb 229 [.ref u, .ref f] news (fun news' r => ∃ g P pas rass, r = .ref g ∧ GShape fd high P pas rass ∧ LF w news u g P fd wide pas rass news' ∧ ∀ a ∈ stOf P pas rass, ∀ q ∈ news, q.1 ≠ a) 60 800 := by
  have hF0 := hF.mono (fun p hp => (hfr p hp).1)
  have hF' := hF
  have hlen : ∀ {xs : List Addr}, CompsIn w fr xs fd.comps → (xs.map Value.ref).length = fd.comps.length := fun hC => by rw [List.length_map]; exact hC.length
  have hlen3 : fd.comps.length ≤ 3 := ok.len3
  have hWs := ok.ws
  have hHs := ok.hs
  unfold Con; k_fill
  intro dp un gd cn cs a ccd cl outer A₀ base h₀ L m s Q E B F X N T hk hd hu' hret
  refine wpAny_call ?_
  k_dflt cell_enter
  have sk9 : StopKey "call ref" := ⟨trivial⟩
  k_steps
  clear sk9
  refine Stop.mk ?_
  k_dflt (refine' Con.use (grid_con _ _ _ _ _ _ _ _ _ _ _ ?hF ?ok) ?B ?F ?X ?N ?T ?hk ?hd ?hu ?_)
  walk_at "u"
  case hF => walk_at "h"
  case ok => assumption
  walk_at "v"
  intro _ n9 h9 tk9 F9 N9 PP1
  refine hush fun GG9 out9 => ?_
  obtain ⟨g, P, pas, rass, rfl, S9, G9, W9, fr9⟩ := PP1
  refine out9 ?_
  clear out9 GG9
  try dsimp only
  try k_sweep
  try k_fold
  have hfr' : ∀ p ∈ fr, p ∈ n9 := fun p hp => W9.sub _ (hfr p hp).1
  refine hush fun GG9 out9 => ?_
  obtain ⟨d, cl', xs, t1, t2, t3, t4, t5, t6, v1, v2, v3, v4, v6, n, n0, hf, hfd, hcl, hC⟩ := hF
  have hlen := hlen hC
  have hf1 := hfr' _ hf
  have hfd1 := hfr' _ hfd
  have hcl1 := hfr' _ hcl
  refine out9 ?_
  clear out9 GG9
  k_steps
  rename_i h10 r10 h11 tk11 u11 v11 F11 N11 R11
  refine Stop.mk ?_
  have LF0 : LF w news u g P fd wide pas rass n9 := ⟨⟨o, W9.sub _ hu, ho⟩, fun p hp _ => W9.sub p hp, newp news n9, _, G9, (fun _ _ _ _ h => nomatch h), fun p hp => (mem_newp.mp hp).1, fun p hp => (mem_newp.mp hp).2⟩
  refine for_to rfl (fun i m nx => LF w news u g P fd wide pas rass nx ∧ m (Str.ofString "urn") = some (.ref u) ∧ m (Str.ofString "frame") = some (.ref f) ∧ m (Str.ofString "grid") = some (.ref g)) rfl R11 (by omega) (by omega) F11 N11 ⟨LF0, rfl, rfl, rfl⟩ ?_ ?_
  · clear F11 N11 R11 hf1 hfd1 hcl1
    intro i tv m₁ nx h tk I oI hi PP1 hoff F N
    refine hush fun GG9 out9 => ?_
    obtain ⟨lf, e1, e2, e3⟩ := PP1
    have F := Fr.over F [(Str.ofString "urn", .ref u), (Str.ofString "frame", .ref f), (Str.ofString "grid", .ref g)] (by simp [e1, e2, e3])
    dsimp only [over] at F
    have hoff := off1_of hoff
    have hi' : i < fd.comps.length := by omega
    have hc : fd.comps[((i : Nat) : Int).toNat]? = some (cAt fd i) := by simp [cAt, List.getD, hi']
    have hfrx : ∀ p ∈ fr, p ∈ nx := fun p hp => lf.keep p (hfr p hp).1 (hfr p hp).2
    have hF1 : FrameIn w nx f fd := hF'.mono hfrx
    have hf1 := hfrx _ hf
    have hfd1 := hfrx _ hfd
    have hcl1 := hfrx _ hcl
    have hdn := hHs i hi'
    have han := hWs i hi'
    refine out9 ?_
    clear out9 GG9
    refine hushQ fun QQ9 outQ9 => ?_
    k_steps
    rename_i h20 tk20 t9 ta9 tb9 l9 h21 h22 h23 r20 h24 tk24 u24 v24 F24 N24 R24
    have hAD0 : 0 ≤ wide * (cAt fd i).a * (high * (cAt fd i).d) := Int.mul_nonneg (by omega) (by omega)
    have hAD1 : wide * (cAt fd i).a * (high * (cAt fd i).d) ≤ 9 * 6 := Int.mul_le_mul (by omega) (by omega) (by omega) (by omega)
    refine Stop.mk ?_
    refine for_to rfl (fun j m nx2 => ∃ nx', nx2 = (I, oI) :: nx' ∧ (∀ p ∈ nx', p.1 ≠ I) ∧ LF w news u g P fd wide pas rass nx' ∧ m (Str.ofString "urn") = some (.ref u) ∧ m (Str.ofString "frame") = some (.ref f) ∧ m (Str.ofString "grid") = some (.ref g) ∧
      m (Str.ofString "place") = some (.int (i : Int) tv) ∧ m (Str.ofString "across") = some (.int (wide * (cAt fd i).a) ta9)) rfl R24 (by omega) (by omega) F24 (News.sub N24 fun p hp => .tail _ hp) ⟨nx, rfl, of_off1 hoff, lf, rfl, rfl, rfl, rfl, rfl⟩ ?_ ?_
    · clear F24 N24 R24 hf1 hfd1 hcl1 hF1 hfrx lf e1 e2 e3 F N hoff
      intro j tj m₂ nx2 h2 tk2 I2 oI2 hj PP1 hoff F N
      refine hush fun GG9 out9 => ?_
      obtain ⟨nx', rfl, hoI, lf, e1, e2, e3, e4, e5⟩ := PP1
      have F := Fr.over F [(Str.ofString "urn", .ref u), (Str.ofString "frame", .ref f), (Str.ofString "grid", .ref g), (Str.ofString "place", .int (i : Int) tv), (Str.ofString "across", .int (wide * (cAt fd i).a) ta9)] (by simp [e1, e2, e3, e4, e5])
      dsimp only [over] at F
      have hoff := off1_of hoff
      simp only [LCg.Off1] at hoff
      have hfrx : ∀ p ∈ fr, p ∈ nx' := fun p hp => lf.keep p (hfr p hp).1 (hfr p hp).2
      have hf1 := hfrx _ hf
      have hfd1 := hfrx _ hfd
      have hcl1 := hfrx _ hcl
      obtain ⟨o1, hu1, ho1⟩ := lf.urn
      have sk9 : StopKey "call ref" := ⟨trivial⟩
      refine out9 ?_
      clear out9 GG9
      refine hushQ fun QQ9 outQ9 => ?_
      k_steps
      refine Stop.mk ?_
      k_dflt (refine' Con.use (from_any _ _ _ _ _ _ _ ?hm ?ho _ _ ?hk0 ?hk1) ?B ?F ?X ?N ?T ?hk ?hd ?hu ?_)
      walk_at "u"
      case hm => k_mem
      case ho => assumption
      case hk0 => decide
      case hk1 => decide
      walk_at "v"
      intro _ _ h30 tk30 F30 N30 PP1
      refine hush fun GG9 out9 => ?_
      obtain ⟨o30, U30, rfl, i30, t30, rfl, lo30, hi30⟩ := PP1
      refine out9 ?_
      clear out9 GG9
      try dsimp only
      try k_sweep
      try k_fold
      have hIu : I ≠ u := fun e => hoI _ hu1 e.symm
      have hI2u : I2 ≠ u := fun e => of_off1 hoff.2 _ hu1 e.symm
      rw [repl_ne hI2u, repl_ne hIu] at N30
      have lf' := lf.repl hu U30
      have hoI' := repl_off_all (u := u) (o := o30) hoI
      have hoI2' := repl_off_all (u := u) (o := o30) (of_off1 hoff.2)
      have hII : I ≠ I2 := hoff.1
      clear hf1 hfd1 hcl1 hfrx lf hu1 ho1 hoI hoff e1 e2 e3 e4 e5
      generalize repl u o30 nx' = n30 at N30 lf' hoI' hoI2'
      have hfrx : ∀ p ∈ fr, p ∈ n30 := fun p hp => lf'.keep p (hfr p hp).1 (hfr p hp).2
      have hf1 := hfrx _ hf
      have hfd1 := hfrx _ hfd
      have hcl1 := hfrx _ hcl
      have hA1 : wide * (cAt fd i).a ≠ 0 := by omega
      have hn1 := ok.n1
      have hn2 := ok.n2
      have hnn : 1 ≤ fd.n * fd.n ∧ fd.n * fd.n ≤ 4 := ok.nn
      have hnn0 : 0 ≤ fd.n * fd.n := by omega
      have hnn1 : fd.n * fd.n ≤ 256 := by omega
      have hFn : Fn n30 := Fn.of (News.sub N30 (fun q hq => .tail _ (.tail _ hq)))
      have hG30 : ∃ G, GridIn w n30 (stOf P pas rass) g P (fd.n * fd.n) pas rass (WsOf fd wide) G := by
        obtain ⟨nn, G, hG, _, hs, _⟩ := lf'.grid
        exact ⟨G, hG.mono hs⟩
      refine hush fun GG9 out9 => ?_
      obtain ⟨G30, hG30⟩ := hG30
      have hG31 := hG30
      obtain ⟨dg, tg1, tg2, vg1, ng, ng1, hg0, hdg, hP0, hPl⟩ := hG31
      have hj2 : (j : Int) < wide * (cAt fd i).a * (high * (cAt fd i).d) := jlt hj
      obtain ⟨hy0, hy1, hx0, hx1⟩ := spot_at (Int.natCast_nonneg j) hj2 (by omega)
      have hii : ((i : Nat) : Int).toNat = i := Int.toNat_natCast i
      refine out9 ?_
      clear out9 GG9
      obtain ⟨p, e1⟩ : ∃ p, pas[((i : Nat) : Int).toNat]? = some p := ⟨_, List.getElem?_eq_getElem (by rw [hii, S9.lp]; exact hi')⟩
      obtain ⟨ras, e2⟩ : ∃ ras, rass[((i : Nat) : Int).toNat]? = some ras := ⟨_, List.getElem?_eq_getElem (by rw [hii, S9.lr]; exact hi')⟩
      have hrl : ras.length = (high * (cAt fd i).d).toNat := by rw [hii] at e2; exact S9.hts _ _ e2
      obtain ⟨ra, e3⟩ : ∃ ra, ras[(Int.fdiv (j : Int) (wide * (cAt fd i).a)).toNat]? = some ra := ⟨_, List.getElem?_eq_getElem (by rw [hrl]; exact tlt hy1 hdn.1)⟩
      have e4 : (Int.fmod (j : Int) (wide * (cAt fd i).a)).toNat < WsOf fd wide ((i : Nat) : Int).toNat := by rw [hii]; show _ < (wide * (cAt fd i).a).toNat; exact tlt hx1 han.1
      refine hush fun GG9 out9 => ?_
      obtain ⟨vr, nr, hra, hvr⟩ := hG30.row_in e1 e2 e3
      obtain ⟨hpr, hPr⟩ := st_apart S9.nodup e1 e2 e3
      refine out9 ?_
      clear out9 GG9
      k_steps
      · rename_i l31 h31 l1 D31 h32 F32 N32 l32
        refine Stop.mk ?_
        k_dflt (refine' Con.use (put_con w mean mg mb _ (stOf P pas rass) g P (fd.n * fd.n) pas rass (WsOf fd wide) G30 (hG30.mono ?sub) _ _ _ _ _ _ p ras ra ?k0 ?k1 hy0 ?y1 hx0 ?x1 e1 e2 e3 e4 _ _ _ _ ?hr (ints_rep _ _ _) ?il ?rr hpr hPr) ?B ?F ?X ?N ?T ?hk ?hd ?hu ?_)
        case N => k_asm
        case sub => exact fun q hq => .tail _ (.tail _ (.tail _ (.tail _ hq)))
        case hr => exact .head _
        case k0 => omega
        case k1 => exact c1k hi' hlen3
        case y1 => exact l6k hy1 hdn.2
        case x1 => exact l9k hx1 han.2
        case il => rw [List.length_replicate]; omega
        case rr => exact (lt_of_allLt l32.2.2.2 hra).symm
        case B => k_asm
        case F => k_asm
        case X => k_asm
        case T => k_asm
        case hk => exact rfl
        case hd => ktr_room
        case hu => ktr_units
        k_whole
        intro r9 n9 h9 tk9 F9 N9 P9
        refine hush fun GG9 out9 => ?_
        obtain ⟨rfl, b9, c9, vs9, nn9, hra9, hvl9, e9, hb9⟩ := P9
        subst e9
        refine out9 ?_
        clear out9 GG9
        try dsimp only
        try k_fold
        have hDr : D31 ≠ ra := (lt_of_allLt l32.2.2.2 hra).symm
        have hlr : l31 ≠ ra := (lt_of_allLt l1.2.2 hra).symm
        have hI2r : I2 ≠ ra := (hoI2' _ hra).symm
        have hIr : I ≠ ra := (hoI' _ hra).symm
        rw [repl_ne hDr, repl_ne hlr, repl_ne hI2r, repl_ne hIr] at N9
        have hra30 := mem_of_ne (mem_of_ne (mem_of_ne (mem_of_ne hra9 hDr) hlr) hI2r) hIr
        have hb30 : ∀ q ∈ n30, q.1 ≠ b9 := fun q hq => hb9 q (.tail _ (.tail _ (.tail _ (.tail _ hq))))
        have hbI : I ≠ b9 := hb9 (I, oI) (.tail _ (.tail _ (.tail _ (.head _))))
        have hbI2 : I2 ≠ b9 := hb9 (I2, oI2) (.tail _ (.tail _ (.head _)))
        have lf9 := lf'.put (S9.lp.trans S9.lr.symm) S9.nodup hFn e1 e2 e3 e4 hra30 (b := b9) (c := c9) (ints_rep (100 * (i : Int) + (j : Int) + 1) (tk + 1 + 1 + 1 + 1 + 1 + 1) (fd.n * fd.n).toNat) (by rw [List.length_replicate]; omega) (by rw [List.length_replicate]; omega) hb30 hu
        k_steps
        refine outQ9 _ _ ?_
        refine TurnEnd.intro F9 N9 (.tail _ (.tail _ (.tail _ (.head _)))) ?_ ?_ ⟨_, rfl, ?_, lf9, rfl, rfl, rfl, rfl, rfl⟩
        · refine fc ?_ ?_
          · exact .tail _ (.tail _ (.tail _ (.tail _ (.head _))))
          · refine fc ?_ ?_
            · exact .head _
            · intro q hq
              exact .tail _ (.tail _ (.tail _ (.tail _ (.tail _ hq))))
        · refine fc ?_ ?_
          · exact hII
          · refine fc ?_ ?_
            · exact hbI2.symm
            · intro q hq
              exact repl_off_all hoI2' q hq
        · refine fc ?_ ?_
          · exact hbI.symm
          · intro q hq
            exact repl_off_all hoI' q hq
      · refine outQ9 _ _ ?_
        refine TurnEnd.intro F30 N30 (.head _) (fun p hp => .tail _ hp) ?_ ⟨n30, rfl, hoI', lf', rfl, rfl, rfl, rfl, rfl⟩
        refine fc ?_ ?_
        · exact hII
        · intro q hq
          exact hoI2' q hq
    · intro m₂ nx2 h2 tk2 PP1 F N
      refine hush fun GG9 out9 => ?_
      obtain ⟨nx', rfl, hoI, lf, e1, e2, e3, e4, e5⟩ := PP1
      refine out9 ?_
      clear out9 GG9
      k_steps
      refine outQ9 _ _ ?_
      refine TurnEnd.intro F N (.head _) (fun p hp => .tail _ hp) hoI ⟨lf, e1, e2, e3⟩
  · intro m₂ nx2 h2 tk2 PP1 F N
    refine hush fun GG9 out9 => ?_
    obtain ⟨lf, e1, e2, e3⟩ := PP1
    have F := Fr.over0 F [(Str.ofString "grid", .ref g)] (by simp [e3])
    dsimp only [over] at F
    refine out9 ?_
    clear out9 GG9
    k_steps
    apply hret
    · k_asm
    · k_asm
    · exact ⟨g, P, pas, rass, rfl, S9, lf, fr9⟩
end

theorem flush44filled {prog : Program} {w : World} {A : Around} {E : Value → Shared → Prop} {s : Shared} {env : Env} {Q : Flow → Shared → Prop} (h : wpAny (model prog w) A (execs [] env) Q E s) : wpAny (model prog w) A (execs [] env) Q E s := by
  w_top off
  (try (walk1; fail))
  exact h
theorem Grown.refl {l : Led} : Grown l l := ⟨fun _ h => h, fun _ h => .inl h⟩
theorem Grown.trans {a b c : Led} (h1 : Grown a b) (h2 : Grown b c) : Grown a c :=
  ⟨fun p hp => h2.sub p (h1.sub p hp), fun p hp => by
    rcases h2.new p hp with h | h
    · exact h1.new p h
    · exact .inr fun q hq => h q (h1.sub q hq)⟩
theorem newp_sub {a b : Led} : ∀ p ∈ newp a b, p ∈ b := fun _ hp => (mem_newp.mp hp).1
theorem newp_grow {a b c : Led} (h : ∀ p ∈ b, p ∈ c) : ∀ p ∈ newp a b, p ∈ newp a c := fun p hp => mem_newp.mpr ⟨h p (mem_newp.mp hp).1, (mem_newp.mp hp).2⟩
theorem newp_back {a b c : Led} (h : ∀ p ∈ a, p ∈ b) : ∀ p ∈ newp b c, p ∈ newp a c := fun p hp => mem_newp.mpr ⟨(mem_newp.mp hp).1, fun q hq => (mem_newp.mp hp).2 q (h q hq)⟩
/-- what an element's walk is to show -/
def ElemEnd (h₀ : Heap) (L : Addr) (m : Str → Option Value) (s : Shared) (base : Led) (d : Dat) (y : Value) (s₂ : Shared) : Prop :=
  ∃ h' tk' nx', s₂ = { s with heap := h', toks := tk' } ∧ Fr h₀ L h' m ∧ News h₀ L h' nx' ∧ Grown base nx' ∧ DatIn (newp base nx') y d
theorem ElemEnd.intro {h₀ : Heap} {L : Addr} {m : Str → Option Value} {s : Shared} {base nx' : Led} {d : Dat} {y : Value} {h' : Heap} {tk' : Nat} (F : Fr h₀ L h' m) (N : News h₀ L h' nx') (g : Grown base nx') (D : DatIn (newp base nx') y d) :
    ElemEnd h₀ L m s base d y { s with heap := h', toks := tk' } := ⟨h', tk', nx', rfl, F, N, g, D⟩

/-- a comprehension over a list of the ledger whose elements are data made anew -/
theorem comp_dat {prog : Program} {w : World} {A : Around} {h₀ : Heap} {L : Addr} {m : Str → Option Value} {env : Env} {elt : PySem.Expr} {x : Str} {scope : Scope} {cl : List (Str × Addr)} {s : Shared} {Fin : List Value → Led → Prop} {its : Array Value} {ax : Addr} {k : Nat} {base : Led}
    (hm : (ax, listOf its k) ∈ base) (ds : Nat → Dat)
    (turn : ∀ i ys nx v I oI C oC D m₂ h tk (E' : Value → Shared → Prop), i < its.size → its[i]? = some v → Grown base nx → (∀ p ∈ base, p ∈ nx) → LCg.NsObj oC m₂ → m₂ x = some v → Fr h₀ L h m → News h₀ L h ((I, oI) :: (C, oC) :: (D, LCg.lst ys) :: nx) →
      wpAny (model prog w) A (eval elt (compEnvC scope cl C env)) (ElemEnd h₀ L m { s with heap := h, toks := tk } ((I, oI) :: (C, oC) :: (D, LCg.lst ys) :: nx) (ds i)) E' { s with heap := h, toks := tk })
    (fin : ∀ ys nx, Grown base nx → DatAll (newp base nx) ys ((List.range its.size).map ds) → Fin ys nx) :
    LCg.CompRest prog w A h₀ L m env elt x scope cl s (LCg.SrcAt h₀ ax its) (fun i v => its[i]? = some v) Fin its.size 0 [] base := by
  refine comp_inv (fun i ys nx => Grown base nx ∧ DatAll (newp base nx) ys ((List.range i).map ds)) ⟨Grown.refl, .nil⟩ ?_ (fun ys nx _ h => fin ys nx h.1 h.2)
  rintro i ys nx v I oI C oC D m₂ h tk E' hi hyl hv ⟨g, da⟩ hC hx F N off ne
  refine wpAny_mono (turn i ys nx v I oI C oC D m₂ h tk E' hi hv g g.sub hC hx F N) (fun y s₂ p => ?_) fun _ _ e => e
  obtain ⟨h', tk', nx', rfl, F', N', g', d'⟩ := p
  have off3 := off.mem
  have hnew : ∀ p ∈ newp ((I, oI) :: (C, oC) :: (D, LCg.lst ys) :: nx) nx', p.1 ≠ I ∧ p.1 ≠ C ∧ p.1 ≠ D := fun p hp => by
    have z := (mem_newp.mp hp).2
    exact ⟨(z (I, oI) (.head _)).symm, (z (C, oC) (.tail _ (.head _))).symm, (z (D, LCg.lst ys) (.tail _ (.tail _ (.head _)))).symm⟩
  have hsub : ∀ p ∈ nx, p ∈ newp ((I, oI) :: (C, oC) :: (D, LCg.lst ys) :: nx) nx' ++ nx := fun p hp => List.mem_append_right _ hp
  have gn : Grown nx (newp ((I, oI) :: (C, oC) :: (D, LCg.lst ys) :: nx) nx' ++ nx) := ⟨hsub, fun p hp => by
    rcases List.mem_append.mp hp with hp | hp
    · exact .inr fun q hq => (mem_newp.mp hp).2 q (.tail _ (.tail _ (.tail _ hq)))
    · exact .inl hp⟩
  refine LCg.CompEnd.intro F' N' (newp ((I, oI) :: (C, oC) :: (D, LCg.lst ys) :: nx) nx' ++ nx) ?_ ?_ (.inr ⟨_, hsub _ (g.sub _ hm), rfl, _, rfl⟩) ⟨g.trans gn, ?_⟩
  · refine fc ?_ ?_
    · exact g'.sub _ (.head _)
    · refine fc ?_ ?_
      · exact g'.sub _ (.tail _ (.head _))
      · refine fc ?_ ?_
        · exact g'.sub _ (.tail _ (.tail _ (.head _)))
        · intro p hp
          rcases List.mem_append.mp hp with hp | hp
          · exact newp_sub _ hp
          · exact g'.sub _ (.tail _ (.tail _ (.tail _ hp)))
  · refine LCg.Off3.of fun p hp => ?_
    rcases List.mem_append.mp hp with hp | hp
    · exact hnew p hp
    · exact off3 p hp
  · rw [List.range_succ, List.map_append, List.map_cons, List.map_nil]
    refine DatAll.append (DatAll.mono (newp_grow hsub) da) (DatAll.one (DatIn.mono (fun p hp => ?_) d'))
    have z := mem_newp.mp hp
    exact mem_newp.mpr ⟨List.mem_append_left _ hp, fun q hq => z.2 q (.tail _ (.tail _ (.tail _ (g.sub q hq))))⟩
theorem Grown.cons {l : Led} {a : Addr} {o : Obj} (h : ∀ p ∈ l, p.1 ≠ a) : Grown l ((a, o) :: l) :=
  ⟨fun _ hp => .tail _ hp, by
    refine fc ?_ ?_
    · exact .inr h
    · intro p hp
      exact .inl hp⟩
theorem dat_done {base nx : Led} {D : Addr} {ys : List Value} {ds : List Dat} (gr : Grown base nx) (da : DatAll (newp base nx) ys ds) (o : LCg.Off1 D nx) :
    Grown base ((D, LCg.lst ys) :: nx) ∧ DatIn (newp base ((D, LCg.lst ys) :: nx)) (.ref D) (.list ds) :=
  ⟨gr.trans (Grown.cons (of_off1 o)), DatIn.list (mem_newp.mpr ⟨.head _, fun q hq => of_off1 o q (gr.sub q hq)⟩) (DatAll.mono (newp_grow fun p hp => .tail _ hp) da)⟩
theorem ints_dat {nn : Led} {vs : List Value} {is : List Int} (h : IntsAre vs is) : DatAll nn vs (is.map Dat.int) := by
  induction h with
  | nil => exact .nil
  | cons i t _ ih => exact .cons (.int i t) ih

theorem flush45comp {prog : Program} {w : World} {A : Around} {E : Value → Shared → Prop} {s : Shared} {env : Env} {Q : Flow → Shared → Prop} (h : wpAny (model prog w) A (execs [] env) Q E s) : wpAny (model prog w) A (execs [] env) Q E s := by
  w_top off
  (try (walk1; fail))
  exact h
def cellDat : Cell → Dat
  | none => .none
  | some is => .list (is.map Dat.int)
def compDat (c : CD) : Dat := .list [.int c.i, .int c.a, .int c.d, .int c.q]
def rowsDat (fd : FD) : Dat := .list ((List.range fd.comps.length).map fun i => compDat (cAt fd i))
def heldDat (fd : FD) (wide high : Int) (G : Nat → Nat → Nat → Cell) : Dat :=
  .list ((List.range fd.comps.length).map fun k => .list ((List.range (HsOf fd high k)).map fun j => .list ((List.range (WsOf fd wide k)).map fun i => cellDat (G k j i))))
def allDats (fd : FD) (wide high : Int) (G : Nat → Nat → Nat → Cell) : List Dat :=
  [.str (Str.ofString "progressive"), .int 8, .int fd.height, .int fd.width, .int fd.n, rowsDat fd, heldDat fd wide high G]
def allDat (fd : FD) (wide high : Int) (G : Nat → Nat → Nat → Cell) : Dat := .list (allDats fd wide high G)

theorem flush46all {prog : Program} {w : World} {A : Around} {E : Value → Shared → Prop} {s : Shared} {env : Env} {Q : Flow → Shared → Prop} (h : wpAny (model prog w) A (execs [] env) Q E s) : wpAny (model prog w) A (execs [] env) Q E s := by
  w_top off
  (try (walk1; fail))
  exact h
/-- an own exception class without slots of its own: how it lies in the written part -/
abbrev fexTail : List Value := [.ref 31, .type "Exception", .type "BaseException", .type "object"]
def fexIn (K : Frag) (C : Addr) (bm : List Value) : Bool := match K.lookup C with
  | some ⟨.type "type", _, .cls cd, sl⟩ => (match cd.mro, sl.toList with
    | .ref C' :: bm', [_, _, _, _, some (.builtin n), _] => C' == C && n == "Exception.__new__" && !cd.hasDel && bm' == bm
    | _, _ => false)
  | _ => false
def FexAt (h : Heap) (C : Addr) (bm : List Value) : Prop :=
  ∃ nm q N bs hdct sn sub ab col dd k0 k1 k2 k3 k5, h.get? C = some (excClassObj nm q C N bs bm hdct sn sub ab col dd k0 k1 k2 k3 k5 "Exception.__new__")
theorem fex_of {K : Frag} {h : Heap} {C : Addr} {bm : List Value} (X : K.In h) (e : fexIn K C bm = true) : FexAt h C bm := by
  unfold fexIn at e
  split at e
  · rename_i dd cd sl ho
    split at e
    · rename_i C' bm' k0 k1 k2 k3 n k5 hm hs
      simp only [Bool.and_eq_true, beq_iff_eq, Bool.not_eq_true'] at e
      obtain ⟨⟨⟨rfl, rfl⟩, hdel⟩, rfl⟩ := e
      obtain ⟨nm, bs, mro, ns, qn, hd, sn, sub, ab, col, del⟩ := cd
      dsimp only at hm hdel
      subst hm hdel
      have hsl : sl = #[k0, k1, k2, k3, some (.builtin "Exception.__new__"), k5] := by
        obtain ⟨l⟩ := sl
        simp only at hs
        rw [hs]
      subst hsl
      exact ⟨nm, qn, ns, bs, hd, sn, sub, ab, col, dd, k0, k1, k2, k3, k5, X _ _ ho⟩
    · cases e
  · cases e
abbrev excObj (C t : Addr) : Obj := { cls := .ref C, data := .fields #[.ref t, .none, .none, .none, .bool false, .none] }

section
variable {prog : Program} {w : World} {A : Around} {C : Addr} {h : Heap} {g : Array GenState} {d : Drawn} {t : Nat} {os : OsState}
theorem fex_new {R : Result → Shared → Prop} {rest : List Value} (Y : FexAt h C fexTail)
    (hq : R (.ok (.ret (.ref (h.objs.size + 1)))) ⟨(h.push (tupOf rest)).push (excObj C h.objs.size), g, d, t, os⟩) (hrest : rest.length ≤ sizeLine) :
    codeAny (model prog w) A (.call (.builtin "Exception.__new__") ⟨.ref C :: rest, []⟩) R ⟨h, g, d, t, os⟩ := by
  obtain ⟨nm, q, N, bs, hdct, sn, sub, ab, col, dd, k0, k1, k2, k3, k5, hC⟩ := Y
  have F := PySem.F.excBase_Exception
  have hcB : (Value.ref C :: fexTail).contains (.type "Exception") = true := by rw [List.contains_cons]; simp
  have hcA : (Value.ref C :: fexTail).contains (.type "AttributeError") = false := by rw [List.contains_cons]; rfl
  have hcN : (Value.ref C :: fexTail).contains (.type "NameError") = false := by rw [List.contains_cons]; rfl
  have hends := F.ends
  have hstar := F.noStar
  refine codeAny_call_builtin_code (Code.quiet_builtin _ F.quiet) ?_
  simp only [checkBuiltinCall, F.newKind, F.newSplit, F.newRow]
  repeat (first | with_reducible refine wpAny_loadPart_at hC ?_ | (with_reducible refine wpAny_isSubtype_exc hC ?_; rw [hcB]) | with_reducible refine wpAny_staticBase_exc hC ?_ | with_reducible refine wpAny_madeBy_exc hC ?_ | simp only [bne_self_eq_false, Bool.false_eq_true, if_false] | wp_step)
  refine codeAny_builtinAt F.entry ?_
  unfold Builtin.«BaseException.__new__»
  refine PySem.wpAt_bind ?_
  show PySem.wpAt _ _ _ (stack >>= _) _ _ _
  refine PySem.wpAt_bind (PySem.wpAt_stack fun p below => PySem.wpAt_of_wpAny ?_)
  wp_walk
  refine PySem.wpAt_of_wpAny ?_
  rw [F.owner]
  repeat (first | with_reducible refine wpAny_madeHere_exc F.canon hC ?_ | with_reducible refine wpAny_loadPart_at hC ?_ | (with_reducible refine wpAny_isSubtype_exc hC ?_; first | rw [hcB] | rw [hcA] | rw [hcN]) | wp_step)
  show R _ _
  rw [Heap.size_push]
  exact hq
theorem fex_core {R : Result → Shared → Prop} {rest : List Value} {init : Value} (Y : FexAt h C fexTail) (hi : Looks (model prog w) h (typeLookup (.ref C) "__init__") (some init))
    (hb : ∀ self, Looks (model prog w) h (bindSpecial init self) (init, [self])) (call : Looks (model prog w) h (specialOf (.ref C) "__call__") (some (.builtin "type.__call__"))) (typ : Looks (model prog w) h (isInstance (.ref C) (.type "type")) true)
    (hq : codeAny (model prog w) (A.under (.builtin "type.__call__" ⟨.ref C :: rest, []⟩)) (.call init ⟨.ref (h.objs.size + 1) :: rest, []⟩) (InitBack (h.objs.size + 1) R) ⟨(h.push (tupOf rest)).push (excObj C h.objs.size), g, d, t, os⟩) (hrest : rest.length ≤ sizeLine) :
    codeAny (model prog w) A (.call (.ref C) ⟨rest, []⟩) R ⟨h, g, d, t, os⟩ := by
  have Y' := Y
  obtain ⟨nm, q, N, bs, hdct, sn, sub, ab, col, dd, k0, k1, k2, k3, k5, hC⟩ := Y
  refine codeAny_of_tree ?_
  show wpAny _ _ (callAny (.ref C) _) _ _ _
  refine nd_load hC ?_
  show wpAny _ _ (callAny.viaDunder (.ref C) _) _ _ _
  unfold callAny.viaDunder
  refine wpAny_bind (call.at ?_)
  dsimp only
  rw [tc_bind]
  refine wpAny_bind (wpAny_pure (wpAny_bind (wpAny_pure ?_)))
  refine wpAny_pure (a := Fin.again (.call (.builtin "type.__call__") ⟨.ref C :: rest, []⟩)) (And.intro rfl ?_)
  refine codeAny_call_builtin_at (Code.quiet_builtin _ (by decide +kernel)) entry_typeCall (check_slot tc_kind tc_split typ (tc_args _ _ _) ?_)
  unfold Builtin.«type.__call__»
  repeat (first | with_reducible refine wpAny_loadPart_at hC ?_ | with_reducible refine wpAny_madeBy_exc hC ?_ | wp_step)
  refine fex_new Y' ?_ hrest
  have k : ∀ b o, h.get? b = some o → ((h.push (tupOf rest)).push (excObj C h.objs.size)).get? b = some o := fun b o e => Heap.get?_push_of_some _ (Heap.get?_push_of_some _ e)
  have hx : ((h.push (tupOf rest)).push (excObj C h.objs.size)).get? (h.objs.size + 1) = some (excObj C h.objs.size) := by heap_get
  have hC₁ := k _ _ hC
  have hcC : (Value.ref C :: fexTail).contains (.ref C) = true := by simp
  show wpAny _ _ _ _ _ _
  unfold isInstance
  repeat (first | with_reducible refine wpAny_loadPart_at hx ?_ | (with_reducible refine wpAny_isSubtype_exc hC₁ ?_; rw [hcC]) | wp_step)
  show wpAny _ _ (typeLookup (.ref C) _) _ _ _
  refine (hi.keeps k).here ?_
  dsimp only
  refine wpAny_holding (wpAny_bind (((hb _).keeps k).here ?_))
  dsimp only
  refine wpAny_bind (wpAny_call (codeAny_mono hq fun r s' z => ?_))
  rcases r with e | (v | _ | _ | _) <;> first | exact z | exact z.elim | skip
  obtain ⟨rfl, z⟩ := z
  exact wpAny_pure (wpAny_pure z)
end
section
variable {prog : Program} {w : World} {A : Around} {E : Value → Shared → Prop} {K : Frag} {C : Addr} {s : Shared} {h₀ : Heap} {L : Addr} {m : Str → Option Value} {news : Led} {Q : Value → Shared → Prop}
theorem call_fex {rest : List Value} {fI : Addr} (F : Fr h₀ L s.heap m) (X₀ : K.In h₀) (N : News h₀ L s.heap news) (hm : fexIn K C fexTail = true) (hc : specialIn K (.ref C) "__call__" = some (some (.builtin "type.__call__"))) (ht : instIn K (.ref C) (.type "type") = some true)
    (hi : findIn K (.ref C) "__init__" = some (some (.ref fI))) (hf : typeIn K (.ref fI) = some (.type "function")) (hrest : rest.length ≤ sizeLine)
    (h : ∀ e t h', Fr h₀ L h' m → News h₀ L h' ((e, excObj C t) :: (t, tupOf rest) :: news) → (∀ p ∈ news, p.1 < t) → t < e →
      codeAny (model prog w) (A.under (.builtin "type.__call__" ⟨.ref C :: rest, []⟩)) (.call (.ref fI) ⟨.ref e :: rest, []⟩) (InitBack e fun r s' => match r with | .ok (.ret v) => Q v s' | .ok _ => False | .error e => E e s') { s with heap := h' }) :
    wpAny (model prog w) A (call (.ref C) rest) Q E s := by
  have X := X₀.keeps F.keep
  obtain ⟨hh, g, d, t, os⟩ := s
  refine wpAny_call (fex_core (fex_of X hm) (looks_findIn X hi) (fun self => bind_fn X self hf) (looks_specialIn X hc) (looks_instIn X ht) (h _ hh.objs.size _ ((F.push _).push _) ?_ (fun p hp => Heap.lt_size (N p hp).1) (Nat.lt_succ_self _)) hrest)
  have := (N.push F (tupOf rest)).push (F.push _) (excObj C hh.objs.size)
  rwa [Heap.size_push] at this
end

theorem flush50exc {prog : Program} {w : World} {A : Around} {E : Value → Shared → Prop} {s : Shared} {env : Env} {Q : Flow → Shared → Prop} (h : wpAny (model prog w) A (execs [] env) Q E s) : wpAny (model prog w) A (execs [] env) Q E s := by
  w_top off
  (try (walk1; fail))
  exact h
def ThrowAt (C : Addr) (bm : List Value) (E : Value → Shared → Prop) (v : Value) (s : Shared) : Prop :=
  ∃ e ob ts, v = .ref e ∧ FexAt s.heap C bm ∧ s.heap.get? e = some ob ∧ ob.cls = .ref C ∧ ob.data = .fields ts ∧ ts[1]? = some .none ∧ E (.ref e) s
section
variable {M : Model} {A : Around} {E : Value → Shared → Prop} {s : Shared} {env : Env} {C : Addr} {bm : List Value}
theorem raise_own {x : PySem.Expr} {pos : Pos} {Q : Flow → Shared → Prop} (hbase : bm.contains (.type "BaseException") = true) (hh : A.handled = none)
    (h : wpAny M A (eval x env) (ThrowAt C bm E) E s) : wpAny M A (exec (.Raise (some x) none pos) env) Q E s := by
  have hcB : (Value.ref C :: bm).contains (.type "BaseException") = true := by rw [List.contains_cons, hbase, Bool.or_true]
  rw [arm_exec_Raise]
  refine wpAny_bind (wpAny_standAt ?_)
  unfold raiseStmt
  refine wpAny_bind (wpAny_bind (wpAny_mono h (fun v s₁ h₁ => wpAny_bind (wpAny_standAt (wpAny_pure ?_))) fun _ _ x => x))
  obtain ⟨e, ob, ts, rfl, ⟨nm, q, N, bs, hdct, sn, sub, ab, col, dd, k0, k1, k2, k3, k5, hC⟩, he, hcls, hd, h1, hE⟩ := h₁
  obtain ⟨hp, g, d, tk, os⟩ := s₁
  obtain ⟨cls, dct, sl, data⟩ := ob
  dsimp only at hcls hd
  subst hcls hd
  repeat (first | with_reducible refine wpAny_loadPart_at he ?_ | with_reducible refine wpAny_loadPart_at hC ?_ | (with_reducible refine wpAny_isSubtype_exc hC ?_; rw [hcB]) | wp_step)
  rw [h1]
  refine wpAny_pure ?_
  rw [if_neg (by decide)]
  exact wpAny_pure (wpAny_raiseNew_none hh hE)
end
section
variable {prog : Program} {w : World} {A : Around} {E : Value → Shared → Prop} {K : Frag} {C e t : Addr} {s : Shared} {h₀ : Heap} {L : Addr} {m : Str → Option Value} {r : Led}
theorem init_fex {Q : Value → Shared → Prop} {rest : List Value} (F : Fr h₀ L s.heap m) (X₀ : K.In h₀) (N : News h₀ L s.heap ((e, excObj C t) :: r)) (hap : ∀ p ∈ r, p.1 ≠ e) (hm : fexIn K C fexTail = true)
    (h : ∀ t2 h', Fr h₀ L h' m → News h₀ L h' ((e, excObj C t2) :: r) → Q .none { s with heap := h' }) (hrest : rest.length ≤ sizeLine) :
    wpAny (model prog w) A (call (.builtin "Exception.__init__") (.ref e :: rest)) Q E s := by
  obtain ⟨nm, q, NN, bs, hdct, sn, sub, ab, col, dd, k0, k1, k2, k3, k5, hC⟩ := fex_of (X₀.keeps F.keep) hm
  have FF := PySem.F.excBase_Exception
  have he := (N _ (.head _)).1
  have hcB : (Value.ref C :: fexTail).contains (.type "Exception") = true := by rw [List.contains_cons]; simp
  have hstar := FF.noStar
  refine wpAny_call (codeAny_call_builtin FF.init.plain FF.initEntry ?_)
  have hchk : ∀ (A' : Around) (E' : Value → Shared → Prop) (Q' : Unit → Shared → Prop), Q' () s → wpAny (model prog w) A' (checkBuiltinCall "Exception.__init__" ⟨.ref e :: rest, []⟩) Q' E' s := fun A' E' Q' hq => by
    obtain ⟨hp, g, d, tk, os⟩ := s
    simp only [checkBuiltinCall, FF.initKind, FF.initSplit, FF.initRow]
    repeat (first | with_reducible refine wpAny_loadPart_at he ?_ | with_reducible refine wpAny_loadPart_at hC ?_ | (with_reducible refine wpAny_isSubtype_exc hC ?_; rw [hcB]) | wp_step)
    refine wpAny_onRaise ?_
    rw [show ∀ (a b : String) (n : Nat), Bind.check ⟨.positional, "*", "Exception", .self, [⟨"args", .varPos, false⟩]⟩ a b n (List.map (fun x => x.fst) ({ pos := Value.ref e :: rest } : Args).kw) = pure () from
      fun a b n => check_star_args _ _ _ _ _ _]
    exact wpAny_pure hq
  refine hchk _ _ _ ?_
  unfold Builtin.«BaseException.__init__»
  dsimp only
  rw [if_neg (by simp)]
  unfold newTuple Builtin.BaseException.bexcPut
  have he₁ := Heap.get?_push_of_some (h := s.heap) { cls := .type "tuple", data := .seq rest.toArray } he
  refine wpAny_bind (wpAny_newObj_type (wpAny_bind (wpAny_bind (wpAny_field he₁ rfl rfl (wpAny_bind (wpAny_setField he₁ rfl (Nat.succ_pos _) ?_))))) (by show rest.toArray.size ≤ sizeLine; rw [List.size_toArray]; exact hrest))
  refine wpAny_letGo (wpAny_pure (h s.heap.objs.size _ ((F.push _).change (Heap.SameBut.update ..) (N _ (.head _)).2.1 (N _ (.head _)).2.2) ?_))
  exact News.setHead (N.pushKeep _) hap (Heap.SameBut.update ..) (Heap.get?_update_self _ he₁ rfl)
theorem osa_fex {R : Result → Shared → Prop} {name : Str} {tk : Tok} {v : Value} {ts : Array Value} {slots : Array (Option Value)} (F : Fr h₀ L s.heap m) (X₀ : K.In h₀) (N : News h₀ L s.heap ((e, ⟨.ref C, none, .fields ts, slots⟩) :: r)) (hap : ∀ p ∈ r, p.1 ≠ e) (hm : fexIn K C fexTail = true)
    (hna : findIn K (.ref C) name = some none) (hmo : mroIn K C (.type "object") = some true) (hh : hasDictIn K C = true)
    (h : ∀ d tk h', Fr h₀ L h' m → News h₀ L h' ((e, ⟨.ref C, some d, .fields ts, slots⟩) :: r) → R (.ok (.ret .none)) { s with heap := h', toks := tk }) :
    codeAny (model prog w) A (.call (.builtin "object.__setattr__") ⟨[.ref e, .str name tk, v], []⟩) R s := by
  have X := X₀.keeps F.keep
  obtain ⟨nm, q, NN, bs, hdct, sn, sub, ab, col, dd, k0, k1, k2, k3, k5, hC⟩ := fex_of X hm
  have he := (N _ (.head _)).1
  have I : InstAt s.heap e ⟨.ref C, none, .fields ts, slots⟩ C none := ⟨he, rfl, rfl, trivial⟩
  have SF := PySem.F.store_Exception
  obtain ⟨cd, hc, hd'⟩ := any_some hh
  have hm0 : Looks (model prog w) s.heap (mroOf (.ref C)) (.ref C :: fexTail) := fun A Q E s' k q => wpAny_mroOf_exc (k _ _ hC) q
  have sub : Looks (model prog w) s.heap (isInstance (.ref e) (.type "object")) true := I.type.andThen (looks_mroIn X hmo)
  refine codeAny_call_builtin SF.slot.plain SF.entry (@check_slot (model prog w) _ _ s "object.__setattr__" "object" "__setattr__" (.ref e) [.str name tk, v] [] _ SF.kind SF.split sub (SF.args (.ref e) (.str name tk) v) ?_)
  rw [osa_eq, refuse_eq]
  refine wpAny_bind (wpAny_bind (I.type.here (wpAny_bind (hm0.here ?_))))
  rw [refuseLoop_ref]
  unfold fexTail
  rw [refuseLoop_ref, SF.passes]
  refine wpAny_pure (wpAny_bind (I.type.here (wpAny_bind ((looks_findIn X hna).here (wpAny_bind (wpAny_pure ?_))))))
  refine wpAny_bind (wpAny_pure (wpAny_bind (wpAny_bind (wpAny_loadPart he (wpAny_bind ((looks_clsIn X hc).here ?_))))))
  rw [hd']
  have hes : e ≠ s.heap.objs.size := Nat.ne_of_lt (Heap.lt_size he)
  have he₁ := Heap.get?_push_of_some (h := s.heap) { cls := .type "dict", data := .dict #[] } he
  refine wpAny_bind (wpAny_alloc' ?_)
  refine wpAny_bind (wpAny_update' he₁ ?_)
  refine wpAny_pure ?_
  have hgd : ((s.heap.push { cls := .type "dict", data := .dict #[] }).update e fun o => { cls := o.cls, dict := some s.heap.objs.size, data := o.data, slots := o.slots }).get? s.heap.objs.size
      = some { cls := .type "dict", data := .dict #[] } := (Heap.get?_update_ne _ _ _ _ hes.symm).trans (Heap.get?_push_at rfl rfl)
  have hnd : ((s.heap.push { cls := .type "dict", data := .dict #[] }).update e fun o => { cls := o.cls, dict := some s.heap.objs.size, data := o.data, slots := o.slots }).Ns s.heap.objs.size (fun _ => none) :=
    ⟨_, #[], _, hgd, rfl, fun e he => absurd he (by simp), fun _ => rfl⟩
  show wpAny _ _ (Builtin.ObjectAttr.storeInDict s.heap.objs.size (.str name tk) name v) _ _ _
  unfold Builtin.ObjectAttr.storeInDict Builtin.ObjectAttr.newKeyGuard
  have F1 := (F.push { cls := .type "dict", data := .dict #[] }).change (Heap.SameBut.update (h := s.heap.push { cls := .type "dict", data := .dict #[] }) (a := e) (f := fun o => { cls := o.cls, dict := some s.heap.objs.size, data := o.data, slots := o.slots })) (N _ (.head _)).2.1 (N _ (.head _)).2.2
  have N1 := News.setHead (N.pushKeep { cls := .type "dict", data := .dict #[] }) hap (Heap.SameBut.update (h := s.heap.push { cls := .type "dict", data := .dict #[] }) (a := e) (f := fun o => { cls := o.cls, dict := some s.heap.objs.size, data := o.data, slots := o.slots })) (Heap.get?_update_self _ he₁ rfl)
  have hL : s.heap.objs.size ≠ L := fun z => by
    obtain ⟨o, es, ep, hL, _⟩ := F.ns
    exact Nat.lt_irrefl _ (z ▸ Heap.lt_size hL)
  have hn0 : h₀.get? s.heap.objs.size = none := by
    cases q : h₀.get? s.heap.objs.size with
    | none => rfl
    | some o => exact absurd (Heap.lt_size (F.keep _ _ q)) (Nat.lt_irrefl _)
  refine wpAny_bind (wpAny_pure (wpAny_bind (wpAny_nsSet1 (Heap.Ns1.of_empty hnd) fun h' hn' hs => ?_)))
  obtain ⟨oD, esD, epD, hoD, hdD, hcD⟩ := hn'.count (Within.cons name v Within.nil)
  refine wpAny_bind (wpAny_lookBehind hoD (by rw [hdD]; exact pastItsLine_dict (Nat.le_trans hcD (by rw [List.length_cons, List.length_nil, sizeLine_eq]; omega))) ?_)
  refine wpAny_pure (h s.heap.objs.size _ h' (F1.change hs hL hn0) fun p hp => ?_)
  refine ⟨(hs.2 p.1 ?_).trans (N1 p hp).1, (N1 p hp).2⟩
  rcases List.mem_cons.mp hp with rfl | hp
  · exact hes
  · exact Nat.ne_of_lt (Heap.lt_size (N p (.tail _ hp)).1)
theorem store_fex {Q : Unit → Shared → Prop} {name : Str} {v : Value} {ts : Array Value} {slots : Array (Option Value)} (F : Fr h₀ L s.heap m) (X₀ : K.In h₀) (N : News h₀ L s.heap ((e, ⟨.ref C, none, .fields ts, slots⟩) :: r)) (hap : ∀ p ∈ r, p.1 ≠ e) (hm : fexIn K C fexTail = true)
    (hs : findIn K (.ref C) "__setattr__" = some (some (.builtin "object.__setattr__"))) (hna : findIn K (.ref C) name = some none) (hmo : mroIn K C (.type "object") = some true) (hh : hasDictIn K C = true)
    (h : ∀ d tk h', Fr h₀ L h' m → News h₀ L h' ((e, ⟨.ref C, some d, .fields ts, slots⟩) :: r) → Q () { s with heap := h', toks := tk }) :
    wpAny (model prog w) A (setAttr (.ref e) name v) Q E s :=
  set_plain (od := none) (X₀.keeps F.keep) ⟨(N _ (.head _)).1, rfl, rfl, trivial⟩ hs (osa_fex (s := { s with toks := s.toks + 1 }) F X₀ N hap hm hna hmo hh h)
end
theorem meta_Exception : typeOf (.type "Exception") = pure (.type "type") := by kernel_rfl
section
theorem fex_is (w : World) : fexIn (hd.heap_39 w.params) 44 fexTail = true := by kernel_rfl
theorem fex_con (w : World) (mean : ExcName → Option Value) (mg mb : Str → Option Value) (news : Led) (c : Str) (tc : Tok) :
    Con w mean mg mb 44 [.str c tc] news (fun news' r => ∃ e dd ts, r = .ref e ∧ Grown news news' ∧ (e, { cls := .ref 44, dict := dd, data := .fields ts }) ∈ news' ∧ ts[1]? = some .none ∧ ts[2]? = some .none ∧ ts.size = 6 ∧ ∀ q ∈ news, q.1 ≠ e) 10 100 := by
  unfold Con; k_fill
  intro dp un gd cn cs a ccd cl outer A₀ base h₀ L m s Q E B F X N T hk hd' hu hret
  refine' call_fex F X N (fex_is w) ?hc ?ht ?hi ?hf ?hrest ?_
  case hc => k_is
  case ht => k_is
  case hi => k_is
  case hf => k_is
  case hrest => size_fits
  intro e t h' F1 N1 l1 l2
  k_dflt cell_enter
  have sk9 : StopKey "setAttr ref" := ⟨trivial⟩
  k_steps
  refine Stop.mk ?_
  refine' method_type ?F ?X ?m (by decide +kernel) ?e ?h ?_
  case F => k_asm
  case X => k_asm
  case m => exact meta_Exception
  case e => k_dflt k_is
  case h => k_handed
  k_steps
  refine Stop.mk ?_
  refine' init_fex ?F ?X ?N ?hap (fex_is w) ?_ ?hr
  case N => k_asm
  case F => k_asm
  case X => k_asm
  case hr => size_fits
  case hap =>
    rintro p hp
    rcases List.mem_cons.mp hp with rfl | hp
    · exact Nat.ne_of_lt l2
    · exact Nat.ne_of_lt (Nat.lt_trans (l1 p hp) l2)
  intro t2 h9 F9 N9
  try dsimp only
  try k_fold
  k_steps
  refine Stop.mk ?_
  refine' store_fex ?F ?X ?N ?hap (fex_is w) ?hs ?hna ?hmo ?hh ?_
  case N => k_asm
  case F => k_asm
  case X => k_asm
  case hs => k_is
  case hna => k_is
  case hmo => k_is
  case hh => k_is
  case hap =>
    rintro p hp
    rcases List.mem_cons.mp hp with rfl | hp
    · exact Nat.ne_of_lt l2
    · exact Nat.ne_of_lt (Nat.lt_trans (l1 p hp) l2)
  intro d3 tk3 h3 F3 N3
  try dsimp only
  try k_fold
  k_steps
  apply hret
  · k_asm
  · k_asm
  · refine ⟨e, some d3, _, rfl, ⟨fun p hp => .tail _ (.tail _ hp), fun p hp => ?_⟩, .head _, rfl, rfl, rfl, fun q hq => Nat.ne_of_lt (Nat.lt_trans (l1 q hq) l2)⟩
    rcases List.mem_cons.mp hp with rfl | hp
    · exact .inr fun q hq => Nat.ne_of_lt (Nat.lt_trans (l1 q hq) l2)
    rcases List.mem_cons.mp hp with rfl | hp
    · exact .inr fun q hq => Nat.ne_of_lt (l1 q hq)
    · exact .inl hp
end

theorem flush51raise {prog : Program} {w : World} {A : Around} {E : Value → Shared → Prop} {s : Shared} {env : Env} {Q : Flow → Shared → Prop} (h : wpAny (model prog w) A (execs [] env) Q E s) : wpAny (model prog w) A (execs [] env) Q E s := by
  w_top off
  (try (walk1; fail))
  exact h
local macro_rules | `(tactic| cell_enter) => `(tactic| (refine' code_def ?k1 ?k2 ?k3 ?k4 ?k5 ?kA ?kF ?kK ?k6 ?k7 ?k8 ?k9 ?kB ?_ ?c2 ?c3 ?c4 ?c5; (case kA | kF => exact rfl); (case kK => first | exact rfl | assumption); (case k1 | k2 | k3 | k4 | k5 => k_asm); (case k6 | k7 => k_is); (case k8 => ktr_room); (case k9 => exact BindsTo.of_eq rfl); (case c5 => decide); (case kB => exact locs rfl); (case c2 | c3 | c4 => exact rfl); k_whole; intro g' L' h' FG' F' N' B' X' T'; (try dsimp only); (try k_lift B'); (try k_fold)))
/-- for x in a list of the ledger: any state that is told by a word over the ledger -/
theorem for_list {prog : Program} {w : World} {A : Around} {E : Value → Shared → Prop} {s : Shared} {h₀ : Heap} {env : Env} {L : Addr} {x : Str} {body : List Stmt} {Q : Flow → Shared → Prop} {l : Addr} {vs : List Value} {nn : Nat} {m₀ : Str → Option Value} {news : Led} (hL : env.locals = L) (J : Nat → (Str → Option Value) → Led → Prop)
    (hh : A.handled = none) (hl : (l, listOf vs.toArray nn) ∈ news) (F : Fr h₀ L s.heap m₀) (N : News h₀ L s.heap news) (hj : J 0 m₀ news)
    (turn : ∀ i v m₁ nx h tk I oI, vs[i]? = some v → (l, listOf vs.toArray nn) ∈ nx → J i m₁ nx → (∀ p ∈ nx, p.1 ≠ I) → Fr h₀ L h (fun y => if y = x then some v else m₁ y) → News h₀ L h ((I, oI) :: nx) →
      wpAny (model prog w) A (execs body env) (TurnPost h₀ L (fun m' nx' => (l, listOf vs.toArray nn) ∈ nx' ∧ J (i + 1) m' nx') I oI { s with heap := h, toks := tk } Q) E { s with heap := h, toks := tk })
    (done : ∀ m₁ nx h tk, (l, listOf vs.toArray nn) ∈ nx → J vs.length m₁ nx → Fr h₀ L h m₁ → News h₀ L h nx → Q .next { s with heap := h, toks := tk }) :
    wpAny (model prog w) A (pyIter (.ref l)) (fun it s₂ => LoopAtV prog w A h₀ env x body Q E it s₂) E s := by
  subst hL
  have hol : s.heap.get? l = some (listOf vs.toArray nn) := (N _ hl).1
  have hls : s.heap.IsList l vs.toArray := ⟨_, hol, rfl, nn, rfl⟩
  have hne : l ≠ s.heap.objs.size := Nat.ne_of_lt (Heap.lt_size hol)
  refine wpAny_pyIter_list hls ?_
  have W := Walks.list (prog := prog) (w := w) hh s.heap.objs.size l hne vs.toArray
  have hlen : vs.toArray.size = vs.length := by simp
  rw [hlen] at W
  refine for_walk (fun i m nx => (l, listOf vs.toArray nn) ∈ nx ∧ J i m nx) W ?_ (next_is_new F) (fun _ _ _ _ _ => trivial) (fun p hp e => absurd (Heap.lt_size (N p hp).1) (e ▸ Nat.lt_irrefl _))
    ⟨⟨_, Heap.get?_push_size _ rfl, rfl, rfl⟩, hls.at fun o e => Heap.get?_push_of_some _ e⟩ (fun i h st => ⟨_, st.1.choose_spec.1⟩) (F.push _)
    (fun p hp => ⟨Heap.get?_push_of_some _ (N p hp).1, (N p hp).2⟩) ⟨hl, hj⟩ (fun _ _ _ _ _ => trivial) ?_ ?_
  · intro hm
    rcases List.mem_cons.mp hm with e | hm
    · exact absurd F.ns.lt (e ▸ Nat.lt_irrefl _)
    · exact (N _ hl).2.1 ((List.mem_singleton.mp hm).symm)
  · rintro i v m₁ nx h tk oI hi hP ⟨hl₁, hJ⟩ hoff F' N'
    have hP' : vs[i]? = some v := by simpa using hP
    refine wpAny_mono (turn i v m₁ nx h tk _ oI hP' hl₁ hJ hoff F' N') (fun f s₂ p => ?_) fun _ _ e => e
    have fin : TurnEnd h₀ env.locals (fun m' nx' => (l, listOf vs.toArray nn) ∈ nx' ∧ J (i + 1) m' nx') s.heap.objs.size oI { s with heap := h, toks := tk } s₂ → TurnEnd h₀ env.locals (fun m' nx' => ((l, listOf vs.toArray nn) ∈ nx' ∧ J (i + 1) m' nx') ∧ ∀ b ∈ [s.heap.objs.size, l], b ≠ s.heap.objs.size → h₀.get? b = none → ∀ o, h.get? b = some o → (b, o) ∈ nx') s.heap.objs.size oI { s with heap := h, toks := tk } s₂ := by
      rintro ⟨h', tk', m', nx', e, F'', N'', hn, hJ'⟩
      refine ⟨h', tk', m', nx', e, F'', N'', hn, hJ', fun b hb hne _ o ho => ?_⟩
      rcases List.mem_cons.mp hb with e | hb
      · exact absurd e hne
      · obtain rfl := List.mem_singleton.mp hb
        have := (N' _ (.tail _ hl₁)).1
        rw [ho] at this
        cases this
        exact hJ'.1
    cases f with
    | ret v => exact p
    | brk => exact p
    | next => exact fin p
    | cont => exact fin p
  · exact fun m₁ nx h tk hJ => done m₁ nx h tk hJ.1 hJ.2
theorem FOK.na {fd : FD} {c0 : CD} {more : List CD} {wide high : Int} (ok : FOK fd c0 more wide high) : 1 ≤ c0.a * fd.n ∧ c0.a * fd.n ≤ 6 ∧ 1 ≤ c0.d * fd.n ∧ c0.d * fd.n ≤ 4 := by
  have h1 := ok.n1
  have h2 := ok.n2
  have h3 := ok.a1
  have h4 := ok.a3
  have h5 := ok.d1
  have h6 := ok.d2
  have e : fd.n = 1 ∨ fd.n = 2 := by omega
  rcases e with e | e <;> rw [e] <;> omega
theorem unit_con (w : World) (mean : ExcName → Option Value) (mg mb : Str → Option Value) (news : Led) (f : Addr) (fd : FD) (c0 : CD) (more : List CD) (wide high : Int) (hF : FrameIn w news f fd) (ok : FOK fd c0 more wide high) :
    Con w mean mg mb 180 [.ref f] news (fun news' r => ∃ t ta tb, r = .ref t ∧ news' = (t, tupOf [.int (c0.a * fd.n) ta, .int (c0.d * fd.n) tb]) :: news ∧ AllLt t news) 10 160 := by
  have hF' := hF
  refine hush fun GG9 out9 => ?_
  obtain ⟨d, cl, xs, t1, t2, t3, t4, t5, t6, v1, v2, v3, v4, v6, n, n0, hf, hfd, hcl, hC⟩ := hF'
  have ok' := ok
  obtain ⟨hcs, hfew, hone, ha1, ha3, hd1, hd2, hn1, hn2, hw1, hw3, hh1, hh3, hwd, hht, hht'⟩ := ok'
  have hna := ok.na
  refine out9 ?_
  clear out9 GG9
  unfold Con; k_fill
  intro dp un gd cn cs a ccd cl outer A₀ base h₀ L m s Q E B F X N T hk hd hu hret
  refine wpAny_call ?_
  k_dflt cell_enter
  k_steps
  all_goals (apply hret; k_asm; k_asm; exact ⟨_, _, _, rfl, rfl, by first | assumption | exact allLt_of (by assumption)⟩)

theorem CompsIn.snoc {w : World} {news : Led} {xs : List Addr} {cs : List CD} {x : Addr} {c : CD} (h : CompsIn w news xs cs) (h1 : CompIn w news x c) : CompsIn w news (xs ++ [x]) (cs ++ [c]) := by
  induction h with
  | nil => exact .cons h1 .nil
  | cons h2 h3 ih => exact .cons h2 ih
section
theorem copied_con (w : World) (mean : ExcName → Option Value) (mg mb : Str → Option Value) (news : Led) (f : Addr) (fd : FD) (c0 : CD) (more : List CD) (wide high : Int) (hF : FrameIn w news f fd) (ok : FOK fd c0 more wide high) :
    Con w mean mg mb 187 [.ref f] news (fun news' r => ∃ l xs n, r = .ref l ∧ Grown news news' ∧ (l, listOf (xs.map Value.ref).toArray n) ∈ newp news news' ∧ CompsIn w (newp news news') xs fd.comps) 20 200 := by
  have hF' := hF
  refine hush fun GG9 out9 => ?_
  obtain ⟨d, cl, xs, t1, t2, t3, t4, t5, t6, v1, v2, v3, v4, v6, n, n0, hf, hfd, hcl, hC⟩ := hF'
  have hlen3 : fd.comps.length ≤ 3 := ok.len3
  refine out9 ?_
  clear out9 GG9
  unfold Con; k_fill
  intro dp un gd cn cs a ccd cl outer A₀ base h₀ L m s Q E B F X N T hk hd hu hret
  refine wpAny_call ?_
  k_dflt cell_enter
  k_steps
  rename_i g L' h1 FG B' X' T' tk0 l h2 l1 h3 F1 N1
  refine Stop.mk ?_
  refine for_list rfl (fun i m nx => ∃ ys rest, nx = (l, listOf (ys.map Value.ref).toArray i) :: rest ∧ ys.length = i ∧ CompsIn w (newp news rest) ys (fd.comps.take i) ∧ Grown news rest ∧ (∀ p ∈ rest, p.1 ≠ l) ∧ m (Str.ofString "found") = some (.ref l)) rfl (.tail _ hcl) F1 N1
    ⟨[], news, rfl, rfl, .nil, .refl, ne_of_lt l1, rfl⟩ ?_ ?_
  · intro i v m₁ nx h tk I oI hv hcl' PP1 hoff F N
    refine hush fun GG9 out9 => ?_
    obtain ⟨ys, rest, rfl, hyl, hys, hG, hol, e1⟩ := PP1
    have hi : i < xs.length := by
      have := (List.getElem?_eq_some_iff.mp hv).1
      simpa using this
    obtain ⟨xi, hxi⟩ : ∃ xi, xs[i]? = some xi := ⟨_, List.getElem?_eq_getElem hi⟩
    have hvx : v = .ref xi := by
      rw [List.getElem?_map, hxi] at hv
      exact (Option.some.inj hv).symm
    subst hvx
    have hi' : i < fd.comps.length := by rw [← hC.length]; exact hi
    have hci : fd.comps[i]? = some (cAt fd i) := by simp [cAt, List.getD, hi']
    obtain ⟨xi', hxi', dx, p1, p2, p3, p4, p5, p6, p7, p8, m0, hx0, hdx⟩ := hC.get hci
    obtain rfl : xi = xi' := Option.some.inj (hxi.symm.trans hxi')
    have hx0 := hG.sub _ hx0
    have hdx := hG.sub _ hdx
    have F := Fr.over F [(Str.ofString "found", .ref l)] (by simp [e1])
    dsimp only [over] at F
    have F : Fr g L' h _ := F
    have N : News g L' h _ := N
    have hoff := off1_of hoff
    simp only [LCg.Off1] at hoff
    refine out9 ?_
    clear out9 GG9
    refine hushQ fun QQ9 outQ9 => ?_
    k_steps
    rename_i h6 tk6 x' d' od hod l1' l2 h9 F9 N9
    have hI' : I < x' := Nat.lt_trans l1'.1 l2
    have hl' : l < x' := Nat.lt_trans l1'.2.1 l2
    have hr1 : ∀ q ∈ rest, q.1 < d' := lt_allLt l1'.2.2
    have hr2 : ∀ q ∈ rest, q.1 < x' := fun q hq => Nat.lt_trans (hr1 q hq) l2
    have hnd : ∀ q ∈ news, q.1 ≠ d' := fun q hq => Nat.ne_of_lt (hr1 q (hG.sub q hq))
    have hnx : ∀ q ∈ news, q.1 ≠ x' := fun q hq => Nat.ne_of_lt (hr2 q (hG.sub q hq))
    refine hush fun GG9 out9 => ?_
    obtain ⟨a1, a2, a3, a4, b1, b2, b3, b4, hod⟩ := hod
    have N9 : News g L' h9 ((x', instObj 70 d') :: (d', od) :: (I, oI) :: (l, listOf ((ys.map Value.ref).toArray.push (.ref x')) (i + 1)) :: rest) := N9
    refine out9 ?_
    clear out9 GG9
    refine outQ9 _ _ ?_
    refine TurnEnd.intro (nx := (l, listOf ((ys ++ [x']).map Value.ref).toArray (i + 1)) :: (x', instObj 70 d') :: (d', od) :: rest) F9 N9 (.tail _ (.tail _ (.head _))) ?_ ?_ ⟨?_, ys ++ [x'], _, rfl, by simp [hyl], ?_, ?_, ?_, rfl⟩
    · refine fc ?_ ?_
      · simp
      refine fc ?_ ?_
      · exact .head _
      refine fc ?_ ?_
      · exact .tail _ (.head _)
      · intro p hp
        exact .tail _ (.tail _ (.tail _ (.tail _ hp)))
    · refine fc ?_ ?_
      · exact hoff.1
      refine fc ?_ ?_
      · exact Nat.ne_of_gt hI'
      refine fc ?_ ?_
      · exact Nat.ne_of_gt l1'.1
      · intro p hp
        exact of_off1 hoff.2 p hp
    · exact .tail _ (.tail _ (.tail _ (hG.sub _ hcl)))
    · rw [List.take_succ, hci]
      have hys' := hys.mono (newp_grow (a := news) (fun p hp => List.Mem.tail (x', instObj 70 d') (List.Mem.tail (d', od) hp)))
      exact hys'.snoc ⟨d', a1, a2, a3, a4, b1, b2, b3, b4, 4, mem_newp.mpr ⟨.head _, hnx⟩, hod ▸ mem_newp.mpr ⟨.tail _ (.head _), hnd⟩⟩
    · refine ⟨fun p hp => .tail _ (.tail _ (hG.sub p hp)), fun p hp => ?_⟩
      rcases List.mem_cons.mp hp with rfl | hp
      · exact .inr hnx
      rcases List.mem_cons.mp hp with rfl | hp
      · exact .inr hnd
      · exact hG.new p hp
    · refine fc ?_ ?_
      · exact Nat.ne_of_gt hl'
      refine fc ?_ ?_
      · exact Nat.ne_of_gt l1'.2.1
      · intro p hp
        exact hol p hp
  · intro m₁ nx h tk hcl' PP1 F N
    refine hush fun GG9 out9 => ?_
    obtain ⟨ys, rest, rfl, hyl, hys, hG, hol, e1⟩ := PP1
    have F := Fr.over0 F [(Str.ofString "found", .ref l)] (by simp [e1])
    dsimp only [over] at F
    have F : Fr g L' h _ := F
    have N : News g L' h _ := N
    refine out9 ?_
    clear out9 GG9
    k_steps
    apply hret
    · k_asm
    · k_asm
    · have hlen : (xs.map Value.ref).length = fd.comps.length := by rw [List.length_map]; exact hC.length
      rw [hlen] at hyl ⊢
      have hln : ∀ q ∈ news, q.1 ≠ l := ne_of_lt l1
      refine ⟨l, ys, _, rfl, ⟨fun p hp => .tail _ (hG.sub p hp), fun p hp => ?_⟩, mem_newp.mpr ⟨.head _, hln⟩, ?_⟩
      · rcases List.mem_cons.mp hp with rfl | hp
        · exact .inr hln
        · exact hG.new p hp
      · rw [hlen, List.take_length] at hys
        exact hys.mono (newp_grow (a := news) (fun p hp => List.Mem.tail _ hp))
end

theorem flush52unit {prog : Program} {w : World} {A : Around} {E : Value → Shared → Prop} {s : Shared} {env : Env} {Q : Flow → Shared → Prop} (h : wpAny (model prog w) A (execs [] env) Q E s) : wpAny (model prog w) A (execs [] env) Q E s := by
  w_top off
  (try (walk1; fail))
  exact h
/-- the smaller of two, as the walk writes it -/
abbrev mn (a b : Int) : Int := if b < a then b else a
theorem mn_eq (a b : Int) : mn a b = min a b := by unfold mn; split <;> omega
def cutF (fd : FD) (c0 : CD) (x y across down : Int) : FD :=
  { fd with height := mn (down * (c0.d * fd.n)) (fd.height - y * (c0.d * fd.n)), width := mn (across * (c0.a * fd.n)) (fd.width - x * (c0.a * fd.n)) }
theorem mm {a b S : Int} (hS : 0 ≤ S) : min (a * S) (b * S) = min a b * S := by
  rcases Int.le_total a b with h | h
  · rw [Int.min_eq_left h, Int.min_eq_left (Int.mul_le_mul_of_nonneg_right h hS)]
  · rw [Int.min_eq_right h, Int.min_eq_right (Int.mul_le_mul_of_nonneg_right h hS)]
theorem mlo {d h e S H M y : Int} (hM : min (d * S) (h * S - y * S) = M) (he : 0 ≤ e) (h1 : h * S - e ≤ H) (h2 : H ≤ h * S) : M - e ≤ min (d * S) (H - y * S) ∧ min (d * S) (H - y * S) ≤ M := by
  generalize d * S = D at *; generalize h * S = A at *; generalize y * S = Y at *; omega
theorem cut_ok {fd : FD} {c0 : CD} {more : List CD} {wide high x y across down : Int} (ok : FOK fd c0 more wide high) (hx0 : 0 ≤ x) (hx : x < wide) (hy0 : 0 ≤ y) (hy : y < high) (ha : 1 ≤ across) (hd : 1 ≤ down) :
    FOK (cutF fd c0 x y across down) c0 more (min across (wide - x)) (min down (high - y)) := by
  obtain ⟨hcs, hfew, hone, ha1, ha3, hd1, hd2, hn1, hn2, hw1, hw3, hh1, hh3, hwd, hht, hht'⟩ := ok
  have n0 : 0 ≤ fd.n := Int.le_trans (by decide) hn1
  have hS : 0 ≤ fd.n * c0.a := Int.mul_nonneg n0 (Int.le_trans (by decide) ha1)
  have hT : 0 ≤ fd.n * c0.d := Int.mul_nonneg n0 (Int.le_trans (by decide) hd1)
  have k1 : min (across * (c0.a * fd.n)) (fd.width - x * (c0.a * fd.n)) = min across (wide - x) * (fd.n * c0.a) := by
    rw [hwd, Int.mul_comm c0.a, ← Int.sub_mul, mm hS]
  have k2 : min down (high - y) * (fd.n * c0.d) - (fd.n - 1) ≤ min (down * (c0.d * fd.n)) (fd.height - y * (c0.d * fd.n)) ∧ min (down * (c0.d * fd.n)) (fd.height - y * (c0.d * fd.n)) ≤ min down (high - y) * (fd.n * c0.d) := by
    rw [Int.mul_comm c0.d]
    exact mlo (by rw [← Int.sub_mul, mm hT]) (Int.sub_nonneg_of_le hn1) hht hht'
  exact ⟨hcs, hfew, hone, ha1, ha3, hd1, hd2, hn1, hn2, by omega, by omega, by omega, by omega, (mn_eq _ _).trans k1, Int.le_trans k2.1 (Int.le_of_eq (mn_eq _ _).symm), Int.le_trans (Int.le_of_eq (mn_eq _ _)) k2.2⟩
section
theorem cropf_con (w : World) (mean : ExcName → Option Value) (mg mb : Str → Option Value) (news : Led) (f : Addr) (fd : FD) (c0 : CD) (more : List CD) (wide high : Int) (hF : FrameIn w news f fd) (ok : FOK fd c0 more wide high)
    (x y across down : Int) (tx ty ta td : Tok) (hx0 : 0 ≤ x) (hx : x < wide) (hy0 : 0 ≤ y) (hy : y < high) (ha : 1 ≤ across) (ha2 : across ≤ 2) (hdn : 1 ≤ down) (hdn2 : down ≤ 2) :
    Con w mean mg mb 194 [.ref f, .int x tx, .int y ty, .int across ta, .int down td] news (fun news' r => ∃ nf, r = .ref nf ∧ Grown news news' ∧ FrameIn w (newp news news') nf (cutF fd c0 x y across down)) 30 300 := by
  have hF' := hF
  refine hush fun GG9 out9 => ?_
  obtain ⟨d, cl, xs, t1, t2, t3, t4, t5, t6, v1, v2, v3, v4, v6, n, n0, hf, hfd, hcl, hC⟩ := hF'
  have hna := ok.na
  have ok' := ok
  obtain ⟨hcs, hfew, hone, ha1, ha3, hd1, hd2, hn1, hn2, hw1, hw3, hh1, hh3, hwd, hht, hht'⟩ := ok'
  refine out9 ?_
  clear out9 GG9
  unfold Con; k_fill
  intro dp un gd cn cs a ccd cl' outer A₀ base h₀ L m s Q E B F X N T hk hd hu hret
  refine wpAny_call ?_
  k_dflt cell_enter
  k_steps
  refine Stop.mk ?_
  k_dflt (refine' Con.use (copied_con _ _ _ _ _ _ _ _ _ _ _ ?hF ?ok) ?B ?F ?X ?N ?T ?hk ?hd ?hu ?_)
  walk_at "u"
  case hF => walk_at "h"
  case ok => assumption
  walk_at "v"
  intro _ n9 h9 tk9 F9 N9 PP1
  refine hush fun GG9 out9 => ?_
  obtain ⟨l9, xs9, c9, rfl, G9, m9, C9⟩ := PP1
  refine out9 ?_
  clear out9 GG9
  try dsimp only
  try k_sweep
  try k_fold
  have hf := G9.sub _ (.tail _ hf)
  have hfd := G9.sub _ (.tail _ hfd)
  rename AllLt _ news => l0
  k_steps
  rename AllLt _ n9 => l1'
  have l1 := lt_allLt l1'
  rename IsFrame _ _ _ _ _ _ => hod
  refine hush fun GG9 out9 => ?_
  obtain ⟨z1, z2, z3, z4, z5, z6, y1, y2, y3, y4, y6, rfl⟩ := hod
  rename (_ : Addr) < (_ : Addr) => l2
  have G0 := (Grown.cons (o := tupOf _) (ne_of_allLt l0)).trans G9
  have hd1 : ∀ q ∈ news, q.1 ≠ _ := fun q hq => Nat.ne_of_lt (l1 q (G0.sub q hq))
  have hx1 : ∀ q ∈ news, q.1 ≠ _ := fun q hq => Nat.ne_of_lt (Nat.lt_trans (l1 q (G0.sub q hq)) l2)
  refine out9 ?_
  clear out9 GG9
  apply hret
  · k_asm
  · k_asm
  · refine ⟨_, rfl, ⟨fun p hp => .tail _ (.tail _ (G0.sub p hp)), fun p hp => ?_⟩, ⟨_, _, _, _, _, _, _, _, _, _, _, _, _, _, _, _, mem_newp.mpr ⟨.head _, hx1⟩, mem_newp.mpr ⟨.tail _ (.head _), hd1⟩, newp_grow (fun p hp => .tail _ (.tail _ hp)) _ (newp_back (fun p hp => .tail _ hp) _ m9), C9.mono fun p hp => newp_grow (fun p hp => .tail _ (.tail _ hp)) _ (newp_back (fun p hp => .tail _ hp) _ hp)⟩⟩
    rcases List.mem_cons.mp hp with rfl | hp
    · exact .inr hx1
    rcases List.mem_cons.mp hp with rfl | hp
    · exact .inr hd1
    · exact G0.new p hp
end

theorem flush53cropf {prog : Program} {w : World} {A : Around} {E : Value → Shared → Prop} {s : Shared} {env : Env} {Q : Flow → Shared → Prop} (h : wpAny (model prog w) A (execs [] env) Q E s) : wpAny (model prog w) A (execs [] env) Q E s := by
  w_top off
  (try (walk1; fail))
  exact h
/-- where the exception's object stands: its class, no context, a traceback T apart -/
def Trc (h base : Heap) (e : Addr) (cls fl : Value) : Prop :=
  ∃ oe vs T oT ts, h.get? e = some oe ∧ oe.cls = cls ∧ oe.data = .fields vs ∧ vs[2]? = some .none ∧ vs[1]? = some (.ref T) ∧ base.get? T = none ∧ T ≠ e ∧ h.get? T = some oT ∧ oT.data = .fields ts ∧ ts[3]? = some fl
def Fly (base : Heap) (l : List Env) (e : Addr) (cls fl : Value) (h : Heap) : Prop := base.StaysIn h ∧ base.get? e = none ∧ h.FunFrames base l ∧ Trc h base e cls fl
theorem Fly.there {base h : Heap} {l : List Env} {e : Addr} {cls fl : Value} (x : Fly base l e cls fl h) : ∃ oe vs, h.get? e = some oe ∧ oe.cls = cls ∧ oe.data = .fields vs ∧ vs[2]? = some .none := by
  obtain ⟨_, _, _, oe, vs, _, _, _, h1, h2, h3, h4, _⟩ := x
  exact ⟨oe, vs, h1, h2, h3, h4⟩
/-- a record's field set: what it leaves as it was -/
theorem set_other {h : Heap} {a b : Addr} {i : Nat} {x : Value} (hb : b ≠ a) : (h.update a (Obj.mapFields (·.setIfInBounds i x))).get? b = h.get? b := Heap.get?_update_other _ _ (Ne.symm hb)
theorem no_record {h : Heap} {a b : Addr} {oa o : Obj} {vs : Array Value} (ha : h.get? a = some oa) (hd : oa.data = .fields vs) (hb : h.get? b = some o) (hn : ∀ ws, o.data ≠ .fields ws) : b ≠ a := fun q => by
  subst q
  rw [ha] at hb
  cases hb
  exact hn vs hd
section
variable {M : Model} {A : Around} {E : Value → Shared → Prop} {s : Shared} {base : Heap} {l : List Env} {env : Env} {outer : List Env} {L e : Addr} {cls fl : Value} {Q : Unit → Shared → Prop}
theorem fly_set {h : Heap} {T : Addr} {oT oe : Obj} {vs ts : Array Value} {x : Value} (f1 : base.StaysIn h) (f2 : base.get? e = none) (f3 : h.FunFrames base l) (he : h.get? e = some oe) (hc : oe.cls = cls) (hd : oe.data = .fields vs) (h2 : vs[2]? = some .none)
    (h1 : vs[1]? = some (.ref T)) (hT0 : base.get? T = none) (hTe : T ≠ e) (hT : h.get? T = some oT) (hdT : oT.data = .fields ts) (h3 : 3 < ts.size) :
    Fly base l e cls x (h.update T (Obj.mapFields (·.setIfInBounds 3 x))) ∧ h.UpToSlots (h.update T (Obj.mapFields (·.setIfInBounds 3 x))) := by
  have hdd := Obj.data_mapFields hdT (·.setIfInBounds 3 x)
  refine ⟨⟨fun b o hb => (set_other fun q => by rw [q, hT0] at hb; cases hb).trans (f1 b o hb), f2, f3.of_keeps fun b o hb hn => ⟨o, (set_other (no_record hT hdT hb hn)).trans hb, rfl⟩,
    oe, vs, T, _, _, (set_other (Ne.symm hTe)).trans he, hc, hd, h2, h1, hT0, hTe, Heap.get?_update_self _ hT (Obj.isFreed_of_fields hdd), hdd, by simp [h3]⟩, fun b o hb hn => ⟨o.slots, (set_other (no_record hT hdT hb hn)).trans hb⟩⟩
theorem setFlight_fly (hF : Fly base l e cls fl s.heap) (hQ : ∀ h', Fly base l e cls .none h' → s.heap.UpToSlots h' → Q () { s with heap := h' }) : wpAny M A (setFlight (.ref e) none) Q E s := by
  obtain ⟨f1, f2, f3, oe, vs, T, oT, ts, he, hc, hd, h2, h1, hT0, hTe, hT, hdT, h3⟩ := hF
  have hz := (Array.getElem?_eq_some_iff.mp h3).1
  unfold setFlight
  refine wpAny_bind (wpAny_field he hd h1 ?_)
  rw [if_pos (show (Value.ref T != Value.none) = true from by simp)]
  obtain ⟨k1, k2⟩ := fly_set (x := Value.none) f1 f2 f3 he hc hd h2 h1 hT0 hTe hT hdT hz
  exact wpAny_setField hT hdT hz (hQ _ k1 k2)
theorem entry_fly {oe : Obj} {vs : Array Value} {head : Value} {hadNext : Bool} (hfr : A.frames = some (env :: outer)) (hf : env.frame = some L) (f1 : base.StaysIn s.heap) (f2 : base.get? e = none) (f3 : s.heap.FunFrames base (env :: outer))
    (he : s.heap.get? e = some oe) (hd : oe.data = .fields vs) (hz : 1 < vs.size) (h2 : vs[2]? = some .none)
    (hQ : ∀ h', Fly base (env :: outer) e oe.cls (rawInt L) h' → s.heap.UpToSlots h' → Q () { s with heap := h' }) :
    wpAny M A (do let a ← frameOf env; let pl ← entryPlaceOf L hadNext; let b ← EntryCells.newEntry head a .none (rawInt L) .none pl; setField (.ref e) 1 b) Q E s := by
  have hee : e ∉ (env :: outer).filterMap (·.frame) := fun hm => by
    obtain ⟨_, o, ho, hn⟩ := f3.mem hm
    rw [he] at ho; cases ho; exact hn vs hd
  refine wpAny_bind (wpAny_frameOf_fun hfr f3 hf fun g hs => ?_)
  refine wpAny_bind (wpAny_entryPlaceOf fun pl hpl => ?_)
  unfold EntryCells.newEntry newFields
  refine wpAny_bind (wpAny_newObj_type ?_ (hpl.sizeOk5 _ _ _ _ _))
  have heg : g.get? e = some oe := (hs.2.1 e hee).trans he
  have fg : base.StaysIn g := fun b o hb => (hs.2.1 b fun hm => by rw [(f3.mem hm).1] at hb; cases hb).trans (f1 b o hb)
  have he' := Heap.get?_push_of_some (h := g) { cls := .type "traceback", dict := none, data := .fields ([head, .ref L, .none, rawInt L, .none] ++ (if pl.isEmpty then List.replicate 6 Value.none else pl)).toArray } heg
  refine wpAny_setField he' hd hz ?_
  have hdd := Obj.data_mapFields hd (·.setIfInBounds 1 (Value.ref g.objs.size))
  have hTe : g.objs.size ≠ e := Nat.ne_of_gt (Heap.lt_size heg)
  have keep : ∀ b o, b ≠ e → g.get? b = some o → _ := fun b o hb hg => (set_other (i := 1) (x := Value.ref g.objs.size) hb).trans (Heap.get?_push_of_some { cls := .type "traceback", dict := none, data := .fields ([head, .ref L, .none, rawInt L, .none] ++ (if pl.isEmpty then List.replicate 6 Value.none else pl)).toArray } hg)
  refine hQ _ ⟨fun b o hb => keep b o (fun q => by rw [q, f2] at hb; cases hb) (fg b o hb), f2, f3.of_keeps fun b o hb hn => ?_, ?_⟩ fun b o hb hn => ?_
  · obtain ⟨sl, hsl⟩ := hs.2.2 b o hb
    exact ⟨_, keep b _ (no_record he hd hb hn) hsl, rfl⟩
  · refine ⟨_, _, g.objs.size, _, _, Heap.get?_update_self _ he' (Obj.isFreed_of_fields hdd), Obj.cls_mapFields _ _, hdd, ?_, by simp [hz], fg.fresh, hTe, (set_other hTe).trans (Heap.get?_push_size g rfl), rfl, ?_⟩
    · rw [Array.getElem?_setIfInBounds_ne (by decide)]; exact h2
    · first | (simp; done) | (rcases hpl with rfl | ⟨_, _, _, _, _, _, _, rfl⟩ <;> simp)
  · obtain ⟨sl, hsl⟩ := hs.2.2 b o hb
    exact ⟨sl, keep b _ (no_record he hd hb hn) hsl⟩
/-- a first look at the frame -/
theorem note_first {oe : Obj} {vs : Array Value} (hfr : A.frames = some (env :: outer)) (hf : env.frame = some L) (f1 : base.StaysIn s.heap) (f2 : base.get? e = none) (f3 : s.heap.FunFrames base (env :: outer))
    (he : s.heap.get? e = some oe) (hd : oe.data = .fields vs) (h1 : vs[1]? = some .none) (h2 : vs[2]? = some .none)
    (hQ : ∀ h', Fly base (env :: outer) e oe.cls (rawInt L) h' → s.heap.UpToSlots h' → Q () { s with heap := h' }) : wpAny M A (noteFrame (.ref e) env) Q E s := by
  unfold noteFrame
  simp only [hf]
  refine wpAny_bind (wpAny_field he hd h1 ?_)
  rw [if_neg (by decide)]
  exact entry_fly hfr hf f1 f2 f3 he hd (Array.getElem?_eq_some_iff.mp h1).1 h2 hQ
theorem note_next (hfr : A.frames = some (env :: outer)) (hf : env.frame = some L) (hF : Fly base (env :: outer) e cls .none s.heap)
    (hQ : ∀ h', Fly base (env :: outer) e cls (rawInt L) h' → s.heap.UpToSlots h' → Q () { s with heap := h' }) : wpAny M A (noteFrame (.ref e) env) Q E s := by
  obtain ⟨f1, f2, f3, oe, vs, T, oT, ts, he, hc, hd, h2, h1, hT0, hTe, hT, hdT, h3⟩ := hF
  have hz := (Array.getElem?_eq_some_iff.mp h3).1
  unfold noteFrame
  simp only [hf]
  refine wpAny_bind (wpAny_field he hd h1 ?_)
  rw [if_pos (show (Value.ref T != Value.none) = true from by simp)]
  refine wpAny_bind (wpAny_field hT hdT h3 ?_)
  rw [if_neg (show ¬ ((Value.none == rawInt L) = true) from by simp [rawInt])]
  refine wpAny_bind (wpAny_setField hT hdT hz ?_)
  obtain ⟨⟨k1, k2, k3, _⟩, k5⟩ := fly_set (x := Value.none) f1 f2 f3 he hc hd h2 h1 hT0 hTe hT hdT hz
  subst hc
  exact entry_fly hfr hf k1 k2 k3 ((set_other (Ne.symm hTe)).trans he) hd (Array.getElem?_eq_some_iff.mp h1).1 h2 fun h' z1 z2 => hQ h' z1 (k5.trans z2)
theorem leave_first {oe : Obj} {vs : Array Value} (hfr : A.frames = some (env :: outer)) (hf : env.frame = some L) (f1 : base.StaysIn s.heap) (f2 : base.get? e = none) (f3 : s.heap.FunFrames base (env :: outer))
    (he : s.heap.get? e = some oe) (hd : oe.data = .fields vs) (h1 : vs[1]? = some .none) (h2 : vs[2]? = some .none)
    (hQ : ∀ h', Fly base outer e oe.cls .none h' → s.heap.UpToSlots h' → Q () { s with heap := h' }) : wpAny M A (leaving env (.ref e)) Q E s := by
  unfold leaving
  refine wpAny_bind (note_first hfr hf f1 f2 f3 he hd h1 h2 fun g z1 z2 => setFlight_fly z1 fun h' k1 k2 => ?_)
  obtain ⟨a1, a2, ⟨_, _, a3⟩, a4⟩ := k1
  exact hQ h' ⟨a1, a2, a3, a4⟩ (z2.trans k2)
theorem leave_next (hfr : A.frames = some (env :: outer)) (hf : env.frame = some L) (hF : Fly base (env :: outer) e cls .none s.heap)
    (hQ : ∀ h', Fly base outer e cls .none h' → s.heap.UpToSlots h' → Q () { s with heap := h' }) : wpAny M A (leaving env (.ref e)) Q E s := by
  unfold leaving
  refine wpAny_bind (note_next hfr hf hF fun g z1 z2 => setFlight_fly z1 fun h' k1 k2 => ?_)
  obtain ⟨a1, a2, ⟨_, _, a3⟩, a4⟩ := k1
  exact hQ h' ⟨a1, a2, a3, a4⟩ (z2.trans k2)
end
def RaisedX (base : Heap) (l : List Env) (e : Addr) (cls : Value) (news : Led) (h : Heap) : Prop :=
  ∃ B, base.StaysIn B ∧ (∀ q ∈ news, B.get? q.1 = some q.2 ∧ base.get? q.1 = none) ∧ base.get? e = none ∧ Fly B l e cls .none h
section
variable {M : Model} {A : Around} {E : Value → Shared → Prop} {s' : Shared} {base g g₂ : Heap} {outer : List Env} {L a e : Addr} {m : Str → Option Value} {name : Str} {scope : Scope} {cd : Value} {Q : Unit → Shared → Prop} {news news' : Led}
theorem leave_fex {ob : Obj} {ts : Array Value} (K : Below A base outer g) (F : Fr g L s'.heap m) (N : News g L s'.heap news') (he : (e, ob) ∈ news') (hd : ob.data = .fields ts) (h1 : ts[1]? = some .none) (h2 : ts[2]? = some .none)
    (hs : ∀ p ∈ news, p ∈ news') (hoff : ∀ p ∈ news, p.1 ≠ e)
    (hQ : ∀ h', RaisedX base outer e ob.cls news h' → g.UpToSlots h' → Q () { s' with heap := h' }) (hk : scope.kind = .function := by rfl) :
    wpAny M (A.deeper (envOf name scope L a cd)) (leaving (envOf name scope L a cd) (.ref e)) Q E s' := by
  have K' := K.push (name := name) (a := a) (cd := cd) F hk
  have hin : ∀ env ∈ (envOf name scope L a cd :: outer), ∀ b, env.frame = some b → b ∈ e :: (envOf name scope L a cd :: outer).filterMap (·.frame) := fun env he b hb => .tail _ (List.mem_filterMap.mpr ⟨env, he, hb⟩)
  have hbe : base.get? e = none := fresh_of_stays K.stays (N _ he).2.2
  have st : base.StaysIn (hideAll s'.heap (e :: (envOf name scope L a cd :: outer).filterMap (·.frame))) := fun b o q => hideAll_get _ (K'.stays b o q) fun hm => by
    rcases List.mem_cons.mp hm with rfl | hm
    · rw [hbe] at q; cases q
    · rw [(K'.frames.mem hm).1] at q; cases q
  have hl : ∀ q ∈ news, (hideAll s'.heap (e :: (envOf name scope L a cd :: outer).filterMap (·.frame))).get? q.1 = some q.2 ∧ base.get? q.1 = none := fun q hq => by
    have N' := N q (hs q hq)
    refine ⟨hideAll_get _ N'.1 fun hm => ?_, fresh_of_stays K.stays N'.2.2⟩
    rcases List.mem_cons.mp hm with z | hm
    · exact hoff q hq z
    obtain ⟨env, he, hf⟩ := List.mem_filterMap.mp hm
    rcases List.mem_cons.mp he with rfl | he
    · exact N'.2.1 (Option.some.inj hf).symm
    · obtain ⟨o, ho, _⟩ := (K.frames.mem (List.mem_filterMap.mpr ⟨env, he, hf⟩)).2
      rw [N'.2.2] at ho; cases ho
  have hen : (hideAll s'.heap (e :: (envOf name scope L a cd :: outer).filterMap (·.frame))).get? e = none := hideAll_none _ (.head _)
  refine leave_first K'.stack rfl (fun b o hb => of_hideAll _ hb) hen (funFrames_hide K'.frames hin) (N _ he).1 hd h1 h2 fun h' z1 z2 => ?_
  exact hQ h' ⟨_, st, hl, hbe, z1⟩ ((Heap.UpToSlots.of_keeps F.keep).trans z2)
theorem leave_onX {cls : Value} (K : Below A base outer g) (F : Fr g L g₂ m) (R : RaisedX base (envOf name scope L a cd :: outer) e cls news s'.heap) (hsm : g₂.UpToSlots s'.heap)
    (hQ : ∀ h', RaisedX base outer e cls news h' → g.UpToSlots h' → Q () { s' with heap := h' }) :
    wpAny M (A.deeper (envOf name scope L a cd)) (leaving (envOf name scope L a cd) (.ref e)) Q E s' := by
  obtain ⟨B, hB, hl, hbe, hfl⟩ := R
  exact leave_next (Around.frames_deeper K.stack) rfl hfl fun h' x1 x2 => hQ h' ⟨B, hB, hl, hbe, x1⟩ ((Heap.UpToSlots.of_keeps F.keep).trans (hsm.trans x2))
theorem RaisedX.sub {base : Heap} {l : List Env} {e : Addr} {cls : Value} {news news' : Led} {h : Heap} (R : RaisedX base l e cls news' h) (hs : ∀ p ∈ news, p ∈ news') : RaisedX base l e cls news h := by
  obtain ⟨B, h1, h2, h3, h4⟩ := R
  exact ⟨B, h1, fun q hq => h2 q (hs q hq), h3, h4⟩
end

theorem flush53flyx {prog : Program} {w : World} {A : Around} {E : Value → Shared → Prop} {s : Shared} {env : Env} {Q : Flow → Shared → Prop} (h : wpAny (model prog w) A (execs [] env) Q E s) : wpAny (model prog w) A (execs [] env) Q E s := by
  w_top off
  (try (walk1; fail))
  exact h
/-- a call that raises FrameError -/
abbrev ConX (w : World) (mean : ExcName → Option Value) (mg mb : Str → Option Value) (f : Addr) (vs : List Value) (news : Led) (dn un : Nat) : Prop :=
  ∀ (dp un' : Nat) (gd : Option (List Code)) (cn : Str) (cs : Scope) (a : Addr) (ccd : Value) (cl : List (Str × Addr)) (outer : List Env) (A₀ : Around) (base h₀ : Heap) (L : Addr) (m : Str → Option Value) (s : Shared) (Q E : Value → Shared → Prop),
    Below A₀ base outer h₀ → Fr h₀ L s.heap m → (hd.heap_39 w.params).In h₀ → News h₀ L s.heap news → Top hd.view_39 (looseW hd.view_39 []) mean mg mb h₀ → cs.kind = .function →
    dp + dn < recursionLimit → un' + un < cLine →
    (∀ e g h' tk', Fr h₀ L g m → g.UpToSlots h' → RaisedX base (envX cn cs L a ccd cl :: outer) e (.ref 44) news h' → E (.ref e) { s with heap := h', toks := tk' }) →
    wpAny (model PySem.Challenge.rw_pf0232_01.row.prog w) (ktrTop dp un' gd cn cs L a ccd cl outer) (call (.ref f) vs) Q E s
theorem ConX.use {w : World} {mean : ExcName → Option Value} {mg mb : Str → Option Value} {f : Addr} {vs : List Value} {news : Led} {dn un : Nat} (C : ConX w mean mg mb f vs news dn un)
    {dp un' : Nat} {gd : Option (List Code)} {cn : Str} {cs : Scope} {a : Addr} {ccd : Value} {cl : List (Str × Addr)} {outer : List Env} {A₀ : Around} {base h₀ : Heap} {L : Addr} {m : Str → Option Value} {s : Shared} {Q E : Value → Shared → Prop}
    (B : Below A₀ base outer h₀) (F : Fr h₀ L s.heap m) (X : (hd.heap_39 w.params).In h₀) (N : News h₀ L s.heap news) (T : Top hd.view_39 (looseW hd.view_39 []) mean mg mb h₀) (hk : cs.kind = .function)
    (hd : dp + dn < recursionLimit) (hu : un' + un < cLine)
    (ret : ∀ e g h' tk', Fr h₀ L g m → g.UpToSlots h' → RaisedX base (envX cn cs L a ccd cl :: outer) e (.ref 44) news h' → E (.ref e) { s with heap := h', toks := tk' }) :
    wpAny (model PySem.Challenge.rw_pf0232_01.row.prog w) (ktrTop dp un' gd cn cs L a ccd cl outer) (call (.ref f) vs) Q E s := C _ _ _ _ _ _ _ _ _ _ _ _ _ _ _ _ _ B F X N T hk hd hu ret
inductive Via (g : Heap) (L : Addr) (m : Str → Option Value) (news : Led) (s : Shared) : Bool → Shared → Prop
  | mk (h' : Heap) (tk' : Tok) : Fr g L h' m → News g L h' news → Via g L m news s true { s with heap := h', toks := tk' }
theorem If_via {M : Model} {A : Around} {env : Env} {test : PySem.Expr} {body orelse : List Stmt} {pos : Pos} {Q : Flow → Shared → Prop} {E : Value → Shared → Prop} {s : Shared} {g : Heap} {L : Addr} {m : Str → Option Value} {news : Led}
    (_F : Fr g L s.heap m) (_N : News g L s.heap news)
    (ht : wpAny M A (isTrue test env (eval test env)) (Via g L m news s) E s)
    (hb : ∀ h' tk', Fr g L h' m → News g L h' news → wpAny M A (execs body env) Q E { s with heap := h', toks := tk' }) :
    wpAny M A (exec (.If test body orelse pos) env) Q E s := by
  refine wpAny_If (wpAny_mono ht ?_ fun _ _ h => h)
  rintro b s₂ ⟨h', tk', F', N'⟩
  exact hb h' tk' F' N'
section
theorem cropx_con (w : World) (mean : ExcName → Option Value) (mg mb : Str → Option Value) (news : Led) (f : Addr) (fd : FD) (c0 : CD) (more : List CD) (wide high : Int) (hF : FrameIn w news f fd) (ok : FOK fd c0 more wide high)
    (x y across down : Int) (tx ty ta td : Tok) (hx0 : 0 ≤ x) (hy0 : 0 ≤ y) (hbad : wide ≤ x ∨ (x < wide ∧ high ≤ y) ∨ (x < wide ∧ y < high ∧ across < 1) ∨ (x < wide ∧ y < high ∧ 1 ≤ across ∧ down < 1)) :
    ConX w mean mg mb 194 [.ref f, .int x tx, .int y ty, .int across ta, .int down td] news 30 300 := by
  have hF' := hF
  refine hush fun GG9 out9 => ?_
  obtain ⟨d, cl, xs, t1, t2, t3, t4, t5, t6, v1, v2, v3, v4, v6, n, n0, hf, hfd, hcl, hC⟩ := hF'
  have hna := ok.na
  have ok' := ok
  obtain ⟨hcs, hfew, hone, ha1, ha3, hd1, hd2, hn1, hn2, hw1, hw3, hh1, hh3, hwd, hht, hht'⟩ := ok'
  refine out9 ?_
  clear out9 GG9
  unfold ConX; k_fill
  intro dp un gd cn cs a ccd cl' outer A₀ base h₀ L m s Q E B F X N T hk hd hu hret
  refine wpAny_call ?_
  k_dflt cell_enter
  have sl9 : StopLine 80 := ⟨trivial⟩
  k_steps
  clear sl9
  refine Stop.mk ?_
  refine wpAny_execs_cons ?_
  rename Fr _ _ _ _ => F5
  rename News _ _ _ _ => N5
  refine If_via F5 N5 ?_ ?_
  · rcases hbad with hb1 | ⟨hb1, hb2⟩ | ⟨hb1, hb2, hb3⟩ | ⟨hb1, hb2, hb3, hb4⟩
    all_goals
      k_steps
      exact .mk _ _ (by k_asm) (by k_asm)
  clear F5 N5 hbad
  intro h5 tk5 F5 N5
  k_steps
  refine Stop.mk ?_
  refine' raise_own (C := 44) (bm := fexTail) ?hb ?hh ?_
  case hb => simp
  case hh => rfl
  k_steps
  refine Stop.mk ?_
  k_dflt (refine' Con.use (fex_con _ _ _ _ _ _ _) ?B ?F ?X ?N ?T ?hk ?hd ?hu ?_)
  walk_at "u"
  walk_at "v"
  intro r9 n9 h9 tk9 F9 N9 P9
  try dsimp only
  try k_fold
  refine hush fun GG9 out9 => ?_
  obtain ⟨e, dd, ts, rfl, G9, hm, h1, h2, hsz, hoff⟩ := P9
  rename Fr h₀ L _ m => FG
  rename Below _ base (_ :: outer) _ => BB
  rename (Mine.hd.heap_39 w.params).In _ => XX
  refine out9 ?_
  clear out9 GG9
  refine ⟨e, _, ts, rfl, fex_of (XX.keeps F9.keep) (fex_is w), (N9 _ hm).1, rfl, rfl, h1, ?_⟩
  exact leave_fex (news := news) BB F9 N9 hm rfl h1 h2 (fun p hp => G9.sub _ (.tail _ hp)) (fun p hp => hoff p (.tail _ hp)) (fun h' R U => hret e _ h' tk9 FG U R)
end

theorem flush54cropx {prog : Program} {w : World} {A : Around} {E : Value → Shared → Prop} {s : Shared} {env : Env} {Q : Flow → Shared → Prop} (h : wpAny (model prog w) A (execs [] env) Q E s) : wpAny (model prog w) A (execs [] env) Q E s := by
  w_top off
  (try (walk1; fail))
  exact h
section
theorem cropgx_con (w : World) (mean : ExcName → Option Value) (mg mb : Str → Option Value) (news : Led) (gr f : Addr) (fd : FD) (c0 : CD) (more : List CD) (wide high : Int) (hF : FrameIn w news f fd) (ok : FOK fd c0 more wide high)
    (x y across down : Int) (tx ty ta td : Tok) (hx0 : 0 ≤ x) (hy0 : 0 ≤ y) (hbad : wide ≤ x ∨ (x < wide ∧ high ≤ y) ∨ (x < wide ∧ y < high ∧ across < 1) ∨ (x < wide ∧ y < high ∧ 1 ≤ across ∧ down < 1)) :
    ConX w mean mg mb 201 [.ref gr, .ref f, .int x tx, .int y ty, .int across ta, .int down td] news 50 500 := by
  unfold ConX; k_fill
  intro dp un gd cn cs a ccd cl' outer A₀ base h₀ L m s Q E B F X N T hk hd hu hret
  refine wpAny_call ?_
  k_dflt cell_enter
  have sk9 : StopKey "leaving ref" := ⟨trivial⟩
  k_steps
  refine Stop.mk ?_
  k_dflt (refine' ConX.use (cropx_con _ _ _ _ _ _ _ _ _ _ _ ?hF ?ok _ _ _ _ _ _ _ _ ?hx0 ?hy0 ?hbad) ?B ?F ?X ?N ?T ?hk ?hd ?hu ?_)
  walk_at "u"
  case hF | ok | hx0 | hy0 | hbad => assumption
  walk_at "v"
  intro e9 g9 h9 tk9 F9 U9 R9
  try dsimp only at F9 U9 R9 ⊢
  k_steps
  refine Stop.mk ?_
  refine' leave_onX ?k1 ?k2 ?k3 ?k4 ?_
  case k3 => assumption
  case k1 | k4 | k2 => assumption
  k_whole
  intro h' R' U'
  try dsimp only at R' U' ⊢
  k_steps
  rename Heap => hh
  rename Fr h₀ L _ m => FG
  rename RaisedX base _ _ _ _ _ => R
  rename Heap.UpToSlots _ _ => U
  exact hret _ _ _ _ FG U R
end

theorem flush55cropgx {prog : Program} {w : World} {A : Around} {E : Value → Shared → Prop} {s : Shared} {env : Env} {Q : Flow → Shared → Prop} (h : wpAny (model prog w) A (execs [] env) Q E s) : wpAny (model prog w) A (execs [] env) Q E s := by
  w_top off
  (try (walk1; fail))
  exact h
theorem Upd.mem {u : Addr} {o o' : Obj} {l l' : Led} (U : Upd u o o' l l') : (u, o) ∈ l := by
  obtain ⟨pre, post, rfl, rfl, _, _⟩ := U.split
  exact List.mem_append_right _ (.head _)
theorem Upd.repl {u : Addr} {o o' : Obj} {l l' : Led} (U : Upd u o o' l l') : Mine.repl u o' l = l' := by
  obtain ⟨pre, post, rfl, rfl, a, b⟩ := U.split
  have e1 := repl_off (o := o') a
  have e2 := repl_off (o := o') b
  unfold Mine.repl at *
  rw [List.map_append, List.map_cons, e1, e2]
  simp
/-- a draw, the urn anywhere in the ledger, which is written out -/
theorem from_upd (w : World) (mean : ExcName → Option Value) (mg mb : Str → Option Value) (news : Led) (news' : Obj → Led) (u : Addr) (o : Obj) (U : ∀ o', Upd u o o' news (news' o')) (ho : UrnObj o) (k : Int) (tk : Tok) (hk0 : 0 < k) (hk1 : k < 10) :
    Con w mean mg mb 215 [.ref u, .int k tk] news (fun n' r => ∃ o', UrnObj o' ∧ n' = news' o' ∧ ∃ i t, r = .int i t ∧ 0 ≤ i ∧ i < k) 1 8 := by
  intro dp un gd cn cs a ccd cl outer A₀ base h₀ L m s Q E B F X N T hk hd hu hret
  refine from_any w mean mg mb news u o (Upd.mem (U o)) ho k tk hk0 hk1 dp un gd cn cs a ccd cl outer A₀ base h₀ L m s Q E B F X N T hk hd hu ?_
  rintro r n' h' tk' F' N' ⟨o', ho', rfl, hr⟩
  exact hret r _ h' tk' F' N' ⟨o', ho', Upd.repl (U o'), hr⟩

/-- a draw's use: the number, the urn in its new state -/
theorem Con.useE {w : World} {mean : ExcName → Option Value} {mg mb : Str → Option Value} {f : Addr} {vs : List Value} {news : Led} {dn un : Nat} {k : Int} {news' : Obj → Led} (C : Con w mean mg mb f vs news (fun n' r => ∃ o', UrnObj o' ∧ n' = news' o' ∧ ∃ i t, r = .int i t ∧ 0 ≤ i ∧ i < k) dn un)
    {dp un' : Nat} {gd : Option (List Code)} {cn : Str} {cs : Scope} {a : Addr} {ccd : Value} {cl : List (Str × Addr)} {outer : List Env} {A₀ : Around} {base h₀ : Heap} {L : Addr} {m : Str → Option Value} {s : Shared} {Q E : Value → Shared → Prop}
    (B : Below A₀ base outer h₀) (F : Fr h₀ L s.heap m) (X : (hd.heap_39 w.params).In h₀) (N : News h₀ L s.heap news) (T : Top hd.view_39 (looseW hd.view_39 []) mean mg mb h₀) (hk : cs.kind = .function)
    (hd : dp + dn < recursionLimit) (hu : un' + un < cLine)
    (ret : ∀ h' tk', Fr h₀ L h' m → ∀ o', UrnObj o' → ∀ i t, 0 ≤ i → i < k → News h₀ L h' (news' o') → Q (.int i t) { s with heap := h', toks := tk' }) :
    wpAny (model PySem.Challenge.rw_pf0232_01.row.prog w) (ktrTop dp un' gd cn cs L a ccd cl outer) (call (.ref f) vs) Q E s := by
  refine C.use B F X N T hk hd hu ?_
  rintro r n h' tk' F' N' ⟨o', U', rfl, i, t, rfl, lo, hi⟩
  exact ret h' tk' F' o' U' i t lo hi N'

theorem flush56frame {prog : Program} {w : World} {A : Around} {E : Value → Shared → Prop} {s : Shared} {env : Env} {Q : Flow → Shared → Prop} (h : wpAny (model prog w) A (execs [] env) Q E s) : wpAny (model prog w) A (execs [] env) Q E s := by
  w_top off
  (try (walk1; fail))
  exact h
set_option hygiene false in
local macro_rules | `(tactic| walk_at "call ref") => `(tactic| (k_here; (with_reducible refine wat 215 ?_); k_dflt ((refine' Con.useE (from_upd _ _ _ _ _ _ _ _ ?zU ?zo _ _ ?za ?zb) ?B ?F ?X ?N ?T ?hk ?hd ?hu ?_); walk_at "u"; (case zU => (intro o'; k_upd)); (case zo => assumption); (case za | zb => decide); walk_at "v"); walk_at "in"))
section
theorem frame_con (w : World) (mean : ExcName → Option Value) (mg mb : Str → Option Value) (news : Led) (u : Addr) (o : Obj) (hu : (u, o) ∈ news) (ho : UrnObj o) (wide high : Int) (tw th : Tok) (hw1 : 2 ≤ wide) (hw3 : wide ≤ 3) (hh1 : 2 ≤ high) (hh3 : high ≤ 3) :
    Con w mean mg mb 222 [.ref u, .int wide tw, .int high th] news (fun news' r => ∃ nf fd c0 more fr, r = .ref nf ∧ FOK fd c0 more wide high ∧ FrameIn w fr nf fd ∧ (∀ p ∈ fr, p ∈ news' ∧ ∀ q ∈ news, q.1 ≠ p.1) ∧ (∀ p ∈ news, p.1 ≠ u → p ∈ news') ∧ ∃ o', (u, o') ∈ news' ∧ UrnObj o') 30 300 := by
  unfold Con; k_fill
  intro dp un gd cn cs a ccd cl outer A₀ base h₀ L m s Q E B F X N₀ T hk hd hu' hret
  have N := News.take N₀ hu
  have hoff : ∀ p ∈ drop u news, p.1 ≠ u := drop_off
  refine wpAny_call ?_
  k_dflt cell_enter
  k_steps
  rename_i gp_1 Lp_1 hp_8 FGp_0 Bp_1 Xp_1 Tp_1 qk_4 ek_4 tk_1 h9_4 tk9_4 o9_3 U9_3 i9_3 t9_3 lo9_3 hi9_3 qk_3 ek_3 h9_3 tk9_3 o9_2 U9_2 i9_2 t9_2 lo9_2 hi9_2 qk_2 ek_2 h9_2 tk9_2 o9_1 U9_1 i9_1 t9_1 lo9_1 hi9_1 qk_1 ek_1 hp_7 tk_7 xp_0 dp_0 od hod l1_1 l2_0 qk_0 ek_0 lp_0 hp_1 l1_0 hp_0 h9_1 tk9_1 o9_0 U9_0 i9_0 t9_0 lo9_0 hi9_0 r9_0 h9_0 tk9_0 u9_0 v9_0 F9_0 N9_0 R9_0
  refine Stop.mk ?_
  have hxd : AllLt xp_0 (drop u news) := allLt_of fun p hp => Nat.lt_trans (lt_allLt l1_1.2 p hp) l2_0
  have hxu : u < xp_0 := Nat.lt_trans l1_1.1 l2_0
  have hdu : ∀ q ∈ (u, o) :: drop u news, q.1 < dp_0 := by
    refine fc ?_ ?_
    · exact l1_1.1
    · intro q hq
      exact lt_allLt l1_1.2 q hq
  have hlu : ∀ q ∈ (u, o) :: drop u news, q.1 < lp_0 := fun q hq => Nat.lt_trans (hdu q hq) l1_0.2.1
  refine hush fun GG9 out9 => ?_
  obtain ⟨a1, a2, a3, a4, b1, b2, b3, b4, hod⟩ := hod
  have N9 : News gp_1 Lp_1 h9_0 ((lp_0, listOf #[.ref xp_0] 0) :: (xp_0, instObj 70 dp_0) :: (dp_0, od) :: (u, o9_0) :: drop u news) := N9_0
  refine out9 ?_
  clear out9 GG9
  refine for_to rfl (fun i m nx => ∃ ys cs rest o', nx = (lp_0, listOf (ys.map Value.ref).toArray i) :: (u, o') :: rest ∧ UrnObj o' ∧ ys.length = i + 1 ∧ cs.length = i ∧ (∀ c ∈ cs, c.a = 1 ∧ c.d = 1) ∧
    CompsIn w (newp ((u, o) :: drop u news) rest) ys (⟨7, 1 + i9_3, 1 + i9_2, i9_1⟩ :: cs) ∧ Grown (drop u news) rest ∧ (∀ p ∈ rest, p.1 ≠ u) ∧ (∀ p ∈ rest, p.1 ≠ lp_0) ∧
    m (Str.ofString "urn") = some (.ref u) ∧ m (Str.ofString "wide") = some (.int wide tw) ∧ m (Str.ofString "high") = some (.int high th) ∧ m (Str.ofString "members") = some (.ref lp_0)) rfl R9_0 (by omega) (by omega) F9_0
    (news := (lp_0, listOf #[.ref xp_0] 0) :: (u, o9_0) :: (xp_0, instObj 70 dp_0) :: (dp_0, od) :: drop u news) (News.sub N9 ?_) ⟨[xp_0], [], (xp_0, instObj 70 dp_0) :: (dp_0, od) :: drop u news, o9_0, rfl, U9_0, rfl, rfl, (fun _ h => nomatch h), ?_, ?_, ?_, ?_, rfl, rfl, rfl, rfl⟩ ?_ ?_
  · exact fun p hp => pmA hp
  · exact .cons ⟨dp_0, a1, a2, a3, a4, b1, b2, b3, b4, 4, mem_newp.mpr ⟨.head _, fun q hq => Nat.ne_of_lt (Nat.lt_trans (hdu q hq) l2_0)⟩, hod ▸ mem_newp.mpr ⟨.tail _ (.head _), fun q hq => Nat.ne_of_lt (hdu q hq)⟩⟩ .nil
  · refine ⟨fun p hp => .tail _ (.tail _ hp), fun p hp => ?_⟩
    rcases List.mem_cons.mp hp with rfl | hp
    · exact .inr fun q hq => Nat.ne_of_lt (Nat.lt_trans (hdu q (.tail _ hq)) l2_0)
    rcases List.mem_cons.mp hp with rfl | hp
    · exact .inr fun q hq => Nat.ne_of_lt (hdu q (.tail _ hq))
    · exact .inl hp
  · refine fc ?_ ?_
    · exact Nat.ne_of_gt hxu
    refine fc ?_ ?_
    · exact Nat.ne_of_gt l1_1.1
    · intro p hp
      exact hoff p hp
  · refine fc ?_ ?_
    · exact Nat.ne_of_lt l1_0.1
    refine fc ?_ ?_
    · exact Nat.ne_of_lt l1_0.2.1
    · intro p hp
      exact Nat.ne_of_lt (lt_allLt l1_0.2.2.2 p hp)
  · clear F9_0 N9_0 R9_0 N9
    intro i tv m₁ nx h tk I oI hi PP1 hI F N
    refine hush fun GG9 out9 => ?_
    obtain ⟨ys, ccs, rest, o', rfl, U', hyl, hcl, hone, hys, hG, hou, hol, e1, e2, e3, e4⟩ := PP1
    have F := Fr.over F [(Str.ofString "urn", .ref u), (Str.ofString "wide", .int wide tw), (Str.ofString "high", .int high th), (Str.ofString "members", .ref lp_0)] (by simp [e1, e2, e3, e4])
    dsimp only [over] at F
    have F : Fr gp_1 Lp_1 h _ := F
    have N : News gp_1 Lp_1 h _ := N
    have hI := off1_of hI
    simp only [LCg.Off1] at hI
    have hi2 : i < 2 := by omega
    have hlu' : lp_0 ≠ u := Nat.ne_of_gt l1_0.2.2.1
    have hIl : I ≠ lp_0 := hI.1.symm
    have hIu : I ≠ u := hI.2.1.symm
    refine out9 ?_
    clear out9 GG9
    refine hushQ fun QQ9 outQ9 => ?_
    k_steps
    rename_i h8 tk8 o8 U8 i8 t8 lo8 hi8 qk8 ek8 hp_6 tk_6 x' d' od' hod' l1' l2 h7 F7 N7
    refine hush fun GG9 out9 => ?_
    obtain ⟨a1, a2, a3, a4, b1, b2, b3, b4, hod'⟩ := hod'
    have N7 : News gp_1 Lp_1 h7 ((x', instObj 70 d') :: (d', od') :: (I, oI) :: (lp_0, listOf ((ys.map Value.ref).toArray.push (.ref x')) (i + 1)) :: (u, o8) :: rest) := N7
    have hbl : ∀ q ∈ (u, o) :: drop u news, q.1 < d' := by
      refine fc ?_ ?_
      · exact l1'.2.2.1
      · intro q hq
        exact lt_allLt l1'.2.2.2 _ (hG.sub _ hq)
    have hnd : ∀ q ∈ (u, o) :: drop u news, q.1 ≠ d' := fun q hq => Nat.ne_of_lt (hbl q hq)
    have hnx : ∀ q ∈ (u, o) :: drop u news, q.1 ≠ x' := fun q hq => Nat.ne_of_lt (Nat.lt_trans (hbl q hq) l2)
    refine out9 ?_
    clear out9 GG9
    refine outQ9 _ _ ?_
    refine TurnEnd.intro (nx := (lp_0, listOf ((ys ++ [x']).map Value.ref).toArray (i + 1)) :: (u, o8) :: (x', instObj 70 d') :: (d', od') :: rest) F7 N7 (.tail _ (.tail _ (.head _))) ?_ ?_ ⟨ys ++ [x'], ccs ++ [⟨20 + (i : Int), 1, 1, i8⟩], _, _, rfl, U8, by simp [hyl], by simp [hcl], ?_, ?_, ?_, ?_, ?_, rfl, rfl, rfl, rfl⟩
    · intro p hp
      have e5 : (ys.map Value.ref).toArray.push (Value.ref x') = ((ys ++ [x']).map Value.ref).toArray := by simp
      rw [e5]
      exact pmB hp
    · refine fc ?_ ?_
      · exact hI.1
      refine fc ?_ ?_
      · exact hI.2.1
      refine fc ?_ ?_
      · exact Nat.ne_of_gt (Nat.lt_trans l1'.1 l2)
      refine fc ?_ ?_
      · exact Nat.ne_of_gt l1'.1
      · intro p hp
        exact of_off1 hI.2.2 p hp
    · intro c hc
      rcases List.mem_append.mp hc with hc | hc
      · exact hone c hc
      · rw [List.mem_singleton.mp hc]; exact ⟨rfl, rfl⟩
    · have hys' := hys.mono (newp_grow (a := (u, o) :: drop u news) (fun p hp => List.Mem.tail (x', instObj 70 d') (List.Mem.tail (d', od') hp)))
      exact hys'.snoc ⟨d', a1, a2, a3, a4, b1, b2, b3, b4, 4, mem_newp.mpr ⟨.head _, hnx⟩, hod' ▸ mem_newp.mpr ⟨.tail _ (.head _), hnd⟩⟩
    · refine ⟨fun p hp => .tail _ (.tail _ (hG.sub p hp)), fun p hp => ?_⟩
      rcases List.mem_cons.mp hp with rfl | hp
      · exact .inr fun q hq => hnx q (.tail _ hq)
      rcases List.mem_cons.mp hp with rfl | hp
      · exact .inr fun q hq => hnd q (.tail _ hq)
      · exact hG.new p hp
    · refine fc ?_ ?_
      · exact (hnx (u, o) (.head _)).symm
      refine fc ?_ ?_
      · exact (hnd (u, o) (.head _)).symm
      · intro p hp
        exact hou p hp
    · refine fc ?_ ?_
      · exact Nat.ne_of_gt (Nat.lt_trans l1'.2.1 l2)
      refine fc ?_ ?_
      · exact Nat.ne_of_gt l1'.2.1
      · intro p hp
        exact hol p hp
  · clear F9_0 N9_0 R9_0 N9
    intro m₁ nx h tk PP1 F N
    refine hush fun GG9 out9 => ?_
    obtain ⟨ys, ccs, rest, o', rfl, U', hyl, hcl, hone, hys, hG, hou, hol, e1, e2, e3, e4⟩ := PP1
    have F := Fr.over0 F [(Str.ofString "urn", .ref u), (Str.ofString "wide", .int wide tw), (Str.ofString "high", .int high th), (Str.ofString "members", .ref lp_0)] (by simp [e1, e2, e3, e4])
    dsimp only [over] at F
    have F : Fr gp_1 Lp_1 h _ := F
    have N : News gp_1 Lp_1 h _ := N
    have hlu' : lp_0 ≠ u := Nat.ne_of_gt l1_0.2.2.1
    have hys0 := hys
    refine out9 ?_
    clear out9 GG9
    obtain - | @⟨y0, _, ys', _, ⟨d0, p1, p2, p3, p4, q1, q2, q3, q4, n0, hy0, hd0⟩, hys'⟩ := hys
    have hy0 := newp_sub _ hy0
    have hd0 := newp_sub _ hd0
    refine hush fun GG9 out9 => ?_
    obtain ⟨vs, hvs⟩ : ∃ vs, (y0 :: ys').map Value.ref = vs := ⟨_, rfl⟩
    have hi0 : vs[(0 : Int).toNat]? = some (.ref y0) := by rw [← hvs]; rfl
    rw [hvs] at N
    have N : News gp_1 Lp_1 h ((u, o') :: (lp_0, listOf vs.toArray i9_0.toNat) :: rest) := News.sub N fun p hp => pmS hp
    have hlr : (lp_0, listOf vs.toArray i9_0.toNat) ∈ (lp_0, listOf vs.toArray i9_0.toNat) :: rest := .head _
    have hy0 : (y0, instObj 70 d0) ∈ (lp_0, listOf vs.toArray i9_0.toNat) :: rest := .tail _ hy0
    have hd0 := List.mem_cons_of_mem (lp_0, listOf vs.toArray i9_0.toNat) hd0
    have hRu : ∀ p ∈ (lp_0, listOf vs.toArray i9_0.toNat) :: rest, p.1 ≠ u := by
      refine fc ?_ ?_
      · exact hlu'
      · intro p hp
        exact hou p hp
    have hRs : ∀ p ∈ rest, p ∈ (lp_0, listOf vs.toArray i9_0.toNat) :: rest := fun p hp => .tail _ hp
    have hRi : ∀ p ∈ (lp_0, listOf vs.toArray i9_0.toNat) :: rest, p = (lp_0, listOf vs.toArray i9_0.toNat) ∨ p ∈ rest := fun p hp => List.mem_cons.mp hp
    refine out9 ?_
    clear out9 GG9
    generalize (lp_0, listOf vs.toArray i9_0.toNat) :: rest = RR at N hlr hy0 hd0 hRu hRs hRi
    k_steps
    rename_i hp_8 h9_0' tk9_0' o7 U7 i7 t7 lo7 hi7 hp_7 tk_7 FF x' d' od' hod' l3 l4 NN kF kN Tc kX
    rename_i o6 U6 i6 t6 lo6 hi6 qk6 ek6
    have hbR : ∀ q ∈ (u, o) :: drop u news, q.1 < d' := by
      refine fc ?_ ?_
      · exact l3.1
      · intro q hq
        exact lt_allLt l3.2 _ (hRs _ (hG.sub _ hq))
    have hnd : ∀ q ∈ (u, o) :: drop u news, q.1 ≠ d' := fun q hq => Nat.ne_of_lt (hbR q hq)
    have hnx : ∀ q ∈ (u, o) :: drop u news, q.1 ≠ x' := fun q hq => Nat.ne_of_lt (Nat.lt_trans (hbR q hq) l4)
    have hnew : ∀ q ∈ news, q ∈ (u, o) :: drop u news ∨ q.1 = u := fun q hq => by
      by_cases e : q.1 = u
      · exact .inr e
      · exact .inl (.tail _ (mem_drop hq e))
    have hfresh : ∀ a : Addr, (∀ q ∈ (u, o) :: drop u news, q.1 ≠ a) → ∀ q ∈ news, q.1 ≠ a := fun a h q hq => by
      rcases hnew q hq with h' | h'
      · exact h q h'
      · exact h' ▸ h (u, o) (.head _)
    refine hush fun GG9 out9 => ?_
    obtain ⟨z1, z2, z3, z4, z5, z6, y1, y2, y3, y4, y6, hod'⟩ := hod'
    have N9 : News h₀ L _ ((x', instObj 136 d') :: (d', od') :: (u, o7) :: RR) := ‹_›
    refine out9 ?_
    clear out9 GG9
    apply hret
    · k_asm
    · exact N9
    · refine ⟨x', ⟨high * (1 + i6) * (1 + i9_2) - i7 * (1 + i6 - 1), wide * (1 + i6) * (1 + i9_3), 1 + i6, ⟨7, 1 + i9_3, 1 + i9_2, i9_1⟩ :: ccs⟩, ⟨7, 1 + i9_3, 1 + i9_2, i9_1⟩, ccs, (x', instObj 136 d') :: (d', od') :: (lp_0, listOf vs.toArray i9_0.toNat) :: newp ((u, o) :: drop u news) rest, rfl, ?_, ?_, ?_, ?_, o7, .tail _ (.tail _ (.head _)), U7⟩
      · have e1 : wide * (1 + i6) * (1 + i9_3) = wide * ((1 + i6) * (1 + i9_3)) := Int.mul_assoc ..
        have e2 : high * (1 + i6) * (1 + i9_2) = high * ((1 + i6) * (1 + i9_2)) := Int.mul_assoc ..
        refine ⟨rfl, by omega, hone, by dsimp only; omega, by dsimp only; omega, by dsimp only; omega, by dsimp only; omega, by dsimp only; omega, by dsimp only; omega, by omega, hw3, by omega, hh3, e1, ?_, ?_⟩
        · dsimp only
          rw [e2]
          have : i7 = 0 ∨ i7 = 1 := by omega
          rcases this with rfl | rfl <;> omega
        · dsimp only
          rw [e2]
          have : i7 = 0 ∨ i7 = 1 := by omega
          rcases this with rfl | rfl <;> omega
      · refine ⟨d', lp_0, y0 :: ys', z1, z2, z3, z4, z5, z6, y1, y2, y3, y4, y6, 6, i9_0.toNat, .head _, hod' ▸ .tail _ (.head _), ?_, hys0.mono fun p hp => .tail _ (.tail _ (.tail _ hp))⟩
        rw [hvs]; exact .tail _ (.tail _ (.head _))
      · refine fc ?_ ?_
        · exact ⟨.head _, hfresh _ hnx⟩
        refine fc ?_ ?_
        · exact ⟨.tail _ (.head _), hfresh _ hnd⟩
        refine fc ?_ ?_
        · exact ⟨.tail _ (.tail _ (.tail _ hlr)), hfresh _ fun q hq => Nat.ne_of_lt (hlu q hq)⟩
        · intro p hp
          exact ⟨.tail _ (.tail _ (.tail _ (hRs _ (newp_sub _ hp)))), hfresh _ (mem_newp.mp hp).2⟩
      · intro p hp hne
        exact .tail _ (.tail _ (.tail _ (hRs _ (hG.sub _ (mem_drop hp hne)))))
end

theorem flush57frame2 {prog : Program} {w : World} {A : Around} {E : Value → Shared → Prop} {s : Shared} {env : Env} {Q : Flow → Shared → Prop} (h : wpAny (model prog w) A (execs [] env) Q E s) : wpAny (model prog w) A (execs [] env) Q E s := by
  w_top off
  (try (walk1; fail))
  exact h
/-- which cells stand behind the loops at k, j, i -/
def Bef (Ws Hs : Nat → Nat) (k j i k' j' i' : Nat) : Prop := i' < Ws k' ∧ j' < Hs k' ∧ (k' < k ∨ (k' = k ∧ (j' < j ∨ (j' = j ∧ i' < i))))
structure CG (w : World) (n1 : Led) (ng P : Addr) (many : Int) (Ws Hs : Nat → Nat) (pas : List Addr) (rass : List (List Addr)) (val : Nat → Nat → Nat → List Int) (k j i : Nat) (nx : Led) : Prop where
  grown : Grown n1 nx
  grid : ∃ G', GridIn w (newp n1 nx) (stOf P pas rass) ng P many pas rass Ws G' ∧ GOK G' ∧ ∀ k' j' i', Bef Ws Hs k j i k' j' i' → G' k' j' i' = some (val k' j' i')
section
variable {w : World} {n1 : Led} {ng P : Addr} {many : Int} {Ws Hs : Nat → Nat} {pas : List Addr} {rass : List (List Addr)} {val : Nat → Nat → Nat → List Int} {k j i : Nat} {nx : Led}
theorem CG.row (h : CG w n1 ng P many Ws Hs pas rass val k j (Ws k) nx) : CG w n1 ng P many Ws Hs pas rass val k (j + 1) 0 nx := by
  obtain ⟨g, G', h1, h2, h3⟩ := h
  refine ⟨g, G', h1, h2, fun k' j' i' b => h3 k' j' i' ?_⟩
  obtain ⟨b1, b2, b3⟩ := b
  refine ⟨b1, b2, ?_⟩
  rcases b3 with b3 | ⟨rfl, b3⟩
  · exact .inl b3
  · exact .inr ⟨rfl, by omega⟩
theorem CG.plane (h : CG w n1 ng P many Ws Hs pas rass val k (Hs k) 0 nx) : CG w n1 ng P many Ws Hs pas rass val (k + 1) 0 0 nx := by
  obtain ⟨g, G', h1, h2, h3⟩ := h
  refine ⟨g, G', h1, h2, fun k' j' i' b => h3 k' j' i' ?_⟩
  obtain ⟨b1, b2, b3⟩ := b
  refine ⟨b1, b2, ?_⟩
  rcases b3 with b3 | ⟨rfl, b3⟩
  · rcases Nat.lt_or_eq_of_le (Nat.le_of_lt_succ b3) with h | rfl
    · exact .inl h
    · exact .inr ⟨rfl, .inl b2⟩
  · omega
theorem Grown.put {n1 nx : Led} {ra b : Addr} {o x : Obj} (g : Grown n1 nx) (hra : ∀ q ∈ n1, q.1 ≠ ra) (hb : ∀ q ∈ nx, q.1 ≠ b) : Grown n1 ((b, x) :: repl ra o nx) := by
  refine ⟨fun p hp => .tail _ (mem_repl (g.sub p hp) (hra p hp)), fun p hp => ?_⟩
  rcases List.mem_cons.mp hp with rfl | hp
  · exact .inr fun q hq => hb q (g.sub q hq)
  · obtain ⟨q', hq', rfl⟩ := List.mem_map.mp hp
    by_cases e : q'.1 = ra
    · simp only [e, if_true]; exact .inr hra
    · simp only [e, if_false]; exact g.new q' hq'
theorem CG.put (h : CG w n1 ng P many Ws Hs pas rass val k j i nx) (hl : pas.length = rass.length) (hst : (stOf P pas rass).Nodup) (hfr : ∀ a ∈ stOf P pas rass, ∀ q ∈ n1, q.1 ≠ a) (F : Fn nx)
    {ra : Addr} {ras : List Addr} (e2 : rass[k]? = some ras) (e3 : ras[j]? = some ra) (e4 : i < Ws k) {vs : List Value} {n : Nat} (hra : (ra, listOf vs.toArray n) ∈ nx)
    {b : Addr} {rvs : List Value} {c : Nat} (hi : IntsAre rvs (val k j i)) (l1 : 1 ≤ (val k j i).length) (l2 : (val k j i).length ≤ 1000) (hb : ∀ q ∈ nx, q.1 ≠ b) :
    CG w n1 ng P many Ws Hs pas rass val k j (i + 1) ((b, listOf rvs.toArray c) :: repl ra (listOf (vs.set i (.ref b)).toArray n) nx) := by
  obtain ⟨g, G', h1, h2, h3⟩ := h
  have hran : ∀ q ∈ n1, q.1 ≠ ra := hfr ra (mem_st_row e2 e3)
  have hra' : (ra, listOf vs.toArray n) ∈ newp n1 nx := mem_newp.mpr ⟨hra, hran⟩
  have hbs : b ∉ stOf P pas rass := fun hm => by
    obtain ⟨o', ho'⟩ := h1.st_in hl b hm
    exact hb _ (newp_sub _ ho') rfl
  refine ⟨g.put hran hb, upd G' k j i (some (val k j i)), ?_, h2.upd l1 l2, ?_⟩
  · refine GridIn.mono (GridIn.put (b := b) (c := c) (F.sub newp_sub) h1 hst e2 e3 e4 hra' hi (fun q hq => hb q (newp_sub q hq)) hbs) fun p hp => ?_
    rcases List.mem_cons.mp hp with rfl | hp
    · exact mem_newp.mpr ⟨.head _, fun q hq => hb q (g.sub q hq)⟩
    · obtain ⟨q', hq', rfl⟩ := List.mem_map.mp hp
      refine mem_newp.mpr ⟨.tail _ (List.mem_map.mpr ⟨q', newp_sub _ hq', rfl⟩), ?_⟩
      by_cases e : q'.1 = ra
      · simp only [e, if_true]; exact hran
      · simp only [e, if_false]; exact (mem_newp.mp hq').2
  · intro k' j' i' b
    unfold upd
    split
    · rename_i h; obtain ⟨rfl, rfl, rfl⟩ := h; rfl
    · rename_i hne
      refine h3 k' j' i' ?_
      obtain ⟨b1, b2, b3⟩ := b
      refine ⟨b1, b2, ?_⟩
      rcases b3 with b3 | ⟨rfl, b3 | ⟨rfl, b3⟩⟩
      · exact .inl b3
      · exact .inr ⟨rfl, .inl b3⟩
      · refine .inr ⟨rfl, .inr ⟨rfl, ?_⟩⟩
        rcases Nat.lt_or_eq_of_le (Nat.le_of_lt_succ b3) with h | rfl
        · exact h
        · exact absurd ⟨rfl, rfl, rfl⟩ hne
end
theorem get_con' (w : World) (mean : ExcName → Option Value) (mg mb : Str → Option Value) (news : Led) (st : List Addr) (g P : Addr) (many : Int) (pas : List Addr) (rass : List (List Addr)) (Ws : Nat → Nat) (G : Nat → Nat → Nat → Cell)
    (hG : GridIn w news st g P many pas rass Ws G) (hm0 : 0 ≤ many) (hm1 : many ≤ 4) (k y x : Int) (tk ty tx : Tok) (p : Addr) (ras : List Addr) (ra : Addr) (hk0 : 0 ≤ k) (hk1 : k < 1000) (hy0 : 0 ≤ y) (hy1 : y < 1000) (hx0 : 0 ≤ x) (hx1 : x < 1000)
    (e1 : pas[k.toNat]? = some p) (e2 : rass[k.toNat]? = some ras) (e3 : ras[y.toNat]? = some ra) (e4 : x.toNat < Ws k.toNat) :
    Con w mean mg mb 159 [.ref g, .int k tk, .int x tx, .int y ty] news (fun news' r => ∃ b vs n, r = .ref b ∧ IntsAre vs (cellVal many (G k.toNat y.toNat x.toNat)) ∧ Grown news news' ∧ (b, listOf vs.toArray n) ∈ news') 5 80 := by
  intro dp un gd cn cs a ccd cl outer A₀ base h₀ L m s Q E B F X N T hk hd hu hret
  refine get_con w mean mg mb news st g P many pas rass Ws G hG hm0 hm1 k y x tk ty tx p ras ra hk0 hk1 hy0 hy1 hx0 hx1 e1 e2 e3 e4 dp un gd cn cs a ccd cl outer A₀ base h₀ L m s Q E B F X N T hk hd hu ?_
  rintro r n' h' tk' F' N' ⟨b, vs, n, rfl, hi, ⟨rfl, hm⟩ | ⟨rfl, hl⟩⟩
  · exact hret _ _ _ _ F' N' ⟨b, vs, n, rfl, hi, Grown.refl, hm⟩
  · exact hret _ _ _ _ F' N' ⟨b, vs, n, rfl, hi, Grown.cons (ne_of_allLt hl), .head _⟩

theorem flush58cg {prog : Program} {w : World} {A : Around} {E : Value → Shared → Prop} {s : Shared} {env : Env} {Q : Flow → Shared → Prop} (h : wpAny (model prog w) A (execs [] env) Q E s) : wpAny (model prog w) A (execs [] env) Q E s := by
  w_top off
  (try (walk1; fail))
  exact h
theorem mul_le_ad {a m w : Int} (h1 : 1 ≤ a) (h3 : a ≤ 3) {x i : Int} (hx : 0 ≤ x) (hm : m ≤ w - x) (hi0 : 0 ≤ i) (hi : i < m * a) : 0 ≤ x * a + i ∧ x * a + i < w * a := by
  have e : a = 1 ∨ a = 2 ∨ a = 3 := by omega
  rcases e with rfl | rfl | rfl <;> omega
section
theorem cropg_con (w : World) (mean : ExcName → Option Value) (mg mb : Str → Option Value) (news : Led) (gr f gP : Addr) (st : List Addr) (fd : FD) (c0 : CD) (more : List CD) (wide high : Int) (gpas : List Addr) (grass : List (List Addr)) (G : Nat → Nat → Nat → Cell)
    (hF : FrameIn w news f fd) (ok : FOK fd c0 more wide high) (hG : GridIn w news st gr gP (fd.n * fd.n) gpas grass (WsOf fd wide) G) (hS : GShape fd high gP gpas grass) (hok : GOK G)
    (x y across down : Int) (tx ty ta td : Tok) (hx0 : 0 ≤ x) (hx : x < wide) (hy0 : 0 ≤ y) (hy : y < high) (ha : 1 ≤ across) (ha2 : across ≤ 2) (hdn : 1 ≤ down) (hdn2 : down ≤ 2) (fd' : FD) (hfd' : fd' = cutF fd c0 x y across down) :
    Con w mean mg mb 201 [.ref gr, .ref f, .int x tx, .int y ty, .int across ta, .int down td] news (fun news' r => ∃ t nf ng P pas rass G' fr nn, r = .ref t ∧ Grown news news' ∧ (t, tupOf [.ref nf, .ref ng]) ∈ news' ∧
      FrameIn w fr nf fd' ∧ (∀ p ∈ fr, p ∈ newp news news') ∧ GShape fd' (min down (high - y)) P pas rass ∧
      GridIn w nn (stOf P pas rass) ng P (fd'.n * fd'.n) pas rass (WsOf fd' (min across (wide - x))) G' ∧ GOK G' ∧ (∀ p ∈ nn, p ∈ newp news news' ∧ ∀ q ∈ fr, q.1 ≠ p.1) ∧
      ∀ k j i, k < fd.comps.length → j < HsOf fd' (min down (high - y)) k → i < WsOf fd' (min across (wide - x)) k → G' k j i = some (cellVal (fd'.n * fd'.n) (G k (y * (cAt fd k).d + j).toNat (x * (cAt fd k).a + i).toNat))) 90 1200 := by
  refine hush fun GG9 out9 => ?_
  obtain ⟨d, cl', xs, t1, t2, t3, t4, t5, t6, v1, v2, v3, v4, v6, n, n0, hf, hfd, hcl, hC⟩ := id hF
  have hxl : (xs.map Value.ref).length = fd.comps.length := by rw [List.length_map]; exact hC.length
  have hlen3 : fd.comps.length ≤ 3 := ok.len3
  have ok' : FOK fd' c0 more (min across (wide - x)) (min down (high - y)) := hfd' ▸ cut_ok ok hx0 hx hy0 hy ha hdn
  have ec : fd'.comps = fd.comps := by rw [hfd']; rfl
  have en : fd'.n = fd.n := by rw [hfd']; rfl
  have eca : ∀ k, cAt fd' k = cAt fd k := fun k => by unfold cAt; rw [ec]
  have hnn := ok'.nn
  have hWs := ok'.ws
  have hHs := ok'.hs
  have hw3 := ok.w3
  have hh3 := ok.h3
  generalize hWd : min across (wide - x) = W at *
  generalize hHd : min down (high - y) = H at *
  refine out9 ?_
  clear out9 GG9
  unfold Con; k_fill
  intro dp un gd cn cs a ccd cl outer A₀ base h₀ L m s Q E B F X N T hk hd hu' hret
  refine wpAny_call ?_
  k_dflt cell_enter
  k_steps
  refine Stop.mk ?_
  k_dflt (refine' Con.use (cropf_con w mean mg mb _ f fd c0 more wide high hF ok x y across down _ _ _ _ hx0 hx hy0 hy ha ha2 hdn hdn2) ?B ?F ?X ?N ?T ?hk ?hd ?hu ?_)
  case N => k_asm
  case B => k_asm
  case F => k_asm
  case X => k_asm
  case T => k_asm
  case hk => exact rfl
  case hd => ktr_room
  case hu => ktr_units
  k_whole
  intro r9 n9 h9 tk9 F9 N9 PP1
  refine hush fun GG9 out9 => ?_
  obtain ⟨nf, rfl, G9, hFl⟩ := PP1
  rw [← hfd'] at hFl
  refine out9 ?_
  clear out9 GG9
  try dsimp only
  try k_fold
  have hFl9 := hFl.mono newp_sub
  have sk9 : StopKey "call ref" := ⟨trivial⟩
  k_steps
  clear sk9
  refine Stop.mk ?_
  k_dflt (refine' Con.use (grid_con _ _ _ _ _ _ _ _ _ _ _ ?hF ?ok) ?B ?F ?X ?N ?T ?hk ?hd ?hu ?_)
  walk_at "u"
  case hF => walk_at "h"
  case ok => assumption
  walk_at "v"
  intro _ n10 h10 tk10 F10 N10 PP1
  refine hush fun GG9 out9 => ?_
  obtain ⟨ng, P, pas, rass, rfl, S10, G10, W10, fr10⟩ := PP1
  refine out9 ?_
  clear out9 GG9
  try dsimp only
  try k_sweep
  try k_fold
  have hsub : ∀ p ∈ news, p ∈ n10 := fun p hp => W10.sub p (G9.sub p hp)
  have hf1 := hsub _ hf
  have hfd1 := hsub _ hfd
  have hcl1 := hsub _ hcl
  k_steps
  rename_i h11 r11 h12 tk12 u12 v12 F12 N12 R12
  refine Stop.mk ?_
  refine hush fun GG9 out9 => ?_
  obtain ⟨val, hval⟩ : ∃ val : Nat → Nat → Nat → List Int, val = fun (k j i : Nat) => cellVal (fd'.n * fd'.n) (G k (y * (cAt fd k).d + (j : Int)).toNat (x * (cAt fd k).a + (i : Int)).toNat) := ⟨_, rfl⟩
  have hvl : ∀ k j i, 1 ≤ (val k j i).length ∧ (val k j i).length ≤ 1000 := fun k j i => by
    rw [hval]
    dsimp only
    cases hc : G k (y * (cAt fd k).d + (j : Int)).toNat (x * (cAt fd k).a + (i : Int)).toNat with
    | none => simp only [cellVal, Option.getD_none, List.length_replicate]; omega
    | some is => exact hok _ _ _ _ hc
  have C0 : CG w n9 ng P (fd'.n * fd'.n) (WsOf fd' W) (HsOf fd' H) pas rass val 0 0 0 n10 := ⟨W10, _, G10, (by intro _ _ _ _ h; cases h), fun k' j' i' b => by obtain ⟨_, _, b⟩ := b; omega⟩
  refine out9 ?_
  clear out9 GG9
  refine for_to rfl (fun k m nx => CG w n9 ng P (fd'.n * fd'.n) (WsOf fd' W) (HsOf fd' H) pas rass val k 0 0 nx ∧ ∀ p ∈ [(Str.ofString "grid", .ref gr), (Str.ofString "frame", .ref f), (Str.ofString "x", .int x tx), (Str.ofString "y", .int y ty), (Str.ofString "later", .ref nf), (Str.ofString "found", .ref ng)], m p.1 = some p.2) rfl R12 (by omega) (by omega) F12 N12 ⟨C0, by (repeat (first | refine List.forall_mem_cons.mpr ⟨rfl, ?_⟩ | exact List.forall_mem_nil _))⟩ ?_ ?_
  · clear F12 N12 R12 hf1 hfd1 hcl1 C0 G10
    intro k tk1 m₁ nx h tk I oI hi PP1 hoff F N
    refine hush fun GG9 out9 => ?_
    obtain ⟨C1, e1⟩ := PP1
    have F := Fr.over F [(Str.ofString "grid", .ref gr), (Str.ofString "frame", .ref f), (Str.ofString "x", .int x tx), (Str.ofString "y", .int y ty), (Str.ofString "later", .ref nf), (Str.ofString "found", .ref ng)] e1
    dsimp only [over] at F
    have hoff := off1_of hoff
    have hk' : k < fd.comps.length := by omega
    have hc : fd.comps[((k : Nat) : Int).toNat]? = some (cAt fd k) := by simp [cAt, List.getD, hk']
    have hc' : fd'.comps[((k : Nat) : Int).toNat]? = some (cAt fd' k) := by rw [ec, eca]; exact hc
    obtain ⟨xk, hxk, dk, p0, p1, p2, p3, p4, p5, p6, p7, m0, hx0', hdx⟩ := hC.get hc
    have hxv : (xs.map Value.ref)[((k : Nat) : Int).toNat]? = some (.ref xk) := by rw [List.getElem?_map, hxk]; rfl
    have hsx : ∀ p ∈ news, p ∈ nx := fun p hp => C1.grown.sub p (G9.sub p hp)
    have hf1 := hsx _ hf
    have hfd1 := hsx _ hfd
    have hcl1 := hsx _ hcl
    have hx1 := hsx _ hx0'
    have hdx1 := hsx _ hdx
    have hFl1 : FrameIn w nx nf fd' := hFl.mono fun p hp => C1.grown.sub p (newp_sub p hp)
    obtain ⟨d2, cl2, xs2, s1, s2, s3, s4, s5, s6, w1, w2, w3, w4, w6, q2, q3, hf2, hfd2, hcl2, hC2⟩ := id hFl1
    have hdn' := hHs k (ec ▸ hk')
    have han' := hWs k (ec ▸ hk')
    have hca := ok.ca k hk'
    refine out9 ?_
    clear out9 GG9
    refine hushQ fun QQ9 outQ9 => ?_
    k_steps
    rename_i l1_0 hp_5 hp_4 hp_3 tk_0 h9_1 tk9_1 t9 tw tb l9 hp_2 hp_1 hp_0 r9 h9 tk9 u9 v9 F9 N9 R9
    refine Stop.mk ?_
    refine for_to rfl (fun j m nx2 => ∃ nx', nx2 = (I, oI) :: nx' ∧ (∀ p ∈ nx', p.1 ≠ I) ∧ CG w n9 ng P (fd'.n * fd'.n) (WsOf fd' W) (HsOf fd' H) pas rass val k j 0 nx' ∧ ∃ tl tt, ∀ p ∈ [(Str.ofString "grid", .ref gr), (Str.ofString "frame", .ref f), (Str.ofString "x", .int x tx), (Str.ofString "y", .int y ty), (Str.ofString "later", .ref nf), (Str.ofString "found", .ref ng), (Str.ofString "place", .int (k : Int) tk1), (Str.ofString "left", .int (x * (cAt fd k).a) tl), (Str.ofString "top", .int (y * (cAt fd k).d) tt), (Str.ofString "wide", .int (W * (cAt fd' k).a) tw)], m p.1 = some p.2) rfl R9 (by omega) (by omega) F9 (News.sub (news := (I, oI) :: nx) N9 ?_) ⟨nx, rfl, of_off1 hoff, C1, _, _, by (repeat (first | refine List.forall_mem_cons.mpr ⟨rfl, ?_⟩ | exact List.forall_mem_nil _))⟩ ?_ ?_
    · intro p hp; simp only [List.mem_cons] at hp ⊢; rcases hp with h | h <;> simp [h]
    · clear F9 N9 R9 hf1 hfd1 hcl1 hx1 hdx1 hFl1 hf2 hfd2 hcl2 hC2 C1 e1 hoff F N hsx
      intro j tj m₂ nx2 h2 tk2 I2 oI2 hj PP1 hoff F N
      refine hush fun GG9 out9 => ?_
      obtain ⟨nx', rfl, hoI, C2, tl, tt, e2⟩ := PP1
      have F := Fr.over F [(Str.ofString "grid", .ref gr), (Str.ofString "frame", .ref f), (Str.ofString "x", .int x tx), (Str.ofString "y", .int y ty), (Str.ofString "later", .ref nf), (Str.ofString "found", .ref ng), (Str.ofString "place", .int (k : Int) tk1), (Str.ofString "left", .int (x * (cAt fd k).a) tl), (Str.ofString "top", .int (y * (cAt fd k).d) tt), (Str.ofString "wide", .int (W * (cAt fd' k).a) tw)] e2
      dsimp only [over] at F
      have hoff := off1_of hoff
      simp only [LCg.Off1] at hoff
      refine out9 ?_
      clear out9 GG9
      refine hushQ fun QQ9 outQ9 => ?_
      k_steps
      rename_i h29 r29 h28 tk28 u28 v28 F28 N28 R28
      refine Stop.mk ?_
      refine for_to rfl (fun i m nx3 => ∃ nx', nx3 = (I2, oI2) :: (I, oI) :: nx' ∧ (∀ p ∈ nx', p.1 ≠ I) ∧ (∀ p ∈ nx', p.1 ≠ I2) ∧ CG w n9 ng P (fd'.n * fd'.n) (WsOf fd' W) (HsOf fd' H) pas rass val k j i nx' ∧ ∀ p ∈ [(Str.ofString "grid", .ref gr), (Str.ofString "frame", .ref f), (Str.ofString "x", .int x tx), (Str.ofString "y", .int y ty), (Str.ofString "later", .ref nf), (Str.ofString "found", .ref ng), (Str.ofString "place", .int (k : Int) tk1), (Str.ofString "left", .int (x * (cAt fd k).a) tl), (Str.ofString "top", .int (y * (cAt fd k).d) tt), (Str.ofString "wide", .int (W * (cAt fd' k).a) tw), (Str.ofString "row", .int (j : Int) tj)], m p.1 = some p.2) rfl R28 (by omega) (by omega) F28 N28 ⟨nx', rfl, hoI, of_off1 hoff.2, C2, by (repeat (first | refine List.forall_mem_cons.mpr ⟨rfl, ?_⟩ | exact List.forall_mem_nil _))⟩ ?_ ?_
      · clear F28 N28 R28 C2 e2 hoI F N
        intro i ti m₃ nx3 h3 tk3 I3 oI3 hi3 PP1 hoff3 F N
        refine hush fun GG9 out9 => ?_
        obtain ⟨nx', rfl, hoI, hoI2, C3, e3⟩ := PP1
        have F := Fr.over F [(Str.ofString "grid", .ref gr), (Str.ofString "frame", .ref f), (Str.ofString "x", .int x tx), (Str.ofString "y", .int y ty), (Str.ofString "later", .ref nf), (Str.ofString "found", .ref ng), (Str.ofString "place", .int (k : Int) tk1), (Str.ofString "left", .int (x * (cAt fd k).a) tl), (Str.ofString "top", .int (y * (cAt fd k).d) tt), (Str.ofString "wide", .int (W * (cAt fd' k).a) tw), (Str.ofString "row", .int (j : Int) tj)] e3
        dsimp only [over] at F
        have hoff3 := off1_of hoff3
        simp only [LCg.Off1] at hoff3
        have hsx : ∀ p ∈ news, p ∈ nx' := fun p hp => C3.grown.sub p (G9.sub p hp)
        obtain ⟨G3, hG3, hok3, hv3⟩ := C3.grid
        have hG3' := hG3.mono newp_sub
        obtain ⟨dg3, b1, b2, b3, b4, b5, hng, hndg, _⟩ := id hG3'
        have hGo := hG.mono hsx
        obtain ⟨dgo, b6, b7, b8, b9, b0, hgr, hgdg, _⟩ := id hGo
        have hii : ((k : Nat) : Int).toNat = k := Int.toNat_natCast k
        have hj' : (j : Int) < H * (cAt fd' k).d := jlt (by assumption)
        have hi' : (i : Int) < W * (cAt fd' k).a := jlt (by assumption)
        have hj1 := l6k hj' hdn'.2
        have hi1 := l9k hi' han'.2
        have hk1 := c1k hk' hlen3
        rw [eca] at hj' hi'
        obtain ⟨hyb0, hyb⟩ := mul_le_ad (w := high) hca.2.2.1 (by omega) hy0 (min_r (by assumption)) (Int.natCast_nonneg j) hj'
        obtain ⟨hxb0, hxb⟩ := mul_le_ad (w := wide) hca.1 hca.2.1 hx0 (min_r (by assumption)) (Int.natCast_nonneg i) hi'
        have hWo := ok.ws k hk'
        have hHo := ok.hs k hk'
        have hyN : (y * (cAt fd k).d + (j : Int)).toNat < HsOf fd high k := by show _ < (high * (cAt fd k).d).toNat; exact tlt hyb hHo.1
        have hxN : (x * (cAt fd k).a + (i : Int)).toNat < WsOf fd wide k := by show _ < (wide * (cAt fd k).a).toNat; exact tlt hxb hWo.1
        refine out9 ?_
        clear out9 GG9
        refine hushQ fun QQ9 outQ9 => ?_
        obtain ⟨gp, ge1⟩ : ∃ p, gpas[((k : Nat) : Int).toNat]? = some p := ⟨_, List.getElem?_eq_getElem (by rw [hii, hS.lp]; exact hk')⟩
        obtain ⟨gras, ge2⟩ : ∃ ras, grass[((k : Nat) : Int).toNat]? = some ras := ⟨_, List.getElem?_eq_getElem (by rw [hii, hS.lr]; exact hk')⟩
        have hgrl : gras.length = HsOf fd high k := by rw [hii] at ge2; exact hS.hts _ _ ge2
        obtain ⟨gra, ge3⟩ : ∃ ra, gras[(y * (cAt fd k).d + (j : Int)).toNat]? = some ra := ⟨_, List.getElem?_eq_getElem (by rw [hgrl]; exact hyN)⟩
        have ge4 : (x * (cAt fd k).a + (i : Int)).toNat < WsOf fd wide ((k : Nat) : Int).toNat := by rw [hii]; exact hxN
        obtain ⟨p, e1⟩ : ∃ p, pas[((k : Nat) : Int).toNat]? = some p := ⟨_, List.getElem?_eq_getElem (by rw [hii, S10.lp, ec]; exact hk')⟩
        obtain ⟨ras, e2⟩ : ∃ ras, rass[((k : Nat) : Int).toNat]? = some ras := ⟨_, List.getElem?_eq_getElem (by rw [hii, S10.lr, ec]; exact hk')⟩
        have hrl : ras.length = HsOf fd' H k := by rw [hii] at e2; exact S10.hts _ _ e2
        have hrl' : ras.length = (H * (cAt fd k).d).toNat := by rw [hrl, ← eca k]
        obtain ⟨ra, e3⟩ : ∃ ra, ras[((j : Nat) : Int).toNat]? = some ra := ⟨_, List.getElem?_eq_getElem (by rw [hrl', Int.toNat_natCast]; exact (Int.lt_toNat.mpr hj'))⟩
        have e4 : ((i : Nat) : Int).toNat < WsOf fd' W ((k : Nat) : Int).toNat := by rw [hii]; show _ < (W * (cAt fd' k).a).toNat; rw [eca, Int.toNat_natCast]; exact Int.lt_toNat.mpr hi'
        refine hush fun GG9 out9 => ?_
        obtain ⟨vr, nr, hra, hvr⟩ := hG3'.row_in e1 e2 e3
        obtain ⟨hpr, hPr⟩ := st_apart S10.nodup e1 e2 e3
        have hFn : Fn nx' := Fn.of (News.sub N (fun q hq => .tail _ (.tail _ (.tail _ hq))))
        refine out9 ?_
        clear out9 GG9
        k_steps
        refine Stop.mk ?_
        k_dflt (refine' Con.use (get_con' w mean mg mb _ st gr gP (fd.n * fd.n) gpas grass (WsOf fd wide) G (hGo.mono ?sub) ?m0 ?m1 _ _ _ _ _ _ gp gras gra ?k0 ?k1 ?y0 ?y1 ?x0 ?x1 ge1 ge2 ge3 ge4) ?B ?F ?X ?N ?T ?hk ?hd ?hu ?_)
        case N => k_asm
        case sub => exact fun q hq => .tail _ (.tail _ (.tail _ hq))
        case m0 => rw [← en]; omega
        case m1 => rw [← en]; omega
        case k0 => omega
        case k1 => exact hk1
        case y0 => exact hyb0
        case y1 => exact l6k hyb hHo.2
        case x0 => exact hxb0
        case x1 => exact l9k hxb hWo.2
        case B => k_asm
        case F => k_asm
        case X => k_asm
        case T => k_asm
        case hk => exact rfl
        case hd => ktr_room
        case hu => ktr_units
        k_whole
        intro r30 n30 h30 tk30 F30 N30 PP1
        refine hush fun GG9 out9 => ?_
        obtain ⟨b30, vs30, c30, rfl, I30, W30, hb30⟩ := PP1
        refine out9 ?_
        clear out9 GG9
        try dsimp only
        try k_fold
        rw [hii] at I30
        have I30 : IntsAre vs30 (val k j i) := by rw [hval, en]; exact I30
        have hl30 : vs30.length ≤ 1000 := by rw [I30.length]; exact (hvl k j i).2
        k_steps
        rename_i D31 c31 h31 F31 N31 l31
        refine Stop.mk ?_
        have hFn2 := Fn.of N31
        have hs30 : ∀ p ∈ (I3, oI3) :: (I2, oI2) :: (I, oI) :: nx', p ∈ (D31, listOf vs30.toArray c31) :: n30 := fun p hp => .tail _ (W30.sub p hp)
        k_dflt (refine' Con.use (put_con w mean mg mb _ (stOf P pas rass) ng P (fd'.n * fd'.n) pas rass (WsOf fd' W) G3 (hG3'.mono ?sub) _ _ _ _ _ _ p ras ra ?k0 ?k1 ?y0 ?y1 ?x0 ?x1 e1 e2 e3 e4 _ _ _ _ ?hr I30 ?il ?rr hpr hPr) ?B ?F ?X ?N ?T ?hk ?hd ?hu ?_)
        case N => k_asm
        case sub => exact fun q hq => hs30 q (.tail _ (.tail _ (.tail _ hq)))
        case hr => exact .head _
        case k0 => omega
        case k1 => exact hk1
        case y0 => omega
        case y1 => exact hj1
        case x0 => omega
        case x1 => exact hi1
        case il => exact (hvl k j i).2
        case rr => exact Nat.ne_of_gt (l31 _ (W30.sub _ (.tail _ (.tail _ (.tail _ hra)))))
        case B => k_asm
        case F => k_asm
        case X => k_asm
        case T => k_asm
        case hk => exact rfl
        case hd => ktr_room
        case hu => ktr_units
        k_whole
        intro r9 n9' h9 tk9 F9 N9 P9
        refine hush fun GG9 out9 => ?_
        obtain ⟨rfl, b9, c9, vs9, nn9, hra9, hvl9, e9, hb9⟩ := P9
        subst e9
        refine out9 ?_
        clear out9 GG9
        try dsimp only
        try k_fold
        have hr9 : (ra, listOf vs9.toArray nn9) ∈ nx' := by
          have := hFn2 _ _ _ hra9 (hs30 _ (.tail _ (.tail _ (.tail _ hra))))
          rw [this]; exact hra
        have hoffr : ∀ q ∈ [(I3, oI3), (I2, oI2), (I, oI)], q.1 ≠ ra := by
          refine fc ?_ ?_
          · exact (of_off1 hoff3.2.2 _ hra).symm
          refine fc ?_ ?_
          · exact (hoI2 _ hra).symm
          · intro q hq
            rw [List.mem_singleton.mp hq]; exact (hoI _ hra).symm
        have hin : ∀ q ∈ [(I3, oI3), (I2, oI2), (I, oI)], q ∈ (b9, listOf vs30.toArray c9) :: repl ra (listOf (vs9.set ((i : Nat) : Int).toNat (Value.ref b9)).toArray nn9) ((D31, listOf vs30.toArray c31) :: n30) := fun q hq => .tail _ (mem_repl (hs30 q (List.mem_append_left (bs := nx') hq)) (hoffr q hq))
        have hb3 : ∀ q ∈ (I3, oI3) :: (I2, oI2) :: (I, oI) :: nx', q.1 ≠ b9 := fun q hq => hb9 q (hs30 q hq)
        have hin0 : ((i : Nat) : Int).toNat = i := Int.toNat_natCast i
        have hjn0 : ((j : Nat) : Int).toNat = j := Int.toNat_natCast j
        have C4 := C3.put (S10.lp.trans S10.lr.symm) S10.nodup fr10 hFn (by rw [hii] at e2; exact e2) (by rw [hjn0] at e3; exact e3) (by rw [hii, hin0] at e4; exact e4) hr9 (b := b9) (c := c9) I30 (hvl k j i).1 (hvl k j i).2 (fun q hq => hb3 q (.tail _ (.tail _ (.tail _ hq))))
        rw [hin0] at N9 hin
        k_steps
        refine outQ9 _ _ ?_
        refine TurnEnd.intro (nx := (I2, oI2) :: (I, oI) :: (b9, listOf vs30.toArray c9) :: repl ra (listOf (vs9.set i (Value.ref b9)).toArray nn9) nx') F9 N9 (hin _ (.head _)) ?_ ?_ ⟨_, rfl, ?_, ?_, C4, by (repeat (first | refine List.forall_mem_cons.mpr ⟨rfl, ?_⟩ | exact List.forall_mem_nil _))⟩
        · refine fc ?_ ?_
          · exact hin _ (.tail _ (.head _))
          refine fc ?_ ?_
          · exact hin _ (.tail _ (.tail _ (.head _)))
          refine fc ?_ ?_
          · exact .head _
          · intro q hq
            refine hush fun GG9 out9 => ?_
            obtain ⟨q', hq', rfl⟩ := List.mem_map.mp hq
            refine out9 ?_
            clear out9 GG9
            exact .tail _ (List.mem_map.mpr ⟨q', hs30 _ (.tail _ (.tail _ (.tail _ hq'))), rfl⟩)
        · refine fc ?_ ?_
          · exact hoff3.1
          refine fc ?_ ?_
          · exact hoff3.2.1
          refine fc ?_ ?_
          · exact (hb3 _ (.head _)).symm
          · intro q hq
            exact repl_off_all (of_off1 hoff3.2.2) q hq
        · refine fc ?_ ?_
          · exact (hb3 _ (.tail _ (.tail _ (.head _)))).symm
          · intro q hq
            exact repl_off_all hoI q hq
        · refine fc ?_ ?_
          · exact (hb3 _ (.tail _ (.head _))).symm
          · intro q hq
            exact repl_off_all hoI2 q hq
      · intro m₃ nx3 h3 tk3 PP1 F N
        refine hush fun GG9 out9 => ?_
        obtain ⟨nx', rfl, hoI, hoI2, C3, e3⟩ := PP1
        have eW : (W * (cAt fd' k).a).toNat = WsOf fd' W k := rfl
        rw [eW] at C3
        refine out9 ?_
        clear out9 GG9
        k_steps
        refine outQ9 _ _ ?_
        refine TurnEnd.intro F N (.head _) (fun p hp => .tail _ hp) ?_ ⟨nx', rfl, hoI, C3.row, tl, tt, fun p hp => e3 p (List.mem_append_left (bs := [(Str.ofString "row", Value.int (j : Int) tj)]) hp)⟩
        refine fc ?_ ?_
        · exact hoff.1
        · intro q hq
          exact hoI2 q hq
    · intro m₂ nx2 h2 tk2 PP1 F N
      refine hush fun GG9 out9 => ?_
      obtain ⟨nx', rfl, hoI, C2, tl, tt, e2⟩ := PP1
      have eH : (H * (cAt fd' k).d).toNat = HsOf fd' H k := rfl
      rw [eH] at C2
      refine out9 ?_
      clear out9 GG9
      k_steps
      refine outQ9 _ _ ?_
      refine TurnEnd.intro F N (.head _) (fun p hp => .tail _ hp) hoI ⟨C2.plane, fun p hp => e2 p (List.mem_append_left (bs := [(Str.ofString "place", Value.int (k : Int) tk1), (Str.ofString "left", Value.int (x * (cAt fd k).a) tl), (Str.ofString "top", Value.int (y * (cAt fd k).d) tt), (Str.ofString "wide", Value.int (W * (cAt fd' k).a) tw)]) hp)⟩
  · intro m₁ nx h tk PP1 F N
    refine hush fun GG9 out9 => ?_
    obtain ⟨C1, e1⟩ := PP1
    have F := Fr.over0 F [(Str.ofString "grid", .ref gr), (Str.ofString "frame", .ref f), (Str.ofString "x", .int x tx), (Str.ofString "y", .int y ty), (Str.ofString "later", .ref nf), (Str.ofString "found", .ref ng)] e1
    dsimp only [over] at F
    refine out9 ?_
    clear out9 GG9
    k_steps
    apply hret
    · k_asm
    · k_asm
    · rename ∀ p : Addr × Obj, p ∈ nx → p.1 < _ => lD
      refine hush fun GG9 out9 => ?_
      obtain ⟨G', h1, h2, h3⟩ := C1.grid
      refine out9 ?_
      clear out9 GG9
      refine ⟨_, nf, ng, P, pas, rass, G', newp news n9, newp n9 nx, rfl, (G9.trans C1.grown).trans (Grown.cons (ne_of_lt lD)), .head _, hFl, newp_grow (fun p hp => .tail _ (C1.grown.sub p hp)), S10, h1, h2, ?_, ?_⟩
      · intro p hp
        exact ⟨mem_newp.mpr ⟨.tail _ (newp_sub p hp), fun q hq => (mem_newp.mp hp).2 q (G9.sub q hq)⟩, fun q hq => (mem_newp.mp hp).2 q (newp_sub q hq)⟩
      · intro k j i hk hj hi
        rw [h3 k j i ⟨hi, hj, .inl (by omega)⟩, hval]
end

theorem flush59cropg {prog : Program} {w : World} {A : Around} {E : Value → Shared → Prop} {s : Shared} {env : Env} {Q : Flow → Shared → Prop} (h : wpAny (model prog w) A (execs [] env) Q E s) : wpAny (model prog w) A (execs [] env) Q E s := by
  w_top off
  (try (walk1; fail))
  exact h
theorem ints_ok8 (is : List Int) : ∀ d ∈ is.map Dat.int, kqdOk 8 d = true := by
  intro d hd
  obtain ⟨i, _, rfl⟩ := List.mem_map.mp hd
  simp [kqdOk]
section
variable {prog : Program} {w : World} {A : Around} {E : Value → Shared → Prop} {s : Shared} {h₀ : Heap} {L a b : Addr} {news n₁ n₂ : Led} {xs ys : List Value} {ka kb : Nat} {ds : List Dat} {Q : Value → Shared → Prop}
theorem ne_same (N : News h₀ L s.heap news) (ma : (a, listOf xs.toArray ka) ∈ news) (Da : DatAll n₁ xs ds) (sa : ∀ p ∈ n₁, p ∈ news) (mb : (b, listOf ys.toArray kb) ∈ news) (Db : DatAll n₂ ys ds) (sb : ∀ p ∈ n₂, p ∈ news)
    (ha : ∀ d ∈ ds, kqdOk 8 d = true) (hu : A.units + 64 < cLine) (h : Q (.bool false) s) : wpAny (model prog w) A (compareOp .NotEq (.ref a) (.ref b)) Q E s :=
  kqd_ne N ma rfl rfl Da sa mb rfl rfl Db sb ha ha hu (by simpa using h)
theorem eq_same (N : News h₀ L s.heap news) (ma : (a, listOf xs.toArray ka) ∈ news) (Da : DatAll n₁ xs ds) (sa : ∀ p ∈ n₁, p ∈ news) (mb : (b, listOf ys.toArray kb) ∈ news) (Db : DatAll n₂ ys ds) (sb : ∀ p ∈ n₂, p ∈ news)
    (ha : ∀ d ∈ ds, kqdOk 8 d = true) (hu : A.units + 64 < cLine) (h : Q (.bool true) s) : wpAny (model prog w) A (compareOp .Eq (.ref a) (.ref b)) Q E s :=
  kqd_eq N ma rfl rfl Da sa mb rfl rfl Db sb ha ha hu (by simpa using h)
end

theorem flush60eq {prog : Program} {w : World} {A : Around} {E : Value → Shared → Prop} {s : Shared} {env : Env} {Q : Flow → Shared → Prop} (h : wpAny (model prog w) A (execs [] env) Q E s) : wpAny (model prog w) A (execs [] env) Q E s := by
  w_top off
  (try (walk1; fail))
  exact h
section
local macro_rules | `(tactic| k_fmods) => `(tactic| skip)
theorem right_con (w : World) (mean : ExcName → Option Value) (mg mb : Str → Option Value) (news : Led) (gr f gP nf ng nP : Addr) (st st2 : List Addr) (fd fd' : FD) (c0 : CD) (more : List CD) (wide high W H : Int) (gpas npas : List Addr) (grass nrass : List (List Addr)) (G G2 : Nat → Nat → Nat → Cell)
    (hF : FrameIn w news f fd) (ok : FOK fd c0 more wide high) (hG : GridIn w news st gr gP (fd.n * fd.n) gpas grass (WsOf fd wide) G) (hS : GShape fd high gP gpas grass) (hok : GOK G)
    (hFl : FrameIn w news nf fd') (ok' : FOK fd' c0 more W H) (hG2 : GridIn w news st2 ng nP (fd'.n * fd'.n) npas nrass (WsOf fd' W) G2) (hS2 : GShape fd' H nP npas nrass)
    (x y : Int) (tx ty : Tok) (hx0 : 0 ≤ x) (hy0 : 0 ≤ y) (hWx : W ≤ wide - x) (hHy : H ≤ high - y) (ec : fd'.comps = fd.comps) (en : fd'.n = fd.n)
    (hrel : ∀ k j i : Nat, k < fd.comps.length → j < HsOf fd' H k → i < WsOf fd' W k → G2 k j i = some (cellVal (fd'.n * fd'.n) (G k (y * (cAt fd k).d + (j : Int)).toNat (x * (cAt fd k).a + (i : Int)).toNat))) :
    Con w mean mg mb 241 [.ref f, .ref gr, .ref nf, .ref ng, .int x tx, .int y ty] news (fun news' r => r = .bool true ∧ Grown news news') 60 800 := by
  refine hush fun GG9 out9 => ?_
  obtain ⟨d, cl', xs, t1, t2, t3, t4, t5, t6, v1, v2, v3, v4, v6, n, n0, hf, hfd, hcl, hC⟩ := id hF
  obtain ⟨d2, cl2, xs2, s1, s2, s3, s4, s5, s6, w1, w2, w3, w4, w6, q2, q3, hf2, hfd2, hcl2, hC2⟩ := id hFl
  obtain ⟨dgo, b6, b7, b8, b9, b0, hgr, hgdg, hgP, hgPl⟩ := id hG
  obtain ⟨dg3, b1, b2, b3, b4, b5, hng, hndg, _, _⟩ := id hG2
  have hxl2 : (xs2.map Value.ref).length = fd'.comps.length := by rw [List.length_map]; exact hC2.length
  have hlen3 : fd'.comps.length ≤ 3 := ok'.len3
  have eca : ∀ k, cAt fd' k = cAt fd k := fun k => by unfold cAt; rw [ec]
  have hnn := ok'.nn
  have hWs := ok'.ws
  have hHs := ok'.hs
  have hw3 := ok.w3
  have hh3 := ok.h3
  refine out9 ?_
  clear out9 GG9
  unfold Con; k_fill
  intro dp un gd cn cs a ccd cl outer A₀ base h₀ L m s Q E B F X N T hk hd hu' hret
  refine wpAny_call ?_
  k_dflt cell_enter
  have sk9 : StopKey "compareOp NotEq ref ref" := ⟨trivial⟩
  k_steps
  rename_i h11 r11 h12 tk12 u12 v12 F12 N12 R12
  refine Stop.mk ?_
  refine for_to rfl (fun k m nx => Grown news nx ∧ ∀ p ∈ [(Str.ofString "frame", Value.ref f), (Str.ofString "grid", Value.ref gr), (Str.ofString "later", Value.ref nf), (Str.ofString "found", Value.ref ng), (Str.ofString "x", Value.int x tx), (Str.ofString "y", Value.int y ty)], m p.1 = some p.2) rfl R12 (by omega) (by omega) F12 N12 ⟨Grown.refl, by (repeat (first | refine List.forall_mem_cons.mpr ⟨rfl, ?_⟩ | exact List.forall_mem_nil _))⟩ ?_ ?_
  · clear F12 N12 R12
    intro k tk1 m₁ nx h tk I oI hi PP1 hoff F N
    refine hush fun GG9 out9 => ?_
    obtain ⟨C1, e1⟩ := PP1
    have F := Fr.over F [(Str.ofString "frame", Value.ref f), (Str.ofString "grid", Value.ref gr), (Str.ofString "later", Value.ref nf), (Str.ofString "found", Value.ref ng), (Str.ofString "x", Value.int x tx), (Str.ofString "y", Value.int y ty)] e1
    dsimp only [over] at F
    have hoff := off1_of hoff
    have hk2 : k < fd'.comps.length := by omega
    have hk' : k < fd.comps.length := by rw [← ec]; exact hk2
    have hc : fd.comps[((k : Nat) : Int).toNat]? = some (cAt fd k) := by simp [cAt, List.getD, hk']
    have hc' : fd'.comps[((k : Nat) : Int).toNat]? = some (cAt fd' k) := by rw [ec, eca]; exact hc
    obtain ⟨xk, hxk, dk, p0, p1, p2, p3, p4, p5, p6, p7, m0, hx0', hdx⟩ := hC.get hc
    have hxv : (xs.map Value.ref)[((k : Nat) : Int).toNat]? = some (.ref xk) := by rw [List.getElem?_map, hxk]; rfl
    have hf1 := C1.sub _ hf
    have hfd1 := C1.sub _ hfd
    have hcl1 := C1.sub _ hcl
    have hf21 := C1.sub _ hf2
    have hfd21 := C1.sub _ hfd2
    have hFl1 : FrameIn w nx nf fd' := hFl.mono C1.sub
    have hdn' := hHs k hk2
    have han' := hWs k hk2
    have hca := ok.ca k hk'
    refine out9 ?_
    clear out9 GG9
    refine hushQ fun QQ9 outQ9 => ?_
    k_steps
    rename_i r9 h9 tk9 u9 v9 F9 N9 R9
    have hAD0 : 0 ≤ W * (cAt fd' k).a * (H * (cAt fd' k).d) := Int.mul_nonneg (by omega) (by omega)
    have hAD1 : W * (cAt fd' k).a * (H * (cAt fd' k).d) ≤ 9 * 6 := Int.mul_le_mul (by omega) (by omega) (by omega) (by omega)
    refine Stop.mk ?_
    refine for_to rfl (fun j m nx2 => ∃ nx', nx2 = (I, oI) :: nx' ∧ (∀ p ∈ nx', p.1 ≠ I) ∧ Grown news nx' ∧ ∃ ta, ∀ p ∈ [(Str.ofString "frame", Value.ref f), (Str.ofString "grid", Value.ref gr), (Str.ofString "later", Value.ref nf), (Str.ofString "found", Value.ref ng), (Str.ofString "x", Value.int x tx), (Str.ofString "y", Value.int y ty), (Str.ofString "place", Value.int (k : Int) tk1), (Str.ofString "across", Value.int (W * (cAt fd' k).a) ta), (Str.ofString "one", Value.ref xk)], m p.1 = some p.2) rfl R9 (by omega) (by omega) F9 (News.sub (news := (I, oI) :: nx) N9 ?_) ⟨nx, rfl, of_off1 hoff, C1, _, by (repeat (first | refine List.forall_mem_cons.mpr ⟨rfl, ?_⟩ | exact List.forall_mem_nil _))⟩ ?_ ?_
    · intro p hp; simp only [List.mem_cons] at hp ⊢; rcases hp with h | h <;> simp [h]
    · clear F9 N9 R9 hf1 hfd1 hcl1 hFl1 hf21 hfd21 C1 e1 hoff F N
      intro j tj m₂ nx2 h2 tk2 I2 oI2 hj PP1 hoff F N
      refine hush fun GG9 out9 => ?_
      obtain ⟨nx', rfl, hoI, C2, ta, e2⟩ := PP1
      have F := Fr.over F [(Str.ofString "frame", Value.ref f), (Str.ofString "grid", Value.ref gr), (Str.ofString "later", Value.ref nf), (Str.ofString "found", Value.ref ng), (Str.ofString "x", Value.int x tx), (Str.ofString "y", Value.int y ty), (Str.ofString "place", Value.int (k : Int) tk1), (Str.ofString "across", Value.int (W * (cAt fd' k).a) ta), (Str.ofString "one", Value.ref xk)] e2
      dsimp only [over] at F
      have hoff := off1_of hoff
      simp only [LCg.Off1] at hoff
      have hA1 : W * (cAt fd' k).a ≠ 0 := by omega
      have hj2 : (j : Int) < W * (cAt fd' k).a * (H * (cAt fd' k).d) := jlt hj
      obtain ⟨hsy0, hsy1, hsx0, hsx1⟩ := spot_at (Int.natCast_nonneg j) hj2 (by omega)
      have hsy1' : (j : Int).fdiv (W * (cAt fd' k).a) < H * (cAt fd k).d := by rw [← eca k]; exact hsy1
      have hsx1' : (j : Int).fmod (W * (cAt fd' k).a) < W * (cAt fd k).a := by have := hsx1; rw [← eca k]; exact this
      obtain ⟨hyb0, hyb⟩ := mul_le_ad (w := high) hca.2.2.1 (by omega) hy0 hHy hsy0 hsy1'
      obtain ⟨hxb0, hxb⟩ := mul_le_ad (w := wide) hca.1 hca.2.1 hx0 hWx hsx0 hsx1'
      have hWo := ok.ws k hk'
      have hHo := ok.hs k hk'
      have hii : ((k : Nat) : Int).toNat = k := Int.toNat_natCast k
      have hyN : (y * (cAt fd k).d + (j : Int).fdiv (W * (cAt fd' k).a)).toNat < HsOf fd high k := by show _ < (high * (cAt fd k).d).toNat; exact tlt hyb hHo.1
      have hxN : (x * (cAt fd k).a + (j : Int).fmod (W * (cAt fd' k).a)).toNat < WsOf fd wide k := by show _ < (wide * (cAt fd k).a).toNat; exact tlt hxb hWo.1
      refine out9 ?_
      clear out9 GG9
      refine hushQ fun QQ9 outQ9 => ?_
      obtain ⟨gp, ge1⟩ : ∃ p, gpas[((k : Nat) : Int).toNat]? = some p := ⟨_, List.getElem?_eq_getElem (by rw [hii, hS.lp]; exact hk')⟩
      obtain ⟨gras, ge2⟩ : ∃ ras, grass[((k : Nat) : Int).toNat]? = some ras := ⟨_, List.getElem?_eq_getElem (by rw [hii, hS.lr]; exact hk')⟩
      have hgrl : gras.length = HsOf fd high k := by rw [hii] at ge2; exact hS.hts _ _ ge2
      obtain ⟨gra, ge3⟩ : ∃ ra, gras[(y * (cAt fd k).d + (j : Int).fdiv (W * (cAt fd' k).a)).toNat]? = some ra := ⟨_, List.getElem?_eq_getElem (by rw [hgrl]; exact hyN)⟩
      refine hush fun GG9 out9 => ?_
      obtain ⟨n2, hgp, hgrow⟩ := hgPl _ gp gras ge1 ge2
      obtain ⟨gvs, n3, hgra, hgvl, hgcell⟩ := hgrow _ gra ge3
      refine out9 ?_
      clear out9 GG9
      obtain ⟨v, hv⟩ : ∃ v, gvs[(x * (cAt fd k).a + (j : Int).fmod (W * (cAt fd' k).a)).toNat]? = some v := ⟨_, List.getElem?_eq_getElem (by rw [hgvl, hii]; exact hxN)⟩
      have hcv := hgcell _ _ hv
      rw [hii] at hcv
      have gi1 : (gpas.map Value.ref)[((k : Nat) : Int).toNat]? = some (.ref gp) := by rw [List.getElem?_map, ge1]; rfl
      have gi2 : (gras.map Value.ref)[(y * (cAt fd k).d + (j : Int).fdiv (W * (cAt fd' k).a)).toNat]? = some (.ref gra) := by rw [List.getElem?_map, ge3]; rfl
      obtain ⟨p, e1⟩ : ∃ p, npas[((k : Nat) : Int).toNat]? = some p := ⟨_, List.getElem?_eq_getElem (by rw [hii, hS2.lp]; exact hk2)⟩
      obtain ⟨ras, e2⟩ : ∃ ras, nrass[((k : Nat) : Int).toNat]? = some ras := ⟨_, List.getElem?_eq_getElem (by rw [hii, hS2.lr]; exact hk2)⟩
      have hrl : ras.length = (H * (cAt fd' k).d).toNat := by rw [hii] at e2; exact hS2.hts _ _ e2
      obtain ⟨ra, e3⟩ : ∃ ra, ras[((j : Int).fdiv (W * (cAt fd' k).a)).toNat]? = some ra := ⟨_, List.getElem?_eq_getElem (by rw [hrl]; exact tlt hsy1 hdn'.1)⟩
      have e4 : ((j : Int).fmod (W * (cAt fd' k).a)).toNat < WsOf fd' W ((k : Nat) : Int).toNat := by rw [hii]; show _ < (W * (cAt fd' k).a).toNat; exact tlt hsx1 han'.1
      have hs6 := l6k hsy1 hdn'.2
      have hs9 := l9k hsx1 han'.2
      have hk1 := c1k hk' (ec ▸ hlen3)
      have hm0 : 0 ≤ fd'.n * fd'.n := by omega
      have hm1 : fd'.n * fd'.n ≤ 4 := by omega
      have hval := hrel k ((j : Int).fdiv (W * (cAt fd' k).a)).toNat ((j : Int).fmod (W * (cAt fd' k).a)).toNat hk' (by show _ < (H * (cAt fd' k).d).toNat; exact tlt hsy1 hdn'.1) (by rw [hii] at e4; exact e4)
      rw [Int.toNat_of_nonneg hsy0, Int.toNat_of_nonneg hsx0] at hval
      have hsx : ∀ p ∈ news, p ∈ nx' := C2.sub
      have hg0 := hsx _ hgr
      have hgd := hsx _ hgdg
      have hgP1 := hsx _ hgP
      have hgp1 := hsx _ hgp
      have hgra1 := hsx _ hgra
      have hf1 := hsx _ hf
      have hfd1 := hsx _ hfd
      have hx1 := hsx _ hx0'
      have hdx1 := hsx _ hdx
      have hng1 := hsx _ hng
      have hndg1 := hsx _ hndg
      have hn1 := ok.n1
      have hn2 := ok.n2
      have hnn0 : 0 ≤ fd.n * fd.n := by rw [← en]; omega
      have hnn1 : fd.n * fd.n ≤ 256 := by rw [← en]; omega
      cases hGc : G k (y * (cAt fd k).d + (j : Int).fdiv (W * (cAt fd' k).a)).toNat (x * (cAt fd k).a + (j : Int).fmod (W * (cAt fd' k).a)).toNat with
      | none =>
        rw [hGc] at hcv hval
        have hcv : v = .none := hcv
        subst hcv
        k_steps
        refine Stop.mk ?_
        k_dflt (refine' Con.use (get_con' w mean mg mb _ st2 ng nP (fd'.n * fd'.n) npas nrass (WsOf fd' W) G2 (hG2.mono ?sub) ?m0 ?m1 _ _ _ _ _ _ p ras ra ?k0 ?k1 ?y0 ?y1 ?x0 ?x1 e1 e2 e3 e4) ?B ?F ?X ?N ?T ?hk ?hd ?hu ?_)
        case N => k_asm
        case sub => exact fun q hq => by repeat (first | exact hsx q hq | refine List.Mem.tail _ ?_)
        case m0 => omega
        case m1 => omega
        case k0 => omega
        case k1 => omega
        case y0 => omega
        case y1 => omega
        case x0 => omega
        case x1 => omega
        case B => k_asm
        case F => k_asm
        case X => k_asm
        case T => k_asm
        case hk => exact rfl
        case hd => ktr_room
        case hu => ktr_units
        k_whole
        intro r30 n30 h30 tk30 F30 N30 PP1
        refine hush fun GG9 out9 => ?_
        obtain ⟨b30, vs30, c30, rfl, I30, W30, hb30⟩ := PP1
        refine out9 ?_
        clear out9 GG9
        try dsimp only
        try k_fold
        rw [hii, hval] at I30
        have I30 : IntsAre vs30 (List.replicate (fd'.n * fd'.n).toNat 0) := I30
        have hl30 : vs30.length ≤ 1000 := by
          rw [I30.length]
          rw [List.length_replicate]; omega
        k_steps
        rename_i D31 c31 h31 F31 N31 l31
        refine Stop.mk ?_
        refine ne_same (n₁ := []) (n₂ := []) (N := by k_asm) (.head _) (ints_dat I30) (fun _ h => nomatch h) (.tail _ (W30.sub _ (.head _))) (ints_dat (by rw [en]; exact ints_rep0 _ _)) (fun _ h => nomatch h) (ints_ok8 _) (by ktr_units) ?_
        k_steps
        refine outQ9 _ _ ?_
        refine TurnEnd.intro (nx := (I, oI) :: nx') F31 N31 (.tail _ (W30.sub _ (.tail _ (.tail _ (.head _))))) (fun q hq => .tail _ (W30.sub _ ?_)) ?_ ⟨nx', rfl, hoI, C2, ta, by (repeat (first | refine List.forall_mem_cons.mpr ⟨rfl, ?_⟩ | exact List.forall_mem_nil _))⟩
        · repeat (first | exact hq | refine List.Mem.tail _ ?_)
        · refine fc ?_ ?_
          · exact hoff.1
          · intro q hq
            exact of_off1 hoff.2 q hq
      | some is =>
        rw [hGc] at hcv hval
        refine hush fun GG9 out9 => ?_
        obtain ⟨b, bvs, nb, rfl, hb, hbi, hst⟩ := hcv
        have hb1 := hsx _ hb
        have hbl : bvs.length ≤ 1000 := by rw [hbi.length]; exact (hok _ _ _ _ hGc).2
        refine out9 ?_
        clear out9 GG9
        k_steps
        refine Stop.mk ?_
        k_dflt (refine' Con.use (get_con' w mean mg mb _ st2 ng nP (fd'.n * fd'.n) npas nrass (WsOf fd' W) G2 (hG2.mono ?sub) ?m0 ?m1 _ _ _ _ _ _ p ras ra ?k0 ?k1 ?y0 ?y1 ?x0 ?x1 e1 e2 e3 e4) ?B ?F ?X ?N ?T ?hk ?hd ?hu ?_)
        case N => k_asm
        case sub => exact fun q hq => by repeat (first | exact hsx q hq | refine List.Mem.tail _ ?_)
        case m0 => omega
        case m1 => omega
        case k0 => omega
        case k1 => omega
        case y0 => omega
        case y1 => omega
        case x0 => omega
        case x1 => omega
        case B => k_asm
        case F => k_asm
        case X => k_asm
        case T => k_asm
        case hk => exact rfl
        case hd => ktr_room
        case hu => ktr_units
        k_whole
        intro r30 n30 h30 tk30 F30 N30 PP1
        refine hush fun GG9 out9 => ?_
        obtain ⟨b30, vs30, c30, rfl, I30, W30, hb30⟩ := PP1
        refine out9 ?_
        clear out9 GG9
        try dsimp only
        try k_fold
        rw [hii, hval] at I30
        have I30 : IntsAre vs30 is := I30
        have hl30 : vs30.length ≤ 1000 := by
          rw [I30.length]
          exact (hok _ _ _ _ hGc).2
        k_steps
        rename_i D31 c31 h31 F31 N31 l31
        refine Stop.mk ?_
        refine ne_same (n₁ := []) (n₂ := []) (N := by k_asm) (.head _) (ints_dat I30) (fun _ h => nomatch h) (.tail _ (W30.sub _ (.head _))) (ints_dat hbi) (fun _ h => nomatch h) (ints_ok8 _) (by ktr_units) ?_
        k_steps
        refine outQ9 _ _ ?_
        refine TurnEnd.intro (nx := (I, oI) :: nx') F31 N31 (.tail _ (W30.sub _ (.tail _ (.head _)))) (fun q hq => .tail _ (W30.sub _ ?_)) ?_ ⟨nx', rfl, hoI, C2, ta, by (repeat (first | refine List.forall_mem_cons.mpr ⟨rfl, ?_⟩ | exact List.forall_mem_nil _))⟩
        · repeat (first | exact hq | refine List.Mem.tail _ ?_)
        · refine fc ?_ ?_
          · exact hoff.1
          · intro q hq
            exact of_off1 hoff.2 q hq
    · intro m₂ nx2 h2 tk2 PP1 F N
      refine hush fun GG9 out9 => ?_
      obtain ⟨nx', rfl, hoI, C2, ta, e2⟩ := PP1
      refine out9 ?_
      clear out9 GG9
      k_steps
      refine outQ9 _ _ ?_
      refine TurnEnd.intro F N (.head _) (fun p hp => .tail _ hp) hoI ⟨C2, fun p hp => e2 p (List.mem_append_left (bs := [(Str.ofString "place", Value.int (k : Int) tk1), (Str.ofString "across", Value.int (W * (cAt fd' k).a) ta), (Str.ofString "one", Value.ref xk)]) hp)⟩
  · intro m₁ nx h tk PP1 F N
    refine hush fun GG9 out9 => ?_
    obtain ⟨C1, e1⟩ := PP1
    refine out9 ?_
    clear out9 GG9
    k_steps
    apply hret
    · k_asm
    · k_asm
    · exact ⟨rfl, C1⟩
end

theorem flush61right {prog : Program} {w : World} {A : Around} {E : Value → Shared → Prop} {s : Shared} {env : Env} {Q : Flow → Shared → Prop} (h : wpAny (model prog w) A (execs [] env) Q E s) : wpAny (model prog w) A (execs [] env) Q E s := by
  w_top off
  (try (walk1; fail))
  exact h
theorem News.drop2 {h₀ h : Heap} {L : Addr} {p q : Addr × Obj} {r : Led} (N : News h₀ L h (p :: q :: r)) : News h₀ L h (p :: r) := News.sub N <| by
  refine fc ?_ ?_
  · exact .head _
  · intro x hx
    exact .tail _ (.tail _ hx)
theorem urn_hi (x : Int) : 0 ≤ x.fmod 999983 + 77 ∧ x.fmod 999983 + 77 < 2147483647 := by
  have h1 := fmod_lo x (n := 999983) (by omega)
  have h2 := fmod_hi x (n := 999983) (by omega)
  omega
theorem ne_nil {prog : Program} {w : World} {A : Around} {E : Value → Shared → Prop} {s : Shared} {h₀ : Heap} {L S b : Addr} {news : Led} {vs : List Value} {ns : List Int} {kb : Nat} {Q : Value → Shared → Prop}
    (N : News h₀ L s.heap news) (hS : s.heap.IsList S vs.toArray) (hi : IntsAre vs ns) (mb : (b, listOf #[] kb) ∈ news) (hu : A.units + 64 < cLine) (h : Q (.bool (decide (vs ≠ []))) s) : wpAny (model prog w) A (compareOp .NotEq (.ref S) (.ref b)) Q E s := by
  obtain ⟨o, ho, hc, n, hd⟩ := hS
  have hk := ints_ok8 ns
  obtain ⟨as, ra⟩ := kqd_all N 8 ((ints_dat (nn := []) hi).mono (fun _ h => by cases h)) hk
  have la := kqd_lay 9 (.list (ns.map Dat.int)) (by simpa [kqdOk] using hk)
  rw [kqdP] at la
  refine ne_dataH (reads_list_at ho hc hd (by simpa using ra)) (reads_list_at (N.get mb) rfl rfl .nil) ?_ (by decide) hu ?_
  · unfold SeqAt.shaped; rw [la.1, Bool.true_and]; exact decide_eq_true (Nat.le_trans la.2 (by decide))
  · cases hi with
    | nil => exact h
    | cons => exact h
section
theorem urn_con (w : World) (mean : ExcName → Option Value) (mg mb : Str → Option Value) (news : Led) (S : Addr) (vs : List Value) (ns : List Int) (hi : IntsAre vs ns) :
    ∀ (dp un' : Nat) (gd : Option (List Code)) (cn : Str) (cs : Scope) (a : Addr) (ccd : Value) (cl : List (Str × Addr)) (outer : List Env) (A₀ : Around) (base h₀ : Heap) (L : Addr) (m : Str → Option Value) (s : Shared) (Q E : Value → Shared → Prop),
    Below A₀ base outer h₀ → Fr h₀ L s.heap m → (hd.heap_39 w.params).In h₀ → News h₀ L s.heap news → Top hd.view_39 (looseW hd.view_39 []) mean mg mb h₀ → cs.kind = .function →
    dp + 5 < recursionLimit → un' + 200 < cLine → h₀.IsList S vs.toArray →
    (∀ r news' h' tk', Fr h₀ L h' m → News h₀ L h' news' → (∃ u o, r = .ref u ∧ UrnObj o ∧ news' = (u, o) :: news ∧ ∀ p ∈ news, p.1 < u) → Q r { s with heap := h', toks := tk' }) →
    wpAny (model PySem.Challenge.rw_pf0232_01.row.prog w) (ktrTop dp un' gd cn cs L a ccd cl outer) (call (.ref 208) [.ref S]) Q E s := by
  k_fill
  intro dp un gd cn cs a ccd cl outer A₀ base h₀ L m s Q E B F X N T hk hd hu' hS hret
  have lk : ∀ {x y : Heap} {ar : Array Value}, (∀ b o, x.get? b = some o → y.get? b = some o) → x.IsList S ar → y.IsList S ar := fun k ⟨o, ho, r⟩ => ⟨o, k _ _ ho, r⟩
  refine wpAny_call ?_
  k_dflt cell_enter
  rename Fr h₀ L _ m => FG
  have hS' := lk FG.keep hS
  have sk9 : StopKey "subscriptTail" := ⟨trivial⟩
  have sk8 : StopKey "compareOp NotEq ref ref" := ⟨trivial⟩
  k_steps
  rename_i tk0 l1 h1 F1 N1 lt1
  refine Stop.mk ?_
  refine ne_nil N1 (lk F1.keep hS') hi (.head _) (by ktr_units) ?_
  cases hi
  all_goals k_steps
  all_goals
    rename News h₀ L _ ((_, _) :: (_, _) :: news) => kN
    rename _ ∧ AllLt _ news => lN
    apply hret
    · k_asm
    · exact News.drop2 kN
    · refine ⟨_, _, rfl, ⟨_, _, _, _, _, rfl, ?_, ?_, ?_⟩, rfl, lt_allLt lN.2⟩
      · omega
      · exact (urn_hi _).1
      · exact (urn_hi _).2
end

theorem flush62urn {prog : Program} {w : World} {A : Around} {E : Value → Shared → Prop} {s : Shared} {env : Env} {Q : Flow → Shared → Prop} (h : wpAny (model prog w) A (execs [] env) Q E s) : wpAny (model prog w) A (execs [] env) Q E s := by
  w_top off
  (try (walk1; fail))
  exact h
/-- what stands beside three named entries -/
def rst (c1 c2 u : Addr) (n : Led) : Led := drop c1 (drop c2 (drop u n))
theorem News.norm3 {h₀ h : Heap} {L c1 c2 u : Addr} {o1 o2 o3 : Obj} {n : Led} (N : News h₀ L h n) (m1 : (c1, o1) ∈ n) (m2 : (c2, o2) ∈ n) (m3 : (u, o3) ∈ n) : News h₀ L h ((c1, o1) :: (c2, o2) :: (u, o3) :: rst c1 c2 u n) := by
  refine fc ?_ ?_
  · exact N _ m1
  refine fc ?_ ?_
  · exact N _ m2
  refine fc ?_ ?_
  · exact N _ m3
  · intro p hp
    exact N _ (drop_sub (drop_sub (drop_sub hp)))
theorem rst_off {c1 c2 u : Addr} {n : Led} : ∀ p ∈ rst c1 c2 u n, p.1 ≠ c1 ∧ p.1 ≠ c2 ∧ p.1 ≠ u := fun p hp => ⟨drop_off p hp, drop_off p (drop_sub hp), drop_off p (drop_sub (drop_sub hp))⟩
theorem mem_rst {c1 c2 u : Addr} {n : Led} {p : Addr × Obj} (hp : p ∈ n) (h1 : p.1 ≠ c1) (h2 : p.1 ≠ c2) (h3 : p.1 ≠ u) : p ∈ rst c1 c2 u n := mem_drop (mem_drop (mem_drop hp h3) h2) h1
theorem rst_sub {c1 c2 u : Addr} {n : Led} {p : Addr × Obj} (hp : p ∈ rst c1 c2 u n) : p ∈ n := drop_sub (drop_sub (drop_sub hp))
theorem dat_ref {n : Led} {r : Value} {ds : List Dat} (h : DatIn n r (.list ds)) : ∃ a vs k, r = .ref a ∧ (a, listOf vs.toArray k) ∈ n ∧ DatAll n vs ds := by
  cases h with
  | list hm hr => exact ⟨_, _, _, rfl, hm, hr⟩
theorem dat_new {a b : Led} {r : Value} {ds : List Dat} (D : DatIn (newp a b) r (.list ds)) : ∃ dA ad vs k, r = .ref ad ∧ (ad, listOf vs.toArray k) ∈ dA ∧ DatAll dA vs ds ∧ ∀ p ∈ dA, p ∈ b ∧ ∀ q ∈ a, q.1 ≠ p.1 := by
  obtain ⟨ad, vs, k, rfl, hm, hd⟩ := dat_ref D
  exact ⟨_, ad, vs, k, rfl, hm, hd, fun p hp => mem_newp.mp hp⟩
theorem News.norm {h₀ h : Heap} {L c1 c2 u : Addr} {o1 o2 o3 : Obj} {n : Led} (N : News h₀ L h n) (m1 : (c1, o1) ∈ n) (m2 : (c2, o2) ∈ n) (m3 : (u, o3) ∈ n) :
    ∃ R, News h₀ L h ((c1, o1) :: (c2, o2) :: (u, o3) :: R) ∧ (∀ p ∈ R, p.1 ≠ c1 ∧ p.1 ≠ c2 ∧ p.1 ≠ u) ∧ ∀ p ∈ n, p.1 ≠ c1 → p.1 ≠ c2 → p.1 ≠ u → p ∈ R :=
  ⟨_, News.norm3 N m1 m2 m3, rst_off, fun _ hp h1 h2 h3 => mem_rst hp h1 h2 h3⟩
theorem off_split {c1 c2 u : Addr} {R : Led} (h : ∀ p ∈ R, p.1 ≠ c1 ∧ p.1 ≠ c2 ∧ p.1 ≠ u) : (∀ p ∈ R, p.1 ≠ c1) ∧ (∀ p ∈ R, p.1 ≠ c2) ∧ ∀ p ∈ R, p.1 ≠ u := ⟨fun p hp => (h p hp).1, fun p hp => (h p hp).2.1, fun p hp => (h p hp).2.2⟩
theorem News.opaque {h₀ h : Heap} {L : Addr} {n : Led} (N : News h₀ L h n) : ∃ n', News h₀ L h n' ∧ ∀ p ∈ n, p ∈ n' := ⟨_, N, fun _ h => h⟩

theorem flush63norm {prog : Program} {w : World} {A : Around} {E : Value → Shared → Prop} {s : Shared} {env : Env} {Q : Flow → Shared → Prop} (h : wpAny (model prog w) A (execs [] env) Q E s) : wpAny (model prog w) A (execs [] env) Q E s := by
  w_top off
  (try (walk1; fail))
  exact h
/-- «except C:» where a FrameError flies -/
theorem caught_FX {prog : Program} {w : World} {A₀ : Around} {E : Value → Shared → Prop} {s' : Shared} {h₀ h : Heap} {outer : List Env} {L a e : Addr} {m : Str → Option Value} {name : Str} {scope : Scope} {cd : Value} {cl : List (Str × Addr)}
    {b₀ : Stmt} {suite : List Stmt} {pos np : Pos} {rest : List ExceptHandler} {Q : Flow → Shared → Prop} {news : Led} {KF : Frag} {C : Addr} {bm : List Value}
    {p : Program} {loose : List Str} {mg mb : Str → Option Value} {x : Str} (K : Below A₀ h₀ outer h₀) (F : Fr h₀ L h m) (hsm : h.UpToSlots s'.heap) (R : RaisedX h₀ (envX name scope L a cd cl :: outer) e (.ref C) news s'.heap)
    (X : KF.In h₀) (T : TopRead p loose mg mb h₀) (ex : nsIn KF mainGlobals x = some (some (.ref C))) (q : fexIn KF C bm = true) (hbase : bm.contains (.type "BaseException") = true)
    (k : ∀ h' oe vs, oe.data = .fields vs → vs[2]? = some .none → Fr h₀ L h' m → News h₀ L h' ((e, oe) :: news) →
      wpAny (model prog w) ((A₀.deeper (envX name scope L a cd cl)).mark (some (.ref e))) (execs (b₀ :: suite) (envX name scope L a cd cl)) Q E { s' with heap := h' })
    (hk : scope.kind = .function := by rfl) (hx : (envX name scope L a cd cl).kindOf x = some .globalImplicit := by rfl) (hd : (x == ("__debug__" : Str)) = false := by decide)
    (hE : PassesOwnAt (model prog w) ((A₀.deeper (envX name scope L a cd cl)).mark (some (.ref e))) (A₀.deeper (envX name scope L a cd cl)) (envX name scope L a cd cl) E := by passes_own) :
    wpAny (model prog w) (A₀.deeper (envX name scope L a cd cl)) (noteFrame (.ref e) (envX name scope L a cd cl))
      (fun _ s₂ => wpAny (model prog w) (A₀.deeper (envX name scope L a cd cl)) (setFlight (.ref e) none) (fun _ s₃ =>
        wpAny (model prog w) (A₀.deeper (envX name scope L a cd cl)) (handleBy (.ref e) (envX name scope L a cd cl) (.ExceptHandler (some (.Name x np)) none (b₀ :: suite) pos :: rest)) Q E s₃) E s₂) E s' := by
  obtain ⟨B, hB, hl, hbe, hfl⟩ := R
  have stay : ∀ {h' : Heap} {fl : Value}, Fly B (envX name scope L a cd cl :: outer) e (.ref C) fl h' → h₀.StaysIn h' := fun z b o q => z.1 b o (hB b o q)
  refine note_next (Around.frames_deeper K.stack) rfl hfl fun h₄ hheld₄ hsm₄ => ?_
  refine setFlight_fly hheld₄ fun h₅ hheld hsm₅' => ?_
  have hsm₅ := hsm₄.trans hsm₅'
  have F₅ := F.of_stays (stay hheld) (hsm.trans hsm₅)
  obtain ⟨ob, ws, hob, hobc, _⟩ := hheld.there
  refine wpAny_handleBy_cons (codeAny_handlers_test (nameX_K F₅ X T ex ?_ hk hx hd)) (by intro q; cases q)
  obtain ⟨nm, qn, NN, bs, hdct, sn, sub, ab, col, dd, k0, k1, k2, k3, k5, hC⟩ := fex_of (X.keeps F₅.keep) q
  refine wpAny_excMatches_sub_self hC hob hobc hbase (codeAny_handlers_suite ?_)
  refine setFlight_fly hheld fun h₆ hfl₆ hsm₆ => ?_
  have F₆ := F.of_stays (stay hfl₆) ((hsm.trans hsm₅).trans hsm₆)
  obtain ⟨ob6, ws6, hob6, _, hd6, h26⟩ := hfl₆.there
  have hframes : ∀ b ∈ (envX name scope L a cd cl :: outer).filterMap (·.frame), b ≠ e := fun b hb z => by
    obtain ⟨_, o, ho, hn⟩ := hfl₆.2.2.1.mem hb
    rw [z, hob6] at ho; cases ho; exact hn _ hd6
  have hLB : B.get? L = none := (hfl₆.2.2.1.mem (List.mem_filterMap.mpr ⟨_, .head _, rfl⟩)).1
  refine wpAny_passesOwnAt hE (k h₆ ob6 ws6 hd6 h26 F₆ fun q hq => ?_)
  rcases List.mem_cons.mp hq with rfl | hq
  · exact ⟨hob6, (hframes L (List.mem_filterMap.mpr ⟨_, .head _, rfl⟩)).symm, hbe⟩
  · exact ⟨hfl₆.1 _ _ (hl q hq).1, (fun z => by have := (hl q hq).1; rw [z, hLB] at this; cases this), (hl q hq).2⟩

theorem flush64caught {prog : Program} {w : World} {A : Around} {E : Value → Shared → Prop} {s : Shared} {env : Env} {Q : Flow → Shared → Prop} (h : wpAny (model prog w) A (execs [] env) Q E s) : wpAny (model prog w) A (execs [] env) Q E s := by
  w_top off
  (try (walk1; fail))
  exact h
/-- what is handled stands in the heap, without a context -/
def HOk (hnd : Option Value) (h : Heap) : Prop := ∀ v, hnd = some v → ∃ e ob vs, v = .ref e ∧ h.get? e = some ob ∧ ob.data = .fields vs ∧ vs[2]? = some .none
def HIn (hnd : Option Value) (news : Led) : Prop := ∀ v, hnd = some v → ∃ e ob vs, v = .ref e ∧ (e, ob) ∈ news ∧ ob.data = .fields vs ∧ vs[2]? = some .none
theorem HIn.mono {hnd : Option Value} {news news' : Led} (h : HIn hnd news) (hs : ∀ p ∈ news, p ∈ news') : HIn hnd news' := fun v e => by
  obtain ⟨x, ob, vs, a, b, c⟩ := h v e
  exact ⟨x, ob, vs, a, hs _ b, c⟩
theorem HIn.none {news : Led} : HIn none news := fun v e => nomatch e
theorem HIn.ok {hnd : Option Value} {news : Led} {h₀ h : Heap} {L : Addr} (x : HIn hnd news) (N : News h₀ L h news) : HOk hnd h := fun v e => by
  obtain ⟨x, ob, vs, a, b, c⟩ := x v e
  exact ⟨x, ob, vs, a, (N _ b).1, c⟩
theorem HOk.keeps {hnd : Option Value} {h h' : Heap} (x : HOk hnd h) (k : ∀ e ob vs, hnd = some (.ref e) → h.get? e = some ob → ob.data = .fields vs → h'.get? e = some ob) : HOk hnd h' := fun v e => by
  obtain ⟨x, ob, vs, rfl, b, c, d⟩ := x v e
  exact ⟨x, ob, vs, rfl, k _ _ _ e b c, c, d⟩
section
variable {prog : Program} {w : World} {A : Around} {E : Value → Shared → Prop} {s : Shared}
theorem unchain_at {e e' : Addr} {ob : Obj} {vs : Array Value} {Q : Value → Shared → Prop} (he : s.heap.get? e = some ob) (hd : ob.data = .fields vs) (h2 : vs[2]? = some .none) (h : Q .none s) :
    wpAny (model prog w) A (runValue (.builtin "proto.unchain" ⟨[.ref e', .ref e, .ref e, .bool false], []⟩)) Q E s := by
  refine wpAny_runValue (codeAny_builtin (b := Builtin.«proto.unchain») (entryFor_of_fast (by kernel_rfl)) ?_)
  unfold Builtin.«proto.unchain»
  refine wpAny_bind (wpAny_field he hd h2 ?_)
  show wpAny _ _ (ret .none) _ _ _
  exact wpAny_pure h
theorem updField {a : Addr} {i : Nat} {v : Value} {o : Obj} {vs : Array Value} {Q : Unit → Shared → Prop} (ho : s.heap.get? a = some o) (hd : o.data = .fields vs) (hi : i < vs.size) (h : Q () { s with heap := s.heap.update a (Obj.mapFields (·.setIfInBounds i v)) }) :
    wpAny (model prog w) A (updateField a i v) Q E s := by
  obtain ⟨c, d, dt, sl⟩ := o
  simp only at hd; subst hd
  unfold updateField
  refine wpAny_bind (wpAny_load ho ?_)
  dsimp only
  rw [if_pos hi]
  exact wpAny_update ho h
/-- an exception's raise where another is handled -/
theorem raiseNew_hand {α : Type} {x : Addr} {o : Obj} {vs : Array Value} {Q : α → Shared → Prop} (hO : HOk A.handled s.heap) (hx : s.heap.get? x = some o) (hd : o.data = .fields vs) (hz : 2 < vs.size)
    (h : ∀ h', (∀ b ob, b ≠ x → s.heap.get? b = some ob → h'.get? b = some ob) → (∃ o', h'.get? x = some o' ∧ o'.cls = o.cls) → E (.ref x) { s with heap := h' }) : wpAny (model prog w) A (raiseNew (.ref x) : Sem α) Q E s := by
  unfold raiseNew
  refine wpAny_bind (wpAny_handled ?_)
  cases hh : A.handled with
  | none => exact wpAny_bind (wpAny_pure (wpAny_throw (h _ (fun _ _ _ q => q) ⟨_, hx, rfl⟩)))
  | some v =>
    obtain ⟨e, ob, ws, rfl, he, hde, h2⟩ := hO v hh
    dsimp only
    by_cases hne : (Value.ref e != Value.ref x) = true
    · rw [if_pos hne]
      refine wpAny_bind (wpAny_holding (unchain_at he hde h2 ?_))
      refine wpAny_bind (updField hx hd hz (wpAny_throw (h _ (fun b ob hb q => (Heap.get?_update_other _ _ (Ne.symm hb)).trans q) ?_)))
      exact ⟨_, Heap.get?_update_self _ hx (Obj.isFreed_of_fields (Obj.data_mapFields hd _)), Obj.cls_mapFields ..⟩
    · rw [if_neg hne]
      exact wpAny_bind (wpAny_pure (wpAny_throw (h _ (fun _ _ _ q => q) ⟨_, hx, rfl⟩)))
theorem list_end_hand {it l : Addr} {i : Nat} {items : Array Value} {Q : Option Value → Shared → Prop} (hO : HOk A.handled s.heap)
    (hit : s.heap.IsListIter it l i) (hl : s.heap.IsList l items) (hx : items[i]? = none) (hne : ∀ e, A.handled = some (.ref e) → e ≠ it)
    (hQ : ∀ h', Heap.ExtBut it s.heap h' → Q none { s with heap := h' }) : wpAny (model prog w) A (pyNext (.ref it)) Q E s := by
  obtain ⟨o, ho, hc, hd⟩ := id hit
  obtain ⟨ol, hol, _, nl, hdl⟩ := hl
  unfold pyNext
  refine wpAny_bind (wpAny_attempt (wpAny_callSpecial?_slot (name := Str.ofString "__next__") hit.typeIs slot_listiter_next
    (wpAny_call_entry slot_listiter_next hit.typeIs entry_listiter_next ?_ (args_listiter_next _))))
  show wpAny _ _ (field (.ref it) 0 >>= _) _ _ s
  refine wpAny_bind (wpAny_field ho hd (x := .ref l) rfl ?_)
  show wpAny _ _ (if (Value.ref l == Value.none) = true then _ else _) _ _ s
  rw [if_neg (show ¬ ((Value.ref l == Value.none) = true) from Bool.false_ne_true)]
  show wpAny _ _ (field (.ref it) 1 >>= _) _ _ s
  refine wpAny_bind (wpAny_field ho hd (x := .int i 0) rfl ?_)
  show wpAny _ _ (seqItems? (.ref l) >>= _) _ _ s
  refine wpAny_bind (wpAny_seqItems hol hdl ?_)
  simp only [Int.toNat_natCast, hx]
  refine wpAny_bind (wpAny_rule (wpAny_bind (wpAny_setField ho hd (by simp) ?_)))
  show wpAny _ _ (newExc (.type "StopIteration") [] >>= _) _ _ _
  refine wpAny_bind ?_
  simp only [newExc, newTuple]
  refine wpAny_bind (wpAny_newObj_type ?_ (by size_fits))
  refine wpAny_bind (m := firstArgMember _ _) (wpAny_of_eq (a := Value.none) (by first | rfl | (simp only [firstArgMember]; rfl)) ?_)
  refine wpAny_newObj_type ?_ (by size_fits)
  have ext := (((Heap.SameBut.update (h := s.heap) (a := it) (f := Obj.mapFields (·.setIfInBounds 0 Value.none))).extBut.push { cls := .type "tuple", data := .seq ([] : List Value).toArray }).push { cls := .type "StopIteration", data := .fields (#[.ref (s.heap.update it (Obj.mapFields (·.setIfInBounds 0 Value.none))).objs.size, .none, .none, .none, .bool false, .none] ++ ownMembersOf (.type "StopIteration") []) })
  refine raiseNew_hand (HOk.keeps hO fun e ob vs hv he _ => ext _ _ (hne _ hv) he) (Heap.get?_push_size _ rfl) rfl (by simp [ownMembersOf]) fun h' hk ht => ?_
  obtain ⟨o', ho', hc'⟩ := ht
  refine wpAny_bind (wpAny_isInstance (T := "StopIteration") (b := true) ⟨_, ho', hc'⟩ isSubtype_stop ?_)
  refine wpAny_pure (hQ _ fun b ob hb he => hk _ _ ?_ (ext _ _ hb he))
  refine Nat.ne_of_lt ?_
  show b < ((s.heap.update it (Obj.mapFields (·.setIfInBounds 0 Value.none))).push _).objs.size
  rw [Heap.size_push]
  exact Nat.lt_succ_of_lt (Heap.lt_size ((Heap.SameBut.update (h := s.heap) (a := it) (f := Obj.mapFields (·.setIfInBounds 0 Value.none))).extBut _ _ hb he))
/-- a list's walk where an exception may be handled -/
theorem Walks.listH (I ax : Addr) (hne : ax ≠ I) (items : Array Value) (hI : ∀ e, A.handled = some (.ref e) → e ≠ I) (fp : List Addr) (hfp : ∀ e, A.handled = some (.ref e) → e ∈ fp) :
    Walks prog w A I (I :: ax :: fp) [I] items.size (fun i v => items[i]? = some v) (fun i h => (h.IsListIter I ax i ∧ h.IsList ax items) ∧ HOk A.handled h) where
  sub := fun b hb => by simp at hb; simp [hb]
  frame := fun _ _ _ st hk => ⟨⟨st.1.1.at fun o e => hk I (by simp) o e, st.1.2.at fun o e => hk ax (by simp) o e⟩, st.2.keeps fun e ob _ hv he _ => hk e (.tail _ (.tail _ (hfp e hv))) _ he⟩
  item := fun i s Q E hi st hQ => by
    refine wpAny_pyNext_list_item st.1.1 st.1.2 (x := items[i]) (by simp [hi]) fun h' hit' hs' => ?_
    exact hQ _ h' s.toks (by simp [hi]) ⟨⟨hit', st.1.2.extBut hs'.extBut hne⟩, st.2.keeps fun e ob _ hv he _ => hs'.extBut _ _ (hI e hv) he⟩ fun b o hb e => hs'.extBut b o (fun h => hb (by simp [h])) e
  done := fun s Q E st hQ => list_end_hand st.2 st.1.1 st.1.2 (by simp) hI fun h' he' => hQ h' s.toks fun b o hb e => he' b o (fun h => hb (by simp [h])) e
  self := fun _ _ _ _ st hQ => wpAny_pyIter_listiter st.1.1 hQ
end
def hAt : Option Value → List Addr
  | some (.ref e) => [e]
  | _ => []
theorem mem_hAt {hnd : Option Value} {e : Addr} (h : hnd = some (.ref e)) : e ∈ hAt hnd := by subst h; exact .head _
theorem hAt_mem {hnd : Option Value} {e : Addr} (h : e ∈ hAt hnd) : hnd = some (.ref e) := by
  unfold hAt at h
  split at h
  · rw [List.mem_singleton.mp h]
  · cases h
theorem HIn.at {hnd : Option Value} {news : Led} {h₀ h : Heap} {L e : Addr} (x : HIn hnd news) (N : News h₀ L h news) (hv : hnd = some (.ref e)) : ∃ o, h.get? e = some o := by
  obtain ⟨_, ob, _, q, b, _⟩ := x _ hv
  cases q
  exact ⟨_, (N _ b).1⟩
abbrev SrcS (A : Around) (h₀ : Heap) (ax : Addr) (its : Array Value) (nx : Led) : Prop := LCg.SrcAt h₀ ax its nx ∧ HIn A.handled nx
/-- a comprehension's source, a list of the ledger, where an exception may be handled -/
def SrcH (prog : Program) (w : World) (A : Around) (h₀ : Heap) (L : Addr) (m : Str → Option Value) (env : Env) (elt : PySem.Expr) (x : Str) (scope : Scope) (cl : List (Str × Addr)) (Fin : Shared → List Value → Led → Prop) (xv : Value) (s₁ : Shared) : Prop :=
  ∃ ax its k news, xv = .ref ax ∧ Fr h₀ L s₁.heap m ∧ News h₀ L s₁.heap news ∧ (ax, listOf its k) ∈ news ∧ HIn A.handled news ∧ its.size ≤ sizeLine ∧
    ∀ g, LCg.CompRest prog w A h₀ L m env elt x scope cl { s₁ with heap := g } (SrcS A h₀ ax its) (fun i v => its[i]? = some v) (Fin { s₁ with heap := g }) its.size 0 [] news
section
variable {prog : Program} {w : World} {A : Around} {E : Value → Shared → Prop} {s : Shared} {h₀ : Heap} {L : Addr} {m : Str → Option Value} {env : Env}
theorem SrcH.mk' {elt : PySem.Expr} {x : Str} {scope : Scope} {cl : List (Str × Addr)} {Fin : Shared → List Value → Led → Prop} {ax : Addr} {its : Array Value} {k : Nat} {news : Led} (F : Fr h₀ L s.heap m) (N : News h₀ L s.heap news) (hm : (ax, listOf its k) ∈ news) (hH : HIn A.handled news) (hsz : its.size ≤ sizeLine)
    (h : ∀ g, LCg.CompRest prog w A h₀ L m env elt x scope cl { s with heap := g } (SrcS A h₀ ax its) (fun i v => its[i]? = some v) (Fin { s with heap := g }) its.size 0 [] news) :
    SrcH prog w A h₀ L m env elt x scope cl Fin (.ref ax) s := ⟨ax, its, k, news, rfl, F, N, hm, hH, hsz, h⟩
theorem block_H {elt iter : PySem.Expr} {x : Str} {px : Pos} {scope : Scope} {cl : List (Str × Addr)} {pos : Pos} {Fin : Shared → List Value → Led → Prop} {xv : Value} {RR : Value → Addr → Result → Shared → Prop}
    (hcell : ∀ y ∈ scope.names, y.2 ≠ .cell) (hkind : scope.kind = .function) (hx : scope.names.lookup x = some .local) (h : SrcH prog w A h₀ L m env elt x scope cl Fin xv s)
    (hRR : ∀ s₂ : Shared, (∃ g, s₂ = { s with heap := g }) → ∀ D C h tk m' ys news', Fr h₀ L h m → News h₀ L h ((D, LCg.lst ys) :: news') → LCg.Off1 D news' → h.Ns C m' → h₀.get? C = none → h₀.get? D = none → C ≠ L → D ≠ L → C ≠ D → (∀ p ∈ news', p.1 ≠ C) → Fin s₂ ys news' → RR (.ref D) C (.ok .next) { s₂ with heap := h, toks := tk }) :
    wpAny (model prog w) A (pyIter xv) (fun it s₂ => wpAny (model prog w) A (newList []) (fun acc s₃ => wpAny (model prog w) A (newFunctionEnv scope env.globals cl [] env.qual none .none (some env)) (fun cenv s₄ =>
      codeAny (model prog w) A (.compStart (.ListComp elt [⟨.Name x px, iter, [], 0⟩] scope pos) 0 it acc { cenv with scope := relabel scope env }) (RR acc cenv.locals) s₄) E s₃) E s₂) E s := by
  obtain ⟨ax, its, k, news, rfl, F, N, hm, hH, hsz, R⟩ := h
  have hl : s.heap.IsList ax its := ⟨_, (N _ hm).1, rfl, _, rfl⟩
  have hlt : ax < s.heap.objs.size := Heap.lt_size (N _ hm).1
  refine wpAny_pyIter_list hl ?_
  have up : ∀ b o, s.heap.get? b = some o → (s.heap.push { cls := .type "list_iterator", data := .fields #[.ref ax, .int 0 0] }).get? b = some o := fun b o e => Heap.get?_push_of_some _ e
  have hlt' : ∀ e, A.handled = some (.ref e) → e < s.heap.objs.size := fun e hv => Heap.lt_size (hH.at N hv).choose_spec
  refine LCg.block_U (Walks.listH s.heap.objs.size ax (Nat.ne_of_lt hlt) its (fun e hv => Nat.ne_of_lt (hlt' e hv)) (hAt A.handled) fun e hv => mem_hAt hv) hsz (fun i h st => by obtain ⟨o, e, _⟩ := st.1.1; exact ⟨o, e⟩)
    (fun i h h' o nw st e e' kk N' S' => ⟨LCg.list_st i h h' o nw st.1 e e' kk N' S'.1, S'.2.ok N'⟩) hcell hkind hx ⟨⟨⟨_, Heap.get?_push_size _ rfl, rfl, rfl⟩, hl.push _⟩, (hH.ok N).keeps fun e ob _ _ he _ => up _ _ he⟩ (fun b hb => ?_)
    (F.keeps up) (N.grown up) (Nat.ne_of_lt F.ns.lt) (next_is_new F) (fun p hp => Nat.ne_of_lt (Heap.lt_size (N p hp).1)) (⟨.inr ⟨_, hm, rfl, _, rfl⟩, hH⟩ : SrcS A h₀ ax its news) (R _) ?_
  · show b < (s.heap.push _).objs.size
    rw [Heap.size_push]
    rcases List.mem_cons.mp hb with rfl | hb
    · exact Nat.lt_succ_self _
    rcases List.mem_cons.mp hb with rfl | hb
    · exact Nat.lt_succ_of_lt hlt
    · exact Nat.lt_succ_of_lt (hlt' b (hAt_mem hb))
  · exact fun D C h tk m' ys news' => hRR _ ⟨_, rfl⟩ D C h tk m' ys news'
theorem ListComp_H {elt iter : PySem.Expr} {x : Str} {px : Pos} {scope : Scope} {cl : List (Str × Addr)} {pos : Pos} {Q : Value → Shared → Prop} (F₀ : Fr h₀ L s.heap m)
    (hclos : closureFor scope env = pure cl) (hcell : ∀ y ∈ scope.names, y.2 ≠ .cell) (hkind : scope.kind = .function)
    (hnames : ∀ y ∈ scope.names, y.2 = .local → scope.names.lookup y.1 = some .local) (hx : scope.names.lookup x = some .local)
    (h : wpAny (model prog w) A (eval iter env) (SrcH prog w A h₀ L m env elt x scope cl (fun s₂ => LCg.FinE h₀ L m s₂ Q)) E s)
    (hs : ∀ x, foldedSetIterable iter env x = pure x := by intro _; rfl) :
    wpAny (model prog w) A (eval (.ListComp elt [⟨.Name x px, iter, [], 0⟩] scope pos) env) Q E s := by
  rw [eval_ListComp]
  refine wpAny_comprehension_free (use := none) rfl hs hclos hkind hnames (wpAny_mono h (fun xv s₁ h₁ => ?_) fun _ _ e => e)
  refine block_H hcell hkind hx h₁ ?_
  intro s₂ _ D C h tk m' ys news' F' N' o1 hn hC₀ hD₀ hCL hDL hCD offC fin
  refine ⟨m', hn, fun h'' hs'' => fin D h'' tk (F'.change hs'' hCL hC₀) (fun p hp => ?_) o1⟩
  refine ⟨hs''.extBut _ _ ?_ (N' p hp).1, (N' p hp).2⟩
  rcases List.mem_cons.mp hp with rfl | hp
  · exact Ne.symm hCD
  · exact offC p hp
theorem Assign_ListComp_H {elt iter : PySem.Expr} {x y : Str} {px py : Pos} {scope : Scope} {cl : List (Str × Addr)} {pos spos : Pos} {Q : Flow → Shared → Prop} (F₀ : Fr h₀ L s.heap m) (hLe : env.locals = L)
    (hsw : swapsWith (.ListComp elt [⟨.Name x px, iter, [], 0⟩] scope pos) (some (.Name y py)) spos.line env = pure true)
    (hclos : closureFor scope env = pure cl) (hcell : ∀ z ∈ scope.names, z.2 ≠ .cell) (hkind : scope.kind = .function)
    (hnames : ∀ z ∈ scope.names, z.2 = .local → scope.names.lookup z.1 = some .local) (hx : scope.names.lookup x = some .local)
    (hy : env.kindOf y = some .local) (hp : (env.scope.kind == .class || (env.scope.kind == .module && env.locals != env.globals)) = false)
    (h : wpAny (model prog w) A (eval iter env) (SrcH prog w A h₀ L m env elt x scope cl (fun s₂ => LCg.FinA h₀ L m s₂ y Q)) E s)
    (hs : ∀ x, foldedSetIterable iter env x = pure x := by intro _; rfl) :
    wpAny (model prog w) A (exec (.Assign [.Name y py] (.ListComp elt [⟨.Name x px, iter, [], 0⟩] scope pos) spos) env) Q E s := by
  subst hLe
  rw [exec_Assign_Name_used _ _ _ _ hsw]
  refine wpAny_bind (wpAny_standAt (wpAny_bind ?_))
  show wpAny _ A (do let _ ← comprehension (.ListComp elt [⟨.Name x px, iter, [], 0⟩] scope pos) scope env _ (newList []) false (eval iter env) (some (assign (.Name y py) env))) _ _ s
  refine wpAny_bind (wpAny_mono (wpAny_comprehension_free (use := some (assign (.Name y py) env)) (Q := fun _ s' => Q .next s') rfl hs hclos hkind hnames
    (wpAny_mono h (fun xv s₁ h₁ => ?_) fun _ _ e => e)) (fun _ s' hq => wpAny_pure (wpAny_pure hq)) fun _ _ e => e)
  refine block_H hcell hkind hx h₁ ?_
  intro s₂ _ D C h' tk m' ys news' F' N' o1 hn hC₀ hD₀ hCL hDL hCD offC fin
  show wpAny _ A (assign (.Name y py) env (.ref D)) _ _ _
  refine wpAny_assign_Name (wpAny_storeName_local hy F'.ns (fun h₂ hn₂ hs₂ => ?_) hp)
  have hL₀ : h₀.get? env.locals = none := Heap.get?_none_of_le F'.above
  have F₂ : Fr h₀ env.locals h₂ (fun z => if z = y then some (.ref D) else m z) := ⟨hn₂, fun b o e => hs₂.extBut b o (fun q => by rw [q, hL₀] at e; cases e) (F'.keep b o e), F'.above⟩
  refine ⟨m', hn.sameBut hs₂ hCL, fun h'' hs'' => fin D h'' _ (F₂.change hs'' hCL hC₀) (fun p hp => ?_) o1⟩
  have z : h₂.get? p.1 = some p.2 := hs₂.extBut _ _ (N' p hp).2.1 (N' p hp).1
  refine ⟨hs''.extBut _ _ ?_ z, (N' p hp).2⟩
  rcases List.mem_cons.mp hp with rfl | hp
  · exact Ne.symm hCD
  · exact offC p hp
end
/-- a comprehension over a list of the ledger whose elements are data made anew, where an exception may be handled -/
theorem comp_datH {prog : Program} {w : World} {A : Around} {h₀ : Heap} {L : Addr} {m : Str → Option Value} {env : Env} {elt : PySem.Expr} {x : Str} {scope : Scope} {cl : List (Str × Addr)} {s : Shared} {Fin : List Value → Led → Prop} {its : Array Value} {ax : Addr} {k : Nat} {base : Led}
    (hm : (ax, listOf its k) ∈ base) (hH : HIn A.handled base) (ds : Nat → Dat)
    (turn : ∀ i ys nx v I oI C oC D m₂ h tk (E' : Value → Shared → Prop), i < its.size → its[i]? = some v → Grown base nx → (∀ p ∈ base, p ∈ nx) → LCg.NsObj oC m₂ → m₂ x = some v → Fr h₀ L h m → News h₀ L h ((I, oI) :: (C, oC) :: (D, LCg.lst ys) :: nx) →
      wpAny (model prog w) A (eval elt (compEnvC scope cl C env)) (ElemEnd h₀ L m { s with heap := h, toks := tk } ((I, oI) :: (C, oC) :: (D, LCg.lst ys) :: nx) (ds i)) E' { s with heap := h, toks := tk })
    (fin : ∀ ys nx, Grown base nx → DatAll (newp base nx) ys ((List.range its.size).map ds) → Fin ys nx) :
    LCg.CompRest prog w A h₀ L m env elt x scope cl s (SrcS A h₀ ax its) (fun i v => its[i]? = some v) Fin its.size 0 [] base := by
  refine comp_inv (fun i ys nx => Grown base nx ∧ DatAll (newp base nx) ys ((List.range i).map ds)) ⟨Grown.refl, .nil⟩ ?_ (fun ys nx _ h => fin ys nx h.1 h.2)
  rintro i ys nx v I oI C oC D m₂ h tk E' hi hyl hv ⟨g, da⟩ hC hx F N off ne
  refine wpAny_mono (turn i ys nx v I oI C oC D m₂ h tk E' hi hv g g.sub hC hx F N) (fun y s₂ p => ?_) fun _ _ e => e
  obtain ⟨h', tk', nx', rfl, F', N', g', d'⟩ := p
  have off3 := off.mem
  have hnew : ∀ p ∈ newp ((I, oI) :: (C, oC) :: (D, LCg.lst ys) :: nx) nx', p.1 ≠ I ∧ p.1 ≠ C ∧ p.1 ≠ D := fun p hp => by
    have z := (mem_newp.mp hp).2
    exact ⟨(z (I, oI) (.head _)).symm, (z (C, oC) (.tail _ (.head _))).symm, (z (D, LCg.lst ys) (.tail _ (.tail _ (.head _)))).symm⟩
  have hsub : ∀ p ∈ nx, p ∈ newp ((I, oI) :: (C, oC) :: (D, LCg.lst ys) :: nx) nx' ++ nx := fun p hp => List.mem_append_right _ hp
  have gn : Grown nx (newp ((I, oI) :: (C, oC) :: (D, LCg.lst ys) :: nx) nx' ++ nx) := ⟨hsub, fun p hp => by
    rcases List.mem_append.mp hp with hp | hp
    · exact .inr fun q hq => (mem_newp.mp hp).2 q (.tail _ (.tail _ (.tail _ hq)))
    · exact .inl hp⟩
  refine LCg.CompEnd.intro F' N' (newp ((I, oI) :: (C, oC) :: (D, LCg.lst ys) :: nx) nx' ++ nx) ?_ ?_ ⟨.inr ⟨_, hsub _ (g.sub _ hm), rfl, _, rfl⟩, hH.mono fun p hp => hsub _ (g.sub _ hp)⟩ ⟨g.trans gn, ?_⟩
  · refine fc ?_ ?_
    · exact g'.sub _ (.head _)
    · refine fc ?_ ?_
      · exact g'.sub _ (.tail _ (.head _))
      · refine fc ?_ ?_
        · exact g'.sub _ (.tail _ (.tail _ (.head _)))
        · intro p hp
          rcases List.mem_append.mp hp with hp | hp
          · exact newp_sub _ hp
          · exact g'.sub _ (.tail _ (.tail _ (.tail _ hp)))
  · refine LCg.Off3.of fun p hp => ?_
    rcases List.mem_append.mp hp with hp | hp
    · exact hnew p hp
    · exact off3 p hp
  · rw [List.range_succ, List.map_append, List.map_cons, List.map_nil]
    refine DatAll.append (DatAll.mono (newp_grow hsub) da) (DatAll.one (DatIn.mono (fun p hp => ?_) d'))
    have z := mem_newp.mp hp
    exact mem_newp.mpr ⟨List.mem_append_left _ hp, fun q hq => z.2 q (.tail _ (.tail _ (.tail _ (g.sub q hq))))⟩

theorem flush65hand {prog : Program} {w : World} {A : Around} {E : Value → Shared → Prop} {s : Shared} {env : Env} {Q : Flow → Shared → Prop} (h : wpAny (model prog w) A (execs [] env) Q E s) : wpAny (model prog w) A (execs [] env) Q E s := by
  w_top off
  (try (walk1; fail))
  exact h
/-- a call's contract where an exception may be handled -/
abbrev topH (hnd : Option Value) (dp un : Nat) (gd : Option (List Code)) (cn : Str) (cs : Scope) (L a : Addr) (ccd : Value) (cl : List (Str × Addr)) (outer : List Env) : Around := { handled := hnd, depth := dp, frames := some (envX cn cs L a ccd cl :: outer), guards := gd, units := un }
abbrev ConH (hnd : Option Value) (w : World) (mean : ExcName → Option Value) (mg mb : Str → Option Value) (f : Addr) (vs : List Value) (news : Led) (P : Led → Value → Prop) (dn un : Nat) : Prop :=
  ∀ (dp un' : Nat) (gd : Option (List Code)) (cn : Str) (cs : Scope) (a : Addr) (ccd : Value) (cl : List (Str × Addr)) (outer : List Env) (A₀ : Around) (base h₀ : Heap) (L : Addr) (m : Str → Option Value) (s : Shared) (Q E : Value → Shared → Prop),
    Below A₀ base outer h₀ → Fr h₀ L s.heap m → (hd.heap_39 w.params).In h₀ → News h₀ L s.heap news → Top hd.view_39 (looseW hd.view_39 []) mean mg mb h₀ → cs.kind = .function →
    dp + dn < recursionLimit → un' + un < cLine →
    (∀ r news' h' tk', Fr h₀ L h' m → News h₀ L h' news' → P news' r → Q r { s with heap := h', toks := tk' }) →
    wpAny (model PySem.Challenge.rw_pf0232_01.row.prog w) (topH hnd dp un' gd cn cs L a ccd cl outer) (call (.ref f) vs) Q E s
theorem ConH.use {hnd : Option Value} {w : World} {mean : ExcName → Option Value} {mg mb : Str → Option Value} {f : Addr} {vs : List Value} {news : Led} {P : Led → Value → Prop} {dn un : Nat} (C : ConH hnd w mean mg mb f vs news P dn un)
    {dp un' : Nat} {gd : Option (List Code)} {cn : Str} {cs : Scope} {a : Addr} {ccd : Value} {cl : List (Str × Addr)} {outer : List Env} {A₀ : Around} {base h₀ : Heap} {L : Addr} {m : Str → Option Value} {s : Shared} {Q E : Value → Shared → Prop}
    (B : Below A₀ base outer h₀) (F : Fr h₀ L s.heap m) (X : (hd.heap_39 w.params).In h₀) (N : News h₀ L s.heap news) (T : Top hd.view_39 (looseW hd.view_39 []) mean mg mb h₀) (hk : cs.kind = .function)
    (hd : dp + dn < recursionLimit) (hu : un' + un < cLine)
    (ret : ∀ r news' h' tk', Fr h₀ L h' m → News h₀ L h' news' → P news' r → Q r { s with heap := h', toks := tk' }) :
    wpAny (model PySem.Challenge.rw_pf0232_01.row.prog w) (topH hnd dp un' gd cn cs L a ccd cl outer) (call (.ref f) vs) Q E s := C _ _ _ _ _ _ _ _ _ _ _ _ _ _ _ _ _ B F X N T hk hd hu ret
section
theorem allH_con (w : World) (mean : ExcName → Option Value) (mg mb : Str → Option Value) (news : Led) (f g P : Addr) (st : List Addr) (fd : FD) (c0 : CD) (more : List CD) (wide high : Int) (many : Int) (pas : List Addr) (rass : List (List Addr)) (G : Nat → Nat → Nat → Cell) (hnd : Option Value) (hH : HIn hnd news)
    (hF : FrameIn w news f fd) (ok : FOK fd c0 more wide high) (hG : GridIn w news st g P many pas rass (WsOf fd wide) G) (hS : GShape fd high P pas rass) (hok : GOK G) :
    ConH hnd w mean mg mb 234 [.ref f, .ref g] news (fun news' r => Grown news news' ∧ DatIn (newp news news') r (allDat fd wide high G)) 60 800 := by
  refine hush fun GG9 out9 => ?_
  obtain ⟨d, cl', xs, t1, t2, t3, t4, t5, t6, v1, v2, v3, v4, v6, n, n0, hf, hfd, hcl, hC⟩ := hF
  obtain ⟨dg, tg1, tg2, vg1, ng, ng1, hg0, hdg, hP0, hPl⟩ := hG
  have hxl : (xs.map Value.ref).length = fd.comps.length := by rw [List.length_map]; exact hC.length
  have hlen3 : fd.comps.length ≤ 3 := ok.len3
  refine out9 ?_
  clear out9 GG9
  unfold ConH; k_fill
  intro dp un gd cn cs a ccd cl outer A₀ base h₀ L m s Q E B F X N T hk hd hu' hret
  refine wpAny_call ?_
  k_dflt cell_enter
  have sk9 : StopKey "exec Assign cons ListComp" := ⟨trivial⟩
  have sk8 : StopKey "eval ListComp" := ⟨trivial⟩
  k_steps
  refine Stop.mk ?_
  k_dflt (refine Assign_ListComp_H (F₀ := by k_asm) (by rfl) (by with_unfolding_all rfl) (by with_unfolding_all rfl) (by decide) (by rfl) (by decide) (by rfl) (by rfl) (by rfl) ?_)
  k_steps
  refine Stop.mk ?_
  refine SrcH.mk' (by k_asm) (by k_asm) hcl hH (by rw [List.size_toArray, hxl, sizeLine_eq]; omega) ?_
  intro g1
  refine comp_datH hcl hH (fun i => compDat (cAt fd i)) ?_ ?_
  · rintro i ys nx v I oI C oC D m₂ h tk E' hi hv gr sub hCo hx F1 N1
    have hi' : i < fd.comps.length := by rw [List.size_toArray, hxl] at hi; exact hi
    have hc : fd.comps[i]? = some (cAt fd i) := by simp [cAt, List.getD, hi']
    refine hush fun GG9 out9 => ?_
    obtain ⟨x, hx1, hxc⟩ := hC.get hc
    have ev : v = .ref x := by simp [hx1] at hv; exact hv.symm
    subst ev
    obtain ⟨dx, p1, p2, p3, p4, q1, q2, q3, q4, nd, hx0, hxd⟩ := hxc.mono sub
    refine out9 ?_
    clear out9 GG9
    k_steps
    rename_i l3 h3 F3 N3 l4
    refine Stop.mk ?_
    have off : ∀ p ∈ (I, oI) :: (C, oC) :: (D, LCg.lst ys) :: nx, p.1 ≠ l3 := ne_of_allLt (r := (I, oI) :: (C, oC) :: (D, LCg.lst ys) :: nx) l4
    refine ElemEnd.intro F3 N3 (Grown.cons off) (DatIn.list (mem_newp.mpr ⟨.head _, off⟩) (.cons (.int _ _) (.cons (.int _ _) (.cons (.int _ _) (.cons (.int _ _) .nil)))))
  · rintro ys nx gr da
    unfold LCg.FinA
    intro D h' tk' F2 N2 o2
    have hg1 := gr.sub _ hg0
    have hdg1 := gr.sub _ hdg
    have hP1 := gr.sub _ hP0
    have hf1 := gr.sub _ hf
    have hfd1 := gr.sub _ hfd
    refine hush fun GG9 out9 => ?_
    obtain ⟨gr1, dr⟩ := dat_done gr da o2
    refine out9 ?_
    clear out9 GG9
    generalize hB1 : (D, LCg.lst ys) :: nx = B1 at gr1 dr
    have hDB : (D, LCg.lst ys) ∈ B1 := hB1 ▸ .head _
    k_steps
    refine Stop.mk ?_
    k_dflt (refine Assign_ListComp_H (F₀ := by k_asm) (by rfl) (by with_unfolding_all rfl) (by with_unfolding_all rfl) (by decide) (by rfl) (by decide) (by rfl) (by rfl) (by rfl) ?_)
    k_steps
    refine Stop.mk ?_
    have hpl : pas.length = fd.comps.length := hS.lp
    have hrl : rass.length = fd.comps.length := hS.lr
    have hP2 : (P, listOf (pas.map Value.ref).toArray ng1) ∈ B1 := gr1.sub _ hP0
    have N2' : News _ _ _ B1 := hB1 ▸ N2
    refine SrcH.mk' (by k_asm) N2' hP2 (hH.mono gr1.sub) (by rw [List.size_toArray, List.length_map, hpl, sizeLine_eq]; omega) ?_
    intro g2
    clear N2 N2' F2
    refine comp_datH hP2 (hH.mono gr1.sub) (fun k => .list ((List.range (HsOf fd high k)).map fun j => .list ((List.range (WsOf fd wide k)).map fun i => cellDat (G k j i)))) ?_ ?_
    · rintro k ys2 nx2 v I2 oI2 C2 oC2 D2 m₂ h tk E' hk2 hv gr2 sub2 hCo hx F1 N1
      have hk3 : k < fd.comps.length := by rw [List.size_toArray, List.length_map, hpl] at hk2; exact hk2
      have e1 : pas[k]? = some (pas[k]'(by omega)) := List.getElem?_eq_getElem _
      have e2 : rass[k]? = some (rass[k]'(by omega)) := List.getElem?_eq_getElem _
      generalize pas[k]'(by omega) = p at e1
      generalize rass[k]'(by omega) = ras at e2
      have ev : v = .ref p := by simp [e1] at hv; exact hv.symm
      subst ev
      refine hush fun GG9 out9 => ?_
      obtain ⟨np, hp, hrow⟩ := hPl k p ras e1 e2
      have hrsl : ras.length = HsOf fd high k := hS.hts _ _ e2
      have hsub2 : ∀ p ∈ news, p ∈ (I2, oI2) :: (C2, oC2) :: (D2, LCg.lst ys2) :: nx2 := fun p hp => .tail _ (.tail _ (.tail _ (sub2 p (gr1.sub p hp))))
      refine out9 ?_
      clear out9 GG9
      k_steps
      refine Stop.mk ?_
      k_dflt (refine ListComp_H (F₀ := by k_asm) (by with_unfolding_all rfl) (by decide) (by rfl) (by decide) (by rfl) ?_)
      k_steps
      refine Stop.mk ?_
      have hHs := ok.hs k hk3
      refine SrcH.mk' F1 N1 (hsub2 _ hp) (hH.mono hsub2) (by rw [List.size_toArray, List.length_map, hrsl, sizeLine_eq]; show (high * (cAt fd k).d).toNat ≤ _; omega) ?_
      intro g3
      clear N1 F1
      refine comp_datH (hsub2 _ hp) (hH.mono hsub2) (fun j => .list ((List.range (WsOf fd wide k)).map fun i => cellDat (G k j i))) ?_ ?_
      · rintro j ys3 nx3 v I3 oI3 C3 oC3 D3 m₃ h tk E' hj hv gr3 sub3 hCo3 hx3 F1 N1
        have hj3 : j < ras.length := by rw [List.size_toArray, List.length_map] at hj; exact hj
        have e3 : ras[j]? = some (ras[j]'(by omega)) := List.getElem?_eq_getElem _
        generalize ras[j]'(by omega) = ra at e3
        have ev : v = .ref ra := by simp [e3] at hv; exact hv.symm
        subst ev
        refine hush fun GG9 out9 => ?_
        obtain ⟨vs, nr, hra, hvl, hcell⟩ := hrow j ra e3
        have hsub3 : ∀ p ∈ news, p ∈ (I3, oI3) :: (C3, oC3) :: (D3, LCg.lst ys3) :: nx3 := fun p hp => .tail _ (.tail _ (.tail _ (sub3 p (hsub2 p hp))))
        refine out9 ?_
        clear out9 GG9
        k_steps
        refine Stop.mk ?_
        k_dflt (refine ListComp_H (F₀ := by k_asm) (by with_unfolding_all rfl) (by decide) (by rfl) (by decide) (by rfl) ?_)
        k_steps
        refine Stop.mk ?_
        have hWs := ok.ws k hk3
        refine SrcH.mk' F1 N1 (hsub3 _ hra) (hH.mono hsub3) (by rw [List.size_toArray, hvl, sizeLine_eq]; show (wide * (cAt fd k).a).toNat ≤ _; omega) ?_
        intro g4
        clear N1 F1
        refine comp_datH (hsub3 _ hra) (hH.mono hsub3) (fun i => cellDat (G k j i)) ?_ ?_
        · rintro i ys4 nx4 v I4 oI4 C4 oC4 D4 m₄ h tk E' hi hv gr4 sub4 hCo4 hx4 F1 N1
          have hc := hcell i v (by simpa using hv)
          have hsub4 : ∀ p ∈ news, p ∈ nx4 := fun p hp => sub4 p (hsub3 p hp)
          cases hGc : G k j i with
          | none =>
            rw [hGc] at hc
            have hc : v = .none := hc
            subst hc
            k_steps
            refine Stop.mk ?_
            exact ElemEnd.intro F1 N1 Grown.refl .none
          | some is =>
            rw [hGc] at hc
            refine hush fun GG9 out9 => ?_
            obtain ⟨b, bvs, nb, rfl, hb, hi, hst⟩ := hc
            have hb4 := hsub4 _ hb
            have hbl : bvs.length ≤ 1000 := by rw [hi.length]; exact (hok _ _ _ _ hGc).2
            refine out9 ?_
            clear out9 GG9
            k_steps
            rename_i D9 c9 h9 F9 N9 l9
            refine Stop.mk ?_
            have off : ∀ p ∈ (I4, oI4) :: (C4, oC4) :: (D4, LCg.lst ys4) :: nx4, p.1 ≠ D9 := ne_of_allLt (r := (I4, oI4) :: (C4, oC4) :: (D4, LCg.lst ys4) :: nx4) l9
            exact ElemEnd.intro F9 N9 (Grown.cons off) (DatIn.list (mem_newp.mpr ⟨.head _, off⟩) (ints_dat hi))
        · rintro ys nx gr da
          unfold LCg.FinE
          intro D h' tk' F2 N2 o2
          refine hush fun GG9 out9 => ?_
          obtain ⟨gr', dr'⟩ := dat_done gr da o2
          rw [List.size_toArray, hvl] at dr'
          refine out9 ?_
          clear out9 GG9
          k_steps
          refine Stop.mk ?_
          exact ElemEnd.intro F2 N2 gr' dr'
      · rintro ys nx gr da
        unfold LCg.FinE
        intro D h' tk' F2 N2 o2
        refine hush fun GG9 out9 => ?_
        obtain ⟨gr', dr'⟩ := dat_done gr da o2
        rw [List.size_toArray, List.length_map, hrsl] at dr'
        refine out9 ?_
        clear out9 GG9
        k_steps
        refine Stop.mk ?_
        exact ElemEnd.intro F2 N2 gr' dr'
    · rintro ys3 nx3 gr3 da3
      unfold LCg.FinA
      intro D3 h' tk' F2 N2 o2
      refine hush fun GG9 out9 => ?_
      obtain ⟨gr', dr'⟩ := dat_done gr3 da3 o2
      have hf2 := gr3.sub _ (gr1.sub _ hf)
      have hfd2 := gr3.sub _ (gr1.sub _ hfd)
      refine out9 ?_
      clear out9 GG9
      k_steps
      rename_i l5 h5 F5 N5 l6 kF kN _ _
      have off : ∀ p ∈ (D3, LCg.lst ys3) :: nx3, p.1 ≠ l5 := ne_of_allLt (r := (D3, LCg.lst ys3) :: nx3) l6
      apply hret
      · k_asm
      · exact kN
      · refine ⟨(gr1.trans gr').trans (Grown.cons off), DatIn.list (mem_newp.mpr ⟨.head _, fun q hq => off q (gr'.sub q (gr1.sub q hq))⟩) (.cons (.str _ _) (.cons (.int _ _) (.cons (.int _ _) (.cons (.int _ _) (.cons (.int _ _) (.cons ?_ (.cons ?_ .nil)))))))⟩
        · have dr0 : DatIn (newp news B1) (.ref D) (rowsDat fd) := by
            have e : (xs.map Value.ref).toArray.size = fd.comps.length := by rw [List.size_toArray, hxl]
            rw [e] at dr
            exact dr
          exact DatIn.mono (newp_grow fun p hp => .tail _ (gr'.sub p hp)) dr0
        · have e : (pas.map Value.ref).toArray.size = fd.comps.length := by rw [List.size_toArray, List.length_map, hpl]
          rw [e] at dr'
          exact DatIn.mono (fun p hp => newp_grow (fun p hp => .tail _ hp) p (newp_back gr1.sub p hp)) dr'
end
theorem all_con (w : World) (mean : ExcName → Option Value) (mg mb : Str → Option Value) (news : Led) (f g P : Addr) (st : List Addr) (fd : FD) (c0 : CD) (more : List CD) (wide high : Int) (many : Int) (pas : List Addr) (rass : List (List Addr)) (G : Nat → Nat → Nat → Cell)
    (hF : FrameIn w news f fd) (ok : FOK fd c0 more wide high) (hG : GridIn w news st g P many pas rass (WsOf fd wide) G) (hS : GShape fd high P pas rass) (hok : GOK G) :
    Con w mean mg mb 234 [.ref f, .ref g] news (fun news' r => Grown news news' ∧ DatIn (newp news news') r (allDat fd wide high G)) 60 800 := by
  unfold Con
  intro dp un gd cn cs a ccd cl outer A₀ base h₀ L m s Q E B F X N T hk hd hu hret
  exact allH_con w mean mg mb news f g P st fd c0 more wide high many pas rass G none HIn.none hF ok hG hS hok dp un gd cn cs a ccd cl outer A₀ base h₀ L m s Q E B F X N T hk hd hu hret

theorem flush66allh {prog : Program} {w : World} {A : Around} {E : Value → Shared → Prop} {s : Shared} {env : Env} {Q : Flow → Shared → Prop} (h : wpAny (model prog w) A (execs [] env) Q E s) : wpAny (model prog w) A (execs [] env) Q E s := by
  w_top off
  (try (walk1; fail))
  exact h
def CellAny (news : Led) (st : List Addr) (v : Value) : Prop := v = .none ∨ ∃ (b : Addr) (vs : List Value) (n : Nat) (is : List Int), v = .ref b ∧ (b, listOf vs.toArray n) ∈ news ∧ IntsAre vs is ∧ b ∉ st ∧ 1 ≤ is.length ∧ is.length ≤ 1000
theorem CellAny.mono {news news' : Led} {st : List Addr} {v : Value} (h : CellAny news st v) (hs : ∀ p ∈ news, p ∈ news') : CellAny news' st v := by
  rcases h with h | ⟨b, vs, n, is, e, hm, r⟩
  · exact .inl h
  · exact .inr ⟨b, vs, n, is, e, hs _ hm, r⟩
/-- a grid of which it is not said what the cells hold -/
def GridL (w : World) (news : Led) (st : List Addr) (g P : Addr) (many : Int) (pas : List Addr) (rass : List (List Addr)) (Ws : Nat → Nat) : Prop :=
  ∃ d t1 t2 v1 n n1, (g, instObj 169 d) ∈ news ∧ (d, dictOf (gridEs w many P t1 t2 v1) n) ∈ news ∧ (P, listOf (pas.map Value.ref).toArray n1) ∈ news ∧
    ∀ (k : Nat) (p : Addr) (ras : List Addr), pas[k]? = some p → rass[k]? = some ras → ∃ n, (p, listOf (ras.map Value.ref).toArray n) ∈ news ∧ ∀ (j : Nat) (ra : Addr), ras[j]? = some ra → ∃ (vs : List Value) (n : Nat), (ra, listOf vs.toArray n) ∈ news ∧ vs.length = Ws k ∧ ∀ (i : Nat) (v : Value), vs[i]? = some v → CellAny news st v
theorem listOf_inj {vs vs' : List Value} {n n' : Nat} (h : listOf vs.toArray n = listOf vs'.toArray n') : vs = vs' ∧ n = n' := by
  have ed := congrArg Obj.data h
  have h1 : Data.seq vs.toArray n = Data.seq vs'.toArray n' := ed
  injection h1 with h1 h2
  exact ⟨by simpa using congrArg Array.toList h1, h2⟩
section
variable {w : World} {nn : Led} {st : List Addr} {g P : Addr} {many : Int} {pas : List Addr} {rass : List (List Addr)} {Ws : Nat → Nat} {G : Nat → Nat → Nat → Cell}
theorem GridIn.loose (h : GridIn w nn st g P many pas rass Ws G) (ok : GOK G) : GridL w nn st g P many pas rass Ws := by
  obtain ⟨d, t1, t2, v1, n, n1, hg, hd, hP, hPl⟩ := h
  refine ⟨d, t1, t2, v1, n, n1, hg, hd, hP, fun k p ras e1 e2 => ?_⟩
  obtain ⟨m, hp, hr⟩ := hPl k p ras e1 e2
  refine ⟨m, hp, fun j ra e3 => ?_⟩
  obtain ⟨vs, m', hra, hl, hc⟩ := hr j ra e3
  refine ⟨vs, m', hra, hl, fun i v e4 => ?_⟩
  have z := hc i v e4
  cases hG : G k j i with
  | none => rw [hG] at z; exact .inl z
  | some is =>
    rw [hG] at z
    obtain ⟨b, bs, c, e, hm, hi, hb⟩ := z
    exact .inr ⟨b, bs, c, is, e, hm, hi, hb, ok _ _ _ _ hG⟩
def CellHolds (nn : Led) (pas : List Addr) (rass : List (List Addr)) (k j i : Nat) (is : List Int) : Prop :=
  ∃ (ras : List Addr) (ra : Addr) (vs : List Value) (n : Nat) (b : Addr) (bs : List Value) (c : Nat), rass[k]? = some ras ∧ ras[j]? = some ra ∧ (ra, listOf vs.toArray n) ∈ nn ∧ vs[i]? = some (Value.ref b) ∧ (b, listOf bs.toArray c) ∈ nn ∧ IntsAre bs is ∧ 1 ≤ is.length ∧ is.length ≤ 1000
open Classical in
theorem GridL.tight (F : Fn nn) (h : GridL w nn st g P many pas rass Ws) : ∃ G, GridIn w nn st g P many pas rass Ws G ∧ GOK G := by
  obtain ⟨d, t1, t2, v1, n, n1, hg, hd, hP, hPl⟩ := h
  refine ⟨fun k j i => if x : ∃ is, CellHolds nn pas rass k j i is then some x.choose else none, ⟨d, t1, t2, v1, n, n1, hg, hd, hP, fun k p ras e1 e2 => ?_⟩, fun k j i is e => ?_⟩
  · obtain ⟨m, hp, hr⟩ := hPl k p ras e1 e2
    refine ⟨m, hp, fun j ra e3 => ?_⟩
    obtain ⟨vs, m', hra, hl, hc⟩ := hr j ra e3
    refine ⟨vs, m', hra, hl, fun i v e4 => ?_⟩
    try dsimp only
    have key : ∀ is, CellHolds nn pas rass k j i is → ∃ (b : Addr) (bs : List Value) (c : Nat), v = .ref b ∧ (b, listOf bs.toArray c) ∈ nn ∧ IntsAre bs is := by
      rintro is ⟨ras', ra', vs', n', b, bs, c, f2, f3, f4, f5, f6, f7, _⟩
      obtain rfl : ras' = ras := Option.some.inj (f2.symm.trans e2)
      obtain rfl : ra' = ra := Option.some.inj (f3.symm.trans e3)
      obtain ⟨rfl, _⟩ := listOf_inj (F _ _ _ f4 hra)
      exact ⟨b, bs, c, Option.some.inj (e4.symm.trans f5), f6, f7⟩
    split
    · rename_i x
      obtain ⟨b, bs, c, e, hm, hi⟩ := key _ x.choose_spec
      rcases hc i v e4 with z | ⟨b', vs', n', is', z, _, _, hb, _⟩
      · rw [z] at e; cases e
      · have q : b' = b := Value.ref.inj (z.symm.trans e)
        exact ⟨b, bs, c, e, hm, hi, q ▸ hb⟩
    · rename_i x
      rcases hc i v e4 with z | ⟨b', vs', n', is', z, hm, hi, hb, l1, l2⟩
      · exact z
      · exact absurd ⟨is', ras, ra, vs, m', b', vs', n', e2, e3, hra, z ▸ e4, hm, hi, l1, l2⟩ x
  · try dsimp only at e
    split at e
    · rename_i x
      cases e
      obtain ⟨_, _, _, _, _, _, _, _, _, _, _, _, _, l⟩ := x.choose_spec
      exact l
    · cases e
theorem repl_in {u a : Addr} {o x : Obj} {r : Led} (hp : (a, x) ∈ r) (h : a ≠ u) : (a, x) ∈ repl u o r := mem_repl hp h
/-- a cell's list is changed in its place -/
theorem GridL.turn (F : Fn nn) (h : GridL w nn (stOf P pas rass) g P many pas rass Ws) {b : Addr} {vs vs' : List Value} {n : Nat} {is' : List Int} (hb : (b, listOf vs.toArray n) ∈ nn) (hst : b ∉ stOf P pas rass) (hi : IntsAre vs' is') (l1 : 1 ≤ is'.length) (l2 : is'.length ≤ 1000) :
    GridL w (repl b (listOf vs'.toArray n) nn) (stOf P pas rass) g P many pas rass Ws := by
  obtain ⟨d, t1, t2, v1, m, m1, hg, hd, hP, hPl⟩ := h
  have hgb : g ≠ b := fun e => inst_ne_list (F _ _ _ hg (e ▸ hb))
  have hdb : d ≠ b := fun e => dict_ne_list (F _ _ _ hd (e ▸ hb))
  have hPb : P ≠ b := fun e => hst (e ▸ List.mem_cons_self)
  refine ⟨d, t1, t2, v1, m, m1, mem_repl hg hgb, mem_repl hd hdb, mem_repl hP hPb, fun k p ras e1 e2 => ?_⟩
  obtain ⟨m, hp, hr⟩ := hPl k p ras e1 e2
  refine ⟨m, mem_repl hp fun e => hst (e ▸ mem_st_plane e1), fun j ra e3 => ?_⟩
  obtain ⟨ws, m', hra, hl, hc⟩ := hr j ra e3
  refine ⟨ws, m', mem_repl hra fun e => hst (e ▸ mem_st_row e2 e3), hl, fun i v e4 => ?_⟩
  rcases hc i v e4 with z | ⟨b', bs, c, is, z, hm, hi', hb', l⟩
  · exact .inl z
  · by_cases e : b' = b
    · exact .inr ⟨b, vs', n, is', e ▸ z, mem_repl_self hb, hi, hst, l1, l2⟩
    · exact .inr ⟨b', bs, c, is, z, mem_repl hm e, hi', hb', l⟩
end
/-- two ledgers without a common address -/
def Apart (a b : Led) : Prop := ∀ p ∈ a, ∀ q ∈ b, p.1 ≠ q.1
theorem Apart.symm {a b : Led} (h : Apart a b) : Apart b a := fun p hp q hq => (h q hq p hp).symm
theorem Apart.sub {a b a' : Led} (h : Apart a b) (hs : ∀ p ∈ a', ∃ q ∈ a, q.1 = p.1) : Apart a' b := fun p hp q hq e => by
  obtain ⟨x, hx, ex⟩ := hs p hp
  exact h x hx q hq (ex.trans e)
theorem Apart.newp {a b n : Led} (hb : ∀ p ∈ b, p ∈ n) (ha : ∀ p ∈ a, ∀ q ∈ n, q.1 ≠ p.1) : Apart a b := fun p hp q hq => (ha p hp q (hb q hq)).symm
theorem repl_addr {u : Addr} {o : Obj} {r : Led} : ∀ p ∈ repl u o r, ∃ q ∈ r, q.1 = p.1 := fun p hp => by
  obtain ⟨q, hq, rfl⟩ := List.mem_map.mp hp
  refine ⟨q, hq, ?_⟩
  by_cases e : q.1 = u
  · simp only [e, if_true]
  · simp only [e, if_false]
theorem Apart.repl_mem {a r : Led} {u : Addr} {o x : Obj} (h : Apart a r) (hu : (u, x) ∈ r) {n : Led} (hs : ∀ p ∈ a, p ∈ n) : ∀ p ∈ a, p ∈ repl u o n := fun p hp => mem_repl (hs p hp) (h p hp _ hu)
theorem repl_mono {u : Addr} {o : Obj} {a b : Led} (hs : ∀ p ∈ a, p ∈ b) : ∀ p ∈ repl u o a, p ∈ repl u o b := fun p hp => by
  obtain ⟨q, hq, rfl⟩ := List.mem_map.mp hp
  exact List.mem_map.mpr ⟨q, hs q hq, rfl⟩

theorem flush67cells {prog : Program} {w : World} {A : Around} {E : Value → Shared → Prop} {s : Shared} {env : Env} {Q : Flow → Shared → Prop} (h : wpAny (model prog w) A (execs [] env) Q E s) : wpAny (model prog w) A (execs [] env) Q E s := by
  w_top off
  (try (walk1; fail))
  exact h
/-- a comprehension's source, a tuple of the ledger -/
def SrcT (prog : Program) (w : World) (A : Around) (h₀ : Heap) (L : Addr) (m : Str → Option Value) (env : Env) (elt : PySem.Expr) (x : Str) (scope : Scope) (cl : List (Str × Addr)) (Fin : Shared → List Value → Led → Prop) (xv : Value) (s₁ : Shared) : Prop :=
  ∃ (ax : Addr) (its : List Value) (news : Led), xv = .ref ax ∧ A.handled = none ∧ Fr h₀ L s₁.heap m ∧ News h₀ L s₁.heap news ∧ (ax, tupOf its) ∈ news ∧ its.length ≤ sizeLine ∧
    ∀ g, LCg.CompRest prog w A h₀ L m env elt x scope cl { s₁ with heap := g } (fun nx => (ax, tupOf its) ∈ nx) (fun i v => its[i]? = some v) (Fin { s₁ with heap := g }) its.length 0 [] news
section
variable {prog : Program} {w : World} {A : Around} {E : Value → Shared → Prop} {s : Shared} {h₀ : Heap} {L : Addr} {m : Str → Option Value} {env : Env}
theorem SrcT.mk' {elt : PySem.Expr} {x : Str} {scope : Scope} {cl : List (Str × Addr)} {Fin : Shared → List Value → Led → Prop} {ax : Addr} {its : List Value} {news : Led} (hh : A.handled = none) (F : Fr h₀ L s.heap m) (N : News h₀ L s.heap news) (hm : (ax, tupOf its) ∈ news) (hsz : its.length ≤ sizeLine)
    (h : ∀ g, LCg.CompRest prog w A h₀ L m env elt x scope cl { s with heap := g } (fun nx => (ax, tupOf its) ∈ nx) (fun i v => its[i]? = some v) (Fin { s with heap := g }) its.length 0 [] news) :
    SrcT prog w A h₀ L m env elt x scope cl Fin (.ref ax) s := ⟨ax, its, news, rfl, hh, F, N, hm, hsz, h⟩
theorem ListComp_Tup {elt iter : PySem.Expr} {x : Str} {px : Pos} {scope : Scope} {cl : List (Str × Addr)} {pos : Pos} {Q : Value → Shared → Prop} (F₀ : Fr h₀ L s.heap m)
    (hclos : closureFor scope env = pure cl) (hcell : ∀ y ∈ scope.names, y.2 ≠ .cell) (hkind : scope.kind = .function)
    (hnames : ∀ y ∈ scope.names, y.2 = .local → scope.names.lookup y.1 = some .local) (hx : scope.names.lookup x = some .local)
    (h : wpAny (model prog w) A (eval iter env) (SrcT prog w A h₀ L m env elt x scope cl (fun s₂ => LCg.FinE h₀ L m s₂ Q)) E s)
    (hs : ∀ x, foldedSetIterable iter env x = pure x := by intro _; rfl) :
    wpAny (model prog w) A (eval (.ListComp elt [⟨.Name x px, iter, [], 0⟩] scope pos) env) Q E s := by
  rw [eval_ListComp]
  refine wpAny_comprehension_free (use := none) rfl hs hclos hkind hnames (wpAny_mono h (fun xv s₁ h₁ => ?_) fun _ _ e => e)
  obtain ⟨ax, its, news, rfl, hh, F, N, hm, hsz, R⟩ := h₁
  have hl : s₁.heap.IsTuple ax its.toArray := ⟨_, (N _ hm).1, rfl, _, rfl⟩
  have hlt : ax < s₁.heap.objs.size := Heap.lt_size (N _ hm).1
  refine wpAny_pyIter_tuple hl ?_
  have up : ∀ b o, s₁.heap.get? b = some o → (s₁.heap.push { cls := .type "tuple_iterator", data := .fields #[.ref ax, .int 0 0] }).get? b = some o := fun b o e => Heap.get?_push_of_some _ e
  have W := Walks.tuple (prog := prog) (w := w) hh s₁.heap.objs.size ax (Nat.ne_of_lt hlt) its.toArray
  have hP : (fun (i : Nat) (v : Value) => its.toArray[i]? = some v) = fun i v => its[i]? = some v := by funext i v; simp
  have hlen : its.toArray.size = its.length := by simp
  rw [hlen, hP] at W
  refine LCg.block_U W hsz (fun i h st => by obtain ⟨o, e, _⟩ := st.1; exact ⟨o, e⟩)
    (fun i h h' o nw st e e' kk N' S' => ⟨by obtain ⟨o', q, r⟩ := st.1; rw [e] at q; cases q; exact ⟨o, e', r⟩, ⟨_, (N' _ S').1, rfl, _, rfl⟩⟩) hcell hkind hx ⟨⟨_, Heap.get?_push_size _ rfl, rfl, rfl⟩, ⟨_, up _ _ (N _ hm).1, rfl, _, rfl⟩⟩ (fun b hb => ?_)
    (F.keeps up) (N.grown up) (Nat.ne_of_lt F.ns.lt) (next_is_new F) (fun p hp => Nat.ne_of_lt (Heap.lt_size (N p hp).1)) hm (R _) ?_
  · show b < (s₁.heap.push _).objs.size
    rw [Heap.size_push]
    rcases List.mem_cons.mp hb with rfl | hb
    · exact Nat.lt_succ_self _
    · rw [List.mem_singleton.mp hb]; exact Nat.lt_succ_of_lt hlt
  · intro D C h tk m' ys news' F' N' o1 hn hC₀ hD₀ hCL hDL hCD offC fin
    refine ⟨m', hn, fun h'' hs'' => fin D h'' tk (F'.change hs'' hCL hC₀) (fun p hp => ?_) o1⟩
    refine ⟨hs''.extBut _ _ ?_ (N' p hp).1, (N' p hp).2⟩
    rcases List.mem_cons.mp hp with rfl | hp
    · exact Ne.symm hCD
    · exact offC p hp
end
def PickEnd (h₀ : Heap) (L : Addr) (m : Str → Option Value) (s : Shared) (led : Led) (r : Option Value) (y : Value) (s₂ : Shared) : Prop := r = some y ∧ ∃ h' tk', s₂ = { s with heap := h', toks := tk' } ∧ Fr h₀ L h' m ∧ News h₀ L h' led
theorem PickEnd.intro {h₀ : Heap} {L : Addr} {m : Str → Option Value} {s : Shared} {led : Led} {r : Option Value} {y : Value} {h' : Heap} {tk' : Nat} (e : r = some y) (F : Fr h₀ L h' m) (N : News h₀ L h' led) : PickEnd h₀ L m s led r y { s with heap := h', toks := tk' } := ⟨e, h', tk', rfl, F, N⟩
/-- a comprehension over a written tuple whose elements are looked up -/
theorem comp_pick {prog : Program} {w : World} {A : Around} {h₀ : Heap} {L : Addr} {m : Str → Option Value} {env : Env} {elt : PySem.Expr} {x : Str} {scope : Scope} {cl : List (Str × Addr)} {s : Shared} {Fin : List Value → Led → Prop} {its rs : List Value} {ax : Addr} {base : Led}
    (hm : (ax, tupOf its) ∈ base) (hl : rs.length = its.length)
    (turn : ∀ (i : Nat) (ys : List Value) (v : Value) I oI C oC D m₂ h tk (E' : Value → Shared → Prop), its[i]? = some v → LCg.NsObj oC m₂ → m₂ x = some v → Fr h₀ L h m → News h₀ L h ((I, oI) :: (C, oC) :: (D, LCg.lst ys) :: base) →
      wpAny (model prog w) A (eval elt (compEnvC scope cl C env)) (PickEnd h₀ L m { s with heap := h, toks := tk } ((I, oI) :: (C, oC) :: (D, LCg.lst ys) :: base) (rs[i]? : Option Value)) E' { s with heap := h, toks := tk })
    (fin : Fin rs base) :
    LCg.CompRest prog w A h₀ L m env elt x scope cl s (fun nx => (ax, tupOf its) ∈ nx) (fun i v => its[i]? = some v) Fin its.length 0 [] base := by
  refine comp_inv (fun i ys nx => nx = base ∧ ys = rs.take i) ⟨rfl, rfl⟩ ?_ (fun ys nx _ h => ?_)
  · rintro i ys nx v I oI C oC D m₂ h tk E' hi hyl hv ⟨rfl, rfl⟩ hC hx F N off ne
    refine wpAny_mono (turn i _ v I oI C oC D m₂ h tk E' hv hC hx F N) (fun y s₂ p => ?_) fun _ _ e => e
    obtain ⟨hy, h', tk', rfl, F', N'⟩ := p
    refine LCg.CompEnd.intro F' N' nx (fun _ h => h) off hm ⟨rfl, ?_⟩
    rw [List.take_succ, hy]; rfl
  · obtain ⟨rfl, rfl⟩ := h
    rw [List.take_of_length_le (by omega)]
    exact fin

theorem flush68comptup {prog : Program} {w : World} {A : Around} {E : Value → Shared → Prop} {s : Shared} {env : Env} {Q : Flow → Shared → Prop} (h : wpAny (model prog w) A (execs [] env) Q E s) : wpAny (model prog w) A (execs [] env) Q E s := by
  w_top off
  (try (walk1; fail))
  exact h
/-- the law's own def, as the row holds it -/
def lawStmt : Option Stmt := PySem.Challenge.pw_pf0232_01.main.body.getLast?
def lawBody : List Stmt := match lawStmt with | some (.FunctionDef _ _ b _ _ _ _ _ _ _) => b | _ => []
def lawScope : Scope := match lawStmt with | some (.FunctionDef _ _ _ _ _ _ sc _ _ _) => sc | _ => default
def forBody : List Stmt := match lawBody.drop 7 with | .For _ _ b _ _ :: _ => b | _ => []
abbrev lawEnv (L fa : Addr) (cd : Value) : Env := envOfC (Str.ofString "law") lawScope L fa cd
abbrev lawA (L fa : Addr) (cd : Value) : Around := callerA.deeper (lawEnv L fa cd)
theorem cell_ok (c : Cell) : kqdOk 5 (cellDat c) = true := by
  cases c with
  | none => rfl
  | some is => simp [cellDat, kqdOk]
theorem rows_ok (fd : FD) : kqdOk 8 (rowsDat fd) = true := by
  simp [rowsDat, kqdOk, compDat]
theorem all_ok8 (fd : FD) (wide high : Int) (G : Nat → Nat → Nat → Cell) : ∀ d ∈ allDats fd wide high G, kqdOk 8 d = true := by
  have hs : PyData.strOk (Str.ofString "progressive") = true := by decide +kernel
  intro d hd
  simp only [allDats, List.mem_cons, List.not_mem_nil, or_false] at hd
  rcases hd with rfl | rfl | rfl | rfl | rfl | rfl | rfl
  · simpa [kqdOk] using hs
  · rfl
  · rfl
  · rfl
  · rfl
  · exact rows_ok fd
  · simp [heldDat, kqdOk, cell_ok]
section
theorem turn_con (w : World) (mean : ExcName → Option Value) (mg mb : Str → Option Value) (L I : Addr) (oI o1 o2 : Obj) (R dA : Led) (av : Addr) (avs : List Value) (ak : Nat) (h2 : o2.data = .cell (some (.ref av)))
    (f gr P : Addr) (fd : FD) (c0 : CD) (more : List CD) (wide high : Int) (pas : List Addr) (rass : List (List Addr)) (G : Nat → Nat → Nat → Cell)
    (hF : FrameIn w R f fd) (ok : FOK fd c0 more wide high) (hG : GridIn w R (stOf P pas rass) gr P (fd.n * fd.n) pas rass (WsOf fd wide) G) (hS : GShape fd high P pas rass) (hok : GOK G)
    (hav : (av, listOf avs.toArray ak) ∈ R) (hdA : ∀ p ∈ dA, p ∈ R) (hda : DatAll dA avs (allDats fd wide high G))
    (t : Addr) (a b c d : Int) (ta tb tc td : Tok) (hT : (t, tupOf [.int a ta, .int b tb, .int c tc, .int d td]) ∈ R) (ha0 : 0 ≤ a) (hb0 : 0 ≤ b)
    (hbad : wide ≤ a ∨ (a < wide ∧ high ≤ b) ∨ (a < wide ∧ b < high ∧ c < 1) ∨ (a < wide ∧ b < high ∧ 1 ≤ c ∧ d < 1)) :
    ∀ (h₀ : Heap) (fa : Addr) (cd : Value) (m : Str → Option Value) (s : Shared) (Q : Flow → Shared → Prop),
    Fr h₀ L s.heap m → (∀ p ∈ [(Str.ofString "part", Value.ref t), (Str.ofString "grid", Value.ref gr), (Str.ofString "frame", Value.ref f)], m p.1 = some p.2) →
    (hd.heap_39 w.params).In h₀ → News h₀ L s.heap ((I, oI) :: (L + 1 + 1, o1) :: (L + 1, o2) :: R) → Top hd.view_39 (looseW hd.view_39 []) mean mg mb h₀ →
    (∀ h' tk', Fr h₀ L h' m → News h₀ L h' ((I, oI) :: (L + 1 + 1, o1) :: (L + 1, o2) :: R) → Q .next { s with heap := h', toks := tk' }) →
    wpAny (model PySem.Challenge.rw_pf0232_01.row.prog w) (lawA L fa cd) (execs forBody (lawEnv L fa cd)) Q (fun _ _ => False) s := by
  k_fill
  intro h₀ fa cd m s Q F hm X N T hret
  have B := below_caller h₀
  have em := over_eq hm
  rw [← em] at F
  dsimp only [over] at F
  show wpAny _ (callerA.deeper (envOfC _ (Scope.mk _ _ _ _ _) _ _ _)) (execs (_ :: _) (envOfC _ (Scope.mk _ _ _ _ _) _ _ _)) _ _ _
  have sk9 : StopKey "exec Try" := ⟨trivial⟩
  have sk8 : StopKey "noteFrame ref" := ⟨trivial⟩
  have sk7 : StopKey "compareOp NotEq ref ref" := ⟨trivial⟩
  k_steps
  refine Stop.mk ?_
  refine wpAny_Try_except ?_
  k_steps
  refine Stop.mk ?_
  k_dflt (refine' ConX.use (cropgx_con _ _ _ _ _ gr f fd c0 more wide high (hF.mono ?s1) ok a b c d _ _ _ _ ha0 hb0 hbad) ?B ?F ?X ?N ?T ?hk ?hd ?hu ?_)
  case N => k_asm
  case s1 => exact fun p hp => .tail _ (.tail _ (.tail _ hp))
  case B => k_asm
  case F => k_asm
  case X => k_asm
  case T => k_asm
  case hk => exact rfl
  case hd => ktr_room
  case hu => ktr_units
  k_whole
  intro e9 g9 h9 tk9 F9 U9 R9
  (try dsimp only at F9 U9 R9 ⊢)
  k_steps
  refine Stop.mk ?_
  refine' caught_FX (C := 44) (bm := fexTail) ?zK F9 U9 R9 ?zX ?zT ?zex (fex_is _) ?zhb ?_
  case zK => assumption
  case zX => k_asm
  case zT => k_asm
  case zex => k_is
  case zhb => simp
  intro h10 oe10 ws10 hd10 h210 F10 N10
  try dsimp only
  k_steps
  refine Stop.mk ?_
  have hH9 : HIn (some (Value.ref e9)) ((e9, oe10) :: (I, oI) :: (L + 1 + 1, o1) :: (L + 1, o2) :: R) := fun v q => by cases q; exact ⟨_, _, _, rfl, .head _, hd10, h210⟩
  k_dflt (refine' ConH.use (allH_con _ _ _ _ _ f gr P (stOf P pas rass) fd c0 more wide high (fd.n * fd.n) pas rass G (some (Value.ref e9)) hH9 (hF.mono ?s1) ok (hG.mono ?s2) hS hok) ?B ?F ?X ?N ?T ?hk ?hd ?hu ?_)
  case N => k_asm
  case s1 => exact fun p hp => .tail _ (.tail _ (.tail _ (.tail _ hp)))
  case s2 => exact fun p hp => .tail _ (.tail _ (.tail _ (.tail _ hp)))
  case B => k_asm
  case F => k_asm
  case X => k_asm
  case T => k_asm
  case hk => exact rfl
  case hd => ktr_room
  case hu => ktr_units
  k_whole
  intro r11 n11 h11 tk11 F11 N11 PP1
  refine hush fun GG9 out9 => ?_
  obtain ⟨W11, D11⟩ := PP1
  obtain ⟨dB, bv, bvs, bk, rfl, hbv, hbd, dBf⟩ := dat_new D11
  refine out9 ?_
  clear out9 GG9
  try dsimp only
  try k_fold
  have N12 : News h₀ L h11 ((L + 1 + 1, o1) :: (L + 1, o2) :: n11) := by
    refine fc ?_ ?_
    · exact N11 _ (W11.sub _ (.tail _ (.tail _ (.head _))))
    refine fc ?_ ?_
    · exact N11 _ (W11.sub _ (.tail _ (.tail _ (.tail _ (.head _)))))
    · intro p hp
      exact N11 _ hp
  have W12 := W11.sub
  clear N11 W11 D11
  k_steps
  refine Stop.mk ?_
  refine ne_same (n₁ := dB) (n₂ := dA) N12 (.tail _ (.tail _ (dBf _ hbv).1)) hbd (fun p hp => .tail _ (.tail _ (dBf p hp).1)) (.tail _ (.tail _ (W12 _ (.tail _ (.tail _ (.tail _ (.tail _ hav))))))) hda (fun p hp => .tail _ (.tail _ (W12 _ (.tail _ (.tail _ (.tail _ (.tail _ (hdA p hp)))))))) (all_ok8 fd wide high G) (by ktr_units) ?_
  k_steps
  refine hret h11 tk11 (by rw [← em]; exact F11) fun p hp => ?_
  rcases List.mem_cons.mp hp with rfl | hp
  · exact N12 _ (.tail _ (.tail _ (W12 _ (.tail _ (.head _)))))
  rcases List.mem_cons.mp hp with rfl | hp
  · exact N12 _ (.head _)
  rcases List.mem_cons.mp hp with rfl | hp
  · exact N12 _ (.tail _ (.head _))
  · exact N12 _ (.tail _ (.tail _ (W12 _ (.tail _ (.tail _ (.tail _ (.tail _ hp)))))))
end

theorem flush70turn {prog : Program} {w : World} {A : Around} {E : Value → Shared → Prop} {s : Shared} {env : Env} {Q : Flow → Shared → Prop} (h : wpAny (model prog w) A (execs [] env) Q E s) : wpAny (model prog w) A (execs [] env) Q E s := by
  w_top off
  (try (walk1; fail))
  exact h
/-- a picture of the ledger: a frame and a grid of its own -/
structure Pic (w : World) (R fr nn : Led) (f gr P : Addr) (pas : List Addr) (rass : List (List Addr)) (fd : FD) (c0 : CD) (more : List CD) (wide high : Int) (G : Nat → Nat → Nat → Cell) : Prop where
  hF : FrameIn w fr f fd
  ok : FOK fd c0 more wide high
  hG : GridIn w nn (stOf P pas rass) gr P (fd.n * fd.n) pas rass (WsOf fd wide) G
  hS : GShape fd high P pas rass
  hok : GOK G
  frs : ∀ p ∈ fr, p ∈ R
  nns : ∀ p ∈ nn, p ∈ R
  ap : Apart fr nn
theorem Pic.mono {w : World} {R R' fr nn : Led} {f gr P : Addr} {pas : List Addr} {rass : List (List Addr)} {fd : FD} {c0 : CD} {more : List CD} {wide high : Int} {G : Nat → Nat → Nat → Cell} (h : Pic w R fr nn f gr P pas rass fd c0 more wide high G) (h1 : ∀ p ∈ fr, p ∈ R') (h2 : ∀ p ∈ nn, p ∈ R') :
    Pic w R' fr nn f gr P pas rass fd c0 more wide high G := ⟨h.hF, h.ok, h.hG, h.hS, h.hok, h1, h2, h.ap⟩
theorem News.norm2 {h₀ h : Heap} {L c1 c2 : Addr} {o1 o2 : Obj} {n : Led} (N : News h₀ L h n) (m1 : (c1, o1) ∈ n) (m2 : (c2, o2) ∈ n) :
    ∃ R, News h₀ L h ((c1, o1) :: (c2, o2) :: R) ∧ (∀ p ∈ R, p.1 ≠ c1) ∧ (∀ p ∈ R, p.1 ≠ c2) ∧ ∀ p ∈ n, p.1 ≠ c1 → p.1 ≠ c2 → p ∈ R :=
  ⟨drop c1 (drop c2 n), by
    refine fc ?_ ?_
    · exact N _ m1
    refine fc ?_ ?_
    · exact N _ m2
    · intro p hp
      exact N _ (drop_sub (drop_sub hp)), drop_off, fun p hp => drop_off p (drop_sub hp), fun p hp h1 h2 => mem_drop (mem_drop hp h2) h1⟩
section
theorem lawA_con (w : World) (mean : ExcName → Option Value) (mg mb : Str → Option Value) (L : Addr) (o1 o2 : Obj) (h1 : ∃ c, o1.data = .cell c) (h2 : ∃ c, o2.data = .cell c) (R fr nn : Led)
    (f gr P : Addr) (fd : FD) (c0 : CD) (more : List CD) (wide high : Int) (pas : List Addr) (rass : List (List Addr)) (G : Nat → Nat → Nat → Cell) (pic : Pic w R fr nn f gr P pas rass fd c0 more wide high G)
    (hR1 : ∀ p ∈ R, p.1 ≠ L + 1 + 1) (hR2 : ∀ p ∈ R, p.1 ≠ L + 1)
    (x y across down : Int) (tx ty ta td tw th : Tok) (hx0 : 0 ≤ x) (hx : x < wide) (hy0 : 0 ≤ y) (hy : y < high) (ha : 1 ≤ across) (ha2 : across ≤ 2) (hdn : 1 ≤ down) (hdn2 : down ≤ 2) :
    ∀ (h₀ : Heap) (fa : Addr) (cd : Value) (m : Str → Option Value) (s : Shared) (Q : Flow → Shared → Prop),
    Fr h₀ L s.heap m → (∀ p ∈ [(Str.ofString "across", Value.int across ta), (Str.ofString "down", Value.int down td), (Str.ofString "y", Value.int y ty), (Str.ofString "x", Value.int x tx), (Str.ofString "grid", Value.ref gr), (Str.ofString "frame", Value.ref f), (Str.ofString "wide", Value.int wide tw), (Str.ofString "high", Value.int high th)], m p.1 = some p.2) →
    (hd.heap_39 w.params).In h₀ → News h₀ L s.heap ((L + 1 + 1, o1) :: (L + 1, o2) :: R) → Top hd.view_39 (looseW hd.view_39 []) mean mg mb h₀ →
    (∀ h' tk' m' R' fr2 nn2 nf ng nP npas nrass fd2 W H G2, Fr h₀ L h' m' → (∀ p ∈ [(Str.ofString "y", Value.int y ty), (Str.ofString "x", Value.int x tx), (Str.ofString "grid", Value.ref gr), (Str.ofString "frame", Value.ref f), (Str.ofString "later", Value.ref nf), (Str.ofString "found", Value.ref ng)], m' p.1 = some p.2) →
      News h₀ L h' ((L + 1 + 1, o1) :: (L + 1, o2) :: R') → (∀ p ∈ R', p.1 ≠ L + 1 + 1) → (∀ p ∈ R', p.1 ≠ L + 1) → (∀ p ∈ R, p ∈ R') → Pic w R' fr2 nn2 nf ng nP npas nrass fd2 c0 more W H G2 → Apart fr2 R → Apart nn2 R → fd2.comps = fd.comps → fd2.n = fd.n →
      wpAny (model PySem.Challenge.rw_pf0232_01.row.prog w) (lawA L fa cd) (execs (lawBody.drop 11) (lawEnv L fa cd)) Q (fun _ _ => False) { s with heap := h', toks := tk' }) →
    wpAny (model PySem.Challenge.rw_pf0232_01.row.prog w) (lawA L fa cd) (execs (lawBody.drop 8) (lawEnv L fa cd)) Q (fun _ _ => False) s := by
  k_fill
  intro h₀ fa cd m s Q F hm X N T hret
  refine hush fun GG9 out9 => ?_
  obtain ⟨hF, ok, hG, hS, hok, frs, nns, ap⟩ := id pic
  have B := below_caller h₀
  have em := over_eq hm
  rw [← em] at F
  dsimp only [over] at F
  have hFR := hF.mono frs
  have hGR := hG.mono nns
  clear hF hG pic
  refine out9 ?_
  clear out9 GG9
  show wpAny _ (callerA.deeper (envOfC _ (Scope.mk _ _ _ _ _) _ _ _)) (execs (_ :: _) (envOfC _ (Scope.mk _ _ _ _ _) _ _ _)) _ _ _
  have sl9 : StopLine 156 := ⟨trivial⟩
  k_steps
  refine Stop.mk ?_
  refine hush fun GG9 out9 => ?_
  obtain ⟨fd2, hfd2⟩ : ∃ z, z = cutF fd c0 x y across down := ⟨_, rfl⟩
  have ok2 : FOK fd2 c0 more (min across (wide - x)) (min down (high - y)) := hfd2 ▸ cut_ok ok hx0 hx hy0 hy ha hdn
  have ec : fd2.comps = fd.comps := by rw [hfd2]; rfl
  have en : fd2.n = fd.n := by rw [hfd2]; rfl
  refine out9 ?_
  clear out9 GG9
  k_dflt (refine' Con.use (cropg_con _ _ _ _ _ gr f P (stOf P pas rass) fd c0 more wide high pas rass G (hFR.mono ?s1) ok (hGR.mono ?s2) hS hok x y across down _ _ _ _ hx0 hx hy0 hy ha ha2 hdn hdn2 fd2 hfd2) ?B ?F ?X ?N ?T ?hk ?hd ?hu ?_)
  case N => k_asm
  case s1 => exact fun p hp => .tail _ (.tail _ hp)
  case s2 => exact fun p hp => .tail _ (.tail _ hp)
  case B => k_asm
  case F => k_asm
  case X => k_asm
  case T => k_asm
  case hk => exact rfl
  case hd => ktr_room
  case hu => ktr_units
  k_whole
  intro r1 n1 g1 tk1 F1 N1 PP1
  refine hush fun GG9 out9 => ?_
  obtain ⟨t, nf, ng, nP, npas, nrass, G2, fr2, nn2, rfl, W1, ht, hF2, fr2s, hS2, hG2, hok2, nn2s, hrel⟩ := PP1
  refine out9 ?_
  clear out9 GG9
  try dsimp only
  try k_fold
  have N0 := N1
  clear N1
  refine hush fun GG9 out9 => ?_
  obtain ⟨R1, N1, of1, of2, in1⟩ := News.norm2 N0 (W1.sub _ (.head _)) (W1.sub _ (.tail _ (.head _)))
  have inR : ∀ p ∈ R, p ∈ R1 := fun p hp => in1 p (W1.sub _ (.tail _ (.tail _ hp))) (hR1 p hp) (hR2 p hp)
  have inN : ∀ p ∈ newp ((L + 1 + 1, o1) :: (L + 1, o2) :: R) n1, p ∈ R1 := fun p hp => in1 p (mem_newp.mp hp).1 ((mem_newp.mp hp).2 _ (.head _)).symm ((mem_newp.mp hp).2 _ (.tail _ (.head _))).symm
  have fr2R : ∀ p ∈ fr2, p ∈ R1 := fun p hp => inN p (fr2s p hp)
  have nn2R : ∀ p ∈ nn2, p ∈ R1 := fun p hp => inN p (nn2s p hp).1
  have ht1 : (t, tupOf [.ref nf, .ref ng]) ∈ R1 := by
    refine in1 _ ht (fun e => ?_) (fun e => ?_)
    · obtain ⟨c, hc⟩ := h1
      have z := Fn.of N0 _ _ _ ht (e ▸ W1.sub _ (.head _))
      rw [← z] at hc; cases hc
    · obtain ⟨c, hc⟩ := h2
      have z := Fn.of N0 _ _ _ ht (e ▸ W1.sub _ (.tail _ (.head _)))
      rw [← z] at hc; cases hc
  have ap1 : Apart fr2 R := Apart.newp (n := (L + 1 + 1, o1) :: (L + 1, o2) :: R) (fun p hp => .tail _ (.tail _ hp)) fun p hp => (mem_newp.mp (fr2s p hp)).2
  have ap2 : Apart nn2 R := Apart.newp (n := (L + 1 + 1, o1) :: (L + 1, o2) :: R) (fun p hp => .tail _ (.tail _ hp)) fun p hp => (mem_newp.mp (nn2s p hp).1).2
  have ap3 : Apart fr2 nn2 := fun p hp q hq => (nn2s q hq).2 p hp
  have hFl1 : FrameIn w R1 nf fd2 := hF2.mono fr2R
  obtain ⟨d2, cl2, xs2, s1, s2, s3, s4, s5, s6, w1, w2, w3, w4, w6, q2, q3, hf2, hfd2', hcl2, hC2⟩ := id hFl1
  obtain ⟨dgo, b6, b7, b8, b9, b0, hgr, hgdg, _⟩ := hGR.mono inR
  have hFR1 := hFR.mono inR
  obtain ⟨d, cl, xs, t1, t2, t3, t4, t5, t6, v1, v2, v3, v4, v6, n, n0, hf, hfd, hcl, hC⟩ := id hFR1
  clear W1 in1 inN nn2s fr2s ht N0
  have mA : (min across (wide - x) == if wide - x < across then wide - x else across) = true := by
    rw [beq_iff_eq]; split <;> omega
  have mB : (min down (high - y) == if high - y < down then high - y else down) = true := by
    rw [beq_iff_eq]; split <;> omega
  refine out9 ?_
  clear out9 GG9
  k_steps
  rotate_left
  · exfalso
    rename ((_ : Bool) && _) = false => hbad
    rw [mA, mB] at hbad
    cases hbad
  refine Stop.mk ?_
  k_dflt (refine' Con.use (right_con _ _ _ _ _ gr f P nf ng nP (stOf P pas rass) (stOf nP npas nrass) fd fd2 c0 more wide high (min across (wide - x)) (min down (high - y)) pas npas rass nrass G G2 (hFR1.mono ?s1) ok (hGR.mono ?s2) hS hok (hFl1.mono ?s3) ok2 (hG2.mono ?s4) hS2 x y _ _ hx0 hy0 ?wx ?hy ec en hrel) ?B ?F ?X ?N ?T ?hk ?hd ?hu ?_)
  case N => k_asm
  case s1 => exact fun p hp => .tail _ (.tail _ (.tail _ (.tail _ hp)))
  case s2 => exact fun p hp => .tail _ (.tail _ (.tail _ (.tail _ (inR p hp))))
  case s3 => exact fun p hp => .tail _ (.tail _ (.tail _ (.tail _ hp)))
  case s4 => exact fun p hp => .tail _ (.tail _ (.tail _ (.tail _ (nn2R p hp))))
  case wx => omega
  case hy => omega
  case B => k_asm
  case F => k_asm
  case X => k_asm
  case T => k_asm
  case hk => exact rfl
  case hd => ktr_room
  case hu => ktr_units
  k_whole
  intro r3 n3 g3 tk3 F3 N3 PP1
  refine hush fun GG9 out9 => ?_
  obtain ⟨rfl, W3⟩ := PP1
  refine out9 ?_
  clear out9 GG9
  try dsimp only
  try k_fold
  refine hush fun GG9 out9 => ?_
  obtain ⟨R3, N4, of1', of2', in3⟩ := News.norm2 N3 (W3.sub _ (.tail _ (.tail _ (.head _)))) (W3.sub _ (.tail _ (.tail _ (.tail _ (.head _)))))
  have in4 : ∀ p ∈ R1, p ∈ R3 := fun p hp => in3 p (W3.sub _ (.tail _ (.tail _ (.tail _ (.tail _ hp))))) (of1 p hp) (of2 p hp)
  clear N3 W3 in3
  refine out9 ?_
  clear out9 GG9
  k_steps
  refine Stop.mk ?_
  exact hret g3 tk3 _ R3 fr2 nn2 nf ng nP npas nrass fd2 _ _ G2 F3 (by (repeat (first | refine List.forall_mem_cons.mpr ⟨rfl, ?_⟩ | exact List.forall_mem_nil _))) N4 of1' of2' (fun p hp => in4 p (inR p hp)) ⟨hF2, ok2, hG2, hS2, hok2, fun p hp => in4 p (fr2R p hp), fun p hp => in4 p (nn2R p hp), ap3⟩ ap1 ap2 ec en
end

theorem flush71a {prog : Program} {w : World} {A : Around} {E : Value → Shared → Prop} {s : Shared} {env : Env} {Q : Flow → Shared → Prop} (h : wpAny (model prog w) A (execs [] env) Q E s) : wpAny (model prog w) A (execs [] env) Q E s := by
  w_top off
  (try (walk1; fail))
  exact h
theorem all_seven {n : Led} {vs : List Value} {d0 d1 d2 d3 d4 d5 d6 : Dat} (h : DatAll n vs [d0, d1, d2, d3, d4, d5, d6]) :
    ∃ v0 v1 v4 v5, vs[(0 : Int).toNat]? = some v0 ∧ vs[(1 : Int).toNat]? = some v1 ∧ vs[(4 : Int).toNat]? = some v4 ∧ vs[(5 : Int).toNat]? = some v5 ∧ DatIn n v0 d0 ∧ DatIn n v1 d1 ∧ DatIn n v4 d4 ∧ DatIn n v5 d5 := by
  cases h with
  | cons h0 h => cases h with
    | cons h1 h => cases h with
      | cons h2 h => cases h with
        | cons h3 h => cases h with
          | cons h4 h => cases h with
            | cons h5 h => cases h with
              | cons h6 h => cases h with
                | nil => exact ⟨_, _, _, _, rfl, rfl, rfl, rfl, h0, h1, h4, h5⟩
section
theorem lawB_con (w : World) (mean : ExcName → Option Value) (mg mb : Str → Option Value) (L : Addr) (o1 o2 : Obj) (h1 : ∃ c, o1.data = .cell c) (R dA fr2 nn2 : Led) (av : Addr) (avs : List Value) (ak : Nat) (h2 : o2.data = .cell (some (.ref av)))
    (hav : (av, listOf avs.toArray ak) ∈ R) (hdA : ∀ p ∈ dA, p ∈ R) (fd : FD) (wide high : Int) (G : Nat → Nat → Nat → Cell) (hda : DatAll dA avs (allDats fd wide high G))
    (f gr nf ng nP : Addr) (npas : List Addr) (nrass : List (List Addr)) (fd2 : FD) (c0 : CD) (more : List CD) (W H : Int) (G2 : Nat → Nat → Nat → Cell) (pic2 : Pic w R fr2 nn2 nf ng nP npas nrass fd2 c0 more W H G2) (ec : fd2.comps = fd.comps) (en : fd2.n = fd.n)
    (hR1 : ∀ p ∈ R, p.1 ≠ L + 1 + 1) (hR2 : ∀ p ∈ R, p.1 ≠ L + 1) (x y : Int) (tx ty : Tok) :
    ∀ (h₀ : Heap) (fa : Addr) (cd : Value) (m : Str → Option Value) (s : Shared) (Q : Flow → Shared → Prop),
    Fr h₀ L s.heap m → (∀ p ∈ [(Str.ofString "y", Value.int y ty), (Str.ofString "x", Value.int x tx), (Str.ofString "grid", Value.ref gr), (Str.ofString "frame", Value.ref f), (Str.ofString "later", Value.ref nf), (Str.ofString "found", Value.ref ng)], m p.1 = some p.2) →
    (hd.heap_39 w.params).In h₀ → News h₀ L s.heap ((L + 1 + 1, o1) :: (L + 1, o2) :: R) → Top hd.view_39 (looseW hd.view_39 []) mean mg mb h₀ →
    (∀ h' tk' m' o1' R' dK kv kvs kn, o1'.data = .cell (some (.ref kv)) → Fr h₀ L h' m' → (∀ p ∈ [(Str.ofString "y", Value.int y ty), (Str.ofString "x", Value.int x tx), (Str.ofString "grid", Value.ref gr), (Str.ofString "frame", Value.ref f), (Str.ofString "later", Value.ref nf), (Str.ofString "found", Value.ref ng)], m' p.1 = some p.2) →
      News h₀ L h' ((L + 1 + 1, o1') :: (L + 1, o2) :: R') → (∀ p ∈ R', p.1 ≠ L + 1 + 1) → (∀ p ∈ R', p.1 ≠ L + 1) → (∀ p ∈ R, p ∈ R') → (∀ p ∈ dK, p ∈ R') → Apart dK R → (kv, listOf kvs.toArray kn) ∈ dK → DatAll dK kvs (allDats fd2 W H G2) →
      wpAny (model PySem.Challenge.rw_pf0232_01.row.prog w) (lawA L fa cd) (execs (lawBody.drop 13) (lawEnv L fa cd)) Q (fun _ _ => False) { s with heap := h', toks := tk' }) →
    wpAny (model PySem.Challenge.rw_pf0232_01.row.prog w) (lawA L fa cd) (execs (lawBody.drop 11) (lawEnv L fa cd)) Q (fun _ _ => False) s := by
  k_fill
  intro h₀ fa cd m s Q F hm X N T hret
  refine hush fun GG9 out9 => ?_
  obtain ⟨hF, ok, hG, hS, hok, frs, nns, ap⟩ := id pic2
  obtain ⟨c1, h1⟩ := h1
  have B := below_caller h₀
  have em := over_eq hm
  rw [← em] at F
  dsimp only [over] at F
  have hFR := hF.mono frs
  have hGR := hG.mono nns
  clear hF hG pic2
  refine out9 ?_
  clear out9 GG9
  show wpAny _ (callerA.deeper (envOfC _ (Scope.mk _ _ _ _ _) _ _ _)) (execs (_ :: _) (envOfC _ (Scope.mk _ _ _ _ _) _ _ _)) _ _ _
  have sk9 : StopKey "eval ListComp" := ⟨trivial⟩
  have sk8 : StopKey "compareOp NotEq ref ref" := ⟨trivial⟩
  have sl9 : StopLine 159 := ⟨trivial⟩
  k_steps
  refine Stop.mk ?_
  k_dflt (refine' Con.use (all_con _ _ _ _ _ nf ng nP (stOf nP npas nrass) fd2 c0 more W H (fd2.n * fd2.n) npas nrass G2 (hFR.mono ?s1) ok (hGR.mono ?s2) hS hok) ?B ?F ?X ?N ?T ?hk ?hd ?hu ?_)
  case N => k_asm
  case s1 => exact fun p hp => .tail _ (.tail _ hp)
  case s2 => exact fun p hp => .tail _ (.tail _ hp)
  case B => k_asm
  case F => k_asm
  case X => k_asm
  case T => k_asm
  case hk => exact rfl
  case hd => ktr_room
  case hu => ktr_units
  k_whole
  intro r1 n1 g1 tk1 F1 N1 PP1
  refine hush fun GG9 out9 => ?_
  obtain ⟨W1, D1⟩ := PP1
  obtain ⟨dK, kv, kvs, kn, rfl, hkv, hdk, dKf⟩ := dat_new D1
  refine out9 ?_
  clear out9 GG9
  try dsimp only
  try k_fold
  have N0 := N1
  clear N1 D1
  refine hush fun GG9 out9 => ?_
  obtain ⟨R1, N1, of1, of2, in1⟩ := News.norm2 N0 (W1.sub _ (.head _)) (W1.sub _ (.tail _ (.head _)))
  have inR : ∀ p ∈ R, p ∈ R1 := fun p hp => in1 p (W1.sub _ (.tail _ (.tail _ hp))) (hR1 p hp) (hR2 p hp)
  have dKR : ∀ p ∈ dK, p ∈ R1 := fun p hp => in1 p (dKf p hp).1 ((dKf p hp).2 _ (.head _)).symm ((dKf p hp).2 _ (.tail _ (.head _))).symm
  have apK : Apart dK R := Apart.newp (n := (L + 1 + 1, o1) :: (L + 1, o2) :: R) (fun p hp => .tail _ (.tail _ hp)) fun p hp => (dKf p hp).2
  clear N0 in1 W1 dKf
  obtain ⟨K0, K1, K4, K5, iK0, iK1, iK4, iK5, hK0, hK1, hK4, hK5⟩ := all_seven hdk
  have hkv1 := dKR _ hkv
  refine out9 ?_
  clear out9 GG9
  k_steps
  refine Stop.mk ?_
  k_dflt (refine ListComp_Tup (F₀ := by k_asm) (by with_unfolding_all rfl) (by decide) (by rfl) (by decide) (by rfl) ?_)
  k_steps
  rename_i g2 oK dcK D2 g3 F3 N3 l3
  refine Stop.mk ?_
  refine SrcT.mk' rfl (by k_asm) N3 (.head _) (by size_fits) ?_
  intro g4
  refine comp_pick (.head _) (rs := [K0, K1, K4, K5]) rfl ?_ ?_
  · clear F3 N3
    rintro i ys v I oI C oC D m₂ h tk E' hv hC hx F N
    match i, hv with
    | 0, hv => cases hv; k_steps; refine Stop.mk ?_; exact PickEnd.intro rfl F N
    | 1, hv => cases hv; k_steps; refine Stop.mk ?_; exact PickEnd.intro rfl F N
    | 2, hv => cases hv; k_steps; refine Stop.mk ?_; exact PickEnd.intro rfl F N
    | 3, hv => cases hv; k_steps; refine Stop.mk ?_; exact PickEnd.intro rfl F N
  · unfold LCg.FinE
    intro DK h' tk' F5 N5 o5
    refine hush fun GG9 out9 => ?_
    obtain ⟨lK, hlK⟩ : ∃ z, z = LCg.lst [K0, K1, K4, K5] := ⟨_, rfl⟩
    rw [← hlK] at N5
    clear F3 N3
    obtain ⟨A0, A1, A4, A5, iA0, iA1, iA4, iA5, hA0, hA1, hA4, hA5⟩ := all_seven hda
    have hav1 := inR _ hav
    refine out9 ?_
    clear out9 GG9
    k_steps
    refine Stop.mk ?_
    k_dflt (refine ListComp_Tup (F₀ := by k_asm) (by with_unfolding_all rfl) (by decide) (by rfl) (by decide) (by rfl) ?_)
    k_steps
    rename_i D3 g6 F6 N6 l6
    refine Stop.mk ?_
    refine SrcT.mk' rfl (by k_asm) N6 (.head _) (by size_fits) ?_
    intro g7
    refine comp_pick (.head _) (rs := [A0, A1, A4, A5]) rfl ?_ ?_
    · clear F6 N6
      rintro i ys v I oI C oC D m₂ h tk E' hv hC hx F N
      match i, hv with
      | 0, hv => cases hv; k_steps; refine Stop.mk ?_; exact PickEnd.intro rfl F N
      | 1, hv => cases hv; k_steps; refine Stop.mk ?_; exact PickEnd.intro rfl F N
      | 2, hv => cases hv; k_steps; refine Stop.mk ?_; exact PickEnd.intro rfl F N
      | 3, hv => cases hv; k_steps; refine Stop.mk ?_; exact PickEnd.intro rfl F N
    · unfold LCg.FinE
      intro DL h' tk' F8 N8 o8
      clear F6 N6
      refine hush fun GG9 out9 => ?_
      obtain ⟨lL, hlL⟩ : ∃ z, z = LCg.lst [A0, A1, A4, A5] := ⟨_, rfl⟩
      rw [← hlL] at N8
      refine out9 ?_
      clear out9 GG9
      k_steps
      refine Stop.mk ?_
      have er : rowsDat fd2 = rowsDat fd := by unfold rowsDat cAt; rw [ec]
      rw [en] at hK4
      rw [er] at hK5
      refine ne_same (n₁ := dK) (n₂ := dA) (xs := [K0, K1, K4, K5]) (ys := [A0, A1, A4, A5]) (ds := [.str (Str.ofString "progressive"), .int 8, .int fd.n, rowsDat fd]) (ka := 4) (kb := 4) N8 (.tail _ (.tail _ (hlK ▸ .head _))) (.cons hK0 (.cons hK1 (.cons hK4 (.cons hK5 .nil)))) ?_ (hlL ▸ .head _) (.cons hA0 (.cons hA1 (.cons hA4 (.cons hA5 .nil)))) ?_ ?_ (by ktr_units) ?_
      · exact fun p hp => .tail _ (.tail _ (.tail _ (.tail _ (.tail _ (.tail _ (dKR p hp))))))
      · exact fun p hp => .tail _ (.tail _ (.tail _ (.tail _ (.tail _ (.tail _ (inR p (hdA p hp)))))))
      · intro d hd
        simp only [List.mem_cons, List.not_mem_nil, or_false] at hd
        rcases hd with rfl | rfl | rfl | rfl
        · exact all_ok8 fd wide high G _ (.head _)
        · rfl
        · rfl
        · exact rows_ok fd
      k_steps
      refine Stop.mk ?_
      exact hret h' tk' _ oK R1 dK kv kvs kn dcK F8 (by (repeat (first | refine List.forall_mem_cons.mpr ⟨rfl, ?_⟩ | exact List.forall_mem_nil _))) (News.sub N8 fun p hp => .tail _ (.tail _ (.tail _ (.tail _ hp)))) of1 of2 inR dKR apK hkv hdk
end

theorem flush72b {prog : Program} {w : World} {A : Around} {E : Value → Shared → Prop} {s : Shared} {env : Env} {Q : Flow → Shared → Prop} (h : wpAny (model prog w) A (execs [] env) Q E s) : wpAny (model prog w) A (execs [] env) Q E s := by
  w_top off
  (try (walk1; fail))
  exact h
theorem set_mem {prog : Program} {w : World} {A : Around} {E : Value → Shared → Prop} {s : Shared} {h₀ : Heap} {L D : Addr} {m : Str → Option Value} {news : Led} {vs : List Value} {n : Nat} {k : Int} {t : Tok} {v : Value} {Q : Unit → Shared → Prop}
    (F : Fr h₀ L s.heap m) (N : News h₀ L s.heap news) (hm : (D, listOf vs.toArray n) ∈ news) (h0 : 0 ≤ k) (h1 : k.toNat < vs.length) (hfit : k < 2 ^ 63)
    (h : ∀ h', Fr h₀ L h' m → News h₀ L h' (repl D (listOf (vs.set k.toNat v).toArray n) news) → Q () { s with heap := h' }) : wpAny (model prog w) A (setItem (.ref D) (.int k t) v) Q E s :=
  set_led F (News.take N hm) (Upd.head drop_off) h0 h1 hfit fun h' F' N' => h h' F' (News.back N')
theorem ints_set {vs : List Value} {is : List Int} (h : IntsAre vs is) (x : Int) (t : Tok) : ∀ k : Nat, IntsAre (vs.set k (.int x t)) (is.set k x) := by
  induction h with
  | nil => intro k; exact .nil
  | cons i t' _ ih =>
    intro k
    cases k with
    | zero => exact .cons _ _ (by assumption)
    | succ k => exact .cons _ _ (ih k)
/-- the ledger while a grid's cells are changed in their place -/
structure CJ (w : World) (L : Addr) (R nn : Led) (g P : Addr) (many : Int) (pas : List Addr) (rass : List (List Addr)) (Ws : Nat → Nat) (R' : Led) : Prop where
  grid : ∃ gx, GridL w gx (stOf P pas rass) g P many pas rass Ws ∧ (∀ p ∈ gx, p ∈ R') ∧ ∀ p ∈ gx, ∃ q ∈ nn, q.1 = p.1
  keep : ∀ p ∈ R, (∀ q ∈ nn, q.1 ≠ p.1) → p ∈ R'
  str : ∀ p ∈ R, p.1 ∈ stOf P pas rass → p ∈ R'
  off1 : ∀ p ∈ R', p.1 ≠ L + 1 + 1
  off2 : ∀ p ∈ R', p.1 ≠ L + 1
section
variable {w : World} {L : Addr} {R nn : Led} {g P : Addr} {many : Int} {pas : List Addr} {rass : List (List Addr)} {Ws : Nat → Nat} {R' : Led}
theorem CJ.row (h : CJ w L R nn g P many pas rass Ws R') {k j : Nat} {p ra : Addr} {ras : List Addr} (e1 : pas[k]? = some p) (e2 : rass[k]? = some ras) (e3 : ras[j]? = some ra) :
    ∃ (vs : List Value) (n : Nat), (ra, listOf vs.toArray n) ∈ R' := by
  obtain ⟨gx, ⟨d, t1, t2, v1, n, n1, hg, hd, hP, hPl⟩, hs, ha⟩ := h.grid
  obtain ⟨n, hp, hr⟩ := hPl k p ras e1 e2
  obtain ⟨vs, n', hra, _⟩ := hr j ra e3
  exact ⟨vs, n', hs _ hra⟩
theorem CJ.cell (F : Fn R') (h : CJ w L R nn g P many pas rass Ws R') {k j i : Nat} {p ra : Addr} {ras : List Addr} (e1 : pas[k]? = some p) (e2 : rass[k]? = some ras) (e3 : ras[j]? = some ra) {vs : List Value} {n : Nat} (hra : (ra, listOf vs.toArray n) ∈ R') {v : Value} (e4 : vs[i]? = some v) :
    v = .none ∨ ∃ (b : Addr) (bs : List Value) (c : Nat) (is : List Int), v = .ref b ∧ (b, listOf bs.toArray c) ∈ R' ∧ IntsAre bs is ∧ b ∉ stOf P pas rass ∧ 1 ≤ is.length ∧ is.length ≤ 1000 ∧
      ∀ (vs' : List Value) (is' : List Int), IntsAre vs' is' → 1 ≤ is'.length → is'.length ≤ 1000 → CJ w L R nn g P many pas rass Ws (repl b (listOf vs'.toArray c) R') := by
  obtain ⟨gx, hG, hs, ha⟩ := h.grid
  obtain ⟨d, t1, t2, v1, m, m1, hg, hd, hP, hPl⟩ := id hG
  obtain ⟨n', hp, hr⟩ := hPl k p ras e1 e2
  obtain ⟨ws, m', hra', hl, hc⟩ := hr j ra e3
  obtain ⟨rfl, rfl⟩ := listOf_inj (F _ _ _ hra (hs _ hra'))
  rcases hc i v e4 with z | ⟨b, bs, c, is, z, hm, hi, hb, l1, l2⟩
  · exact .inl z
  · refine .inr ⟨b, bs, c, is, z, hs _ hm, hi, hb, l1, l2, fun vs' is' hi' l1' l2' => ?_⟩
    obtain ⟨q0, hq0, eq0⟩ := ha _ hm
    refine ⟨⟨_, hG.turn (F.sub hs) hm hb hi' l1' l2', repl_mono hs, fun p hp => ?_⟩, fun p hp hne => mem_repl (h.keep p hp hne) ?_, fun p hp hst => mem_repl (h.str p hp hst) fun e => hb (e ▸ hst), repl_off_all h.off1, repl_off_all h.off2⟩
    · obtain ⟨q, hq, e⟩ := repl_addr p hp
      obtain ⟨q', hq', e'⟩ := ha q hq
      exact ⟨q', hq', e'.trans e⟩
    · exact fun e => hne q0 hq0 (eq0.trans e.symm)
end
section
theorem lawC_con (w : World) (mean : ExcName → Option Value) (mg mb : Str → Option Value) (L : Addr) (o1 o2 : Obj) (R fr nn : Led)
    (f gr P : Addr) (fd : FD) (c0 : CD) (more : List CD) (wide high : Int) (pas : List Addr) (rass : List (List Addr)) (G : Nat → Nat → Nat → Cell) (pic : Pic w R fr nn f gr P pas rass fd c0 more wide high G)
    (hR1 : ∀ p ∈ R, p.1 ≠ L + 1 + 1) (hR2 : ∀ p ∈ R, p.1 ≠ L + 1) (nf ng : Addr) (x y : Int) (tx ty : Tok) :
    ∀ (h₀ : Heap) (fa : Addr) (cd : Value) (m : Str → Option Value) (s : Shared) (Q : Flow → Shared → Prop),
    Fr h₀ L s.heap m → (∀ p ∈ [(Str.ofString "y", Value.int y ty), (Str.ofString "x", Value.int x tx), (Str.ofString "grid", Value.ref gr), (Str.ofString "frame", Value.ref f), (Str.ofString "later", Value.ref nf), (Str.ofString "found", Value.ref ng)], m p.1 = some p.2) →
    (hd.heap_39 w.params).In h₀ → News h₀ L s.heap ((L + 1 + 1, o1) :: (L + 1, o2) :: R) → Top hd.view_39 (looseW hd.view_39 []) mean mg mb h₀ →
    (∀ h' tk' m' R', Fr h₀ L h' m' → (∀ p ∈ [(Str.ofString "y", Value.int y ty), (Str.ofString "x", Value.int x tx), (Str.ofString "grid", Value.ref gr), (Str.ofString "frame", Value.ref f), (Str.ofString "later", Value.ref nf), (Str.ofString "found", Value.ref ng)], m' p.1 = some p.2) →
      News h₀ L h' ((L + 1 + 1, o1) :: (L + 1, o2) :: R') → CJ w L R nn gr P (fd.n * fd.n) pas rass (WsOf fd wide) R' →
      wpAny (model PySem.Challenge.rw_pf0232_01.row.prog w) (lawA L fa cd) (execs (lawBody.drop 14) (lawEnv L fa cd)) Q (fun _ _ => False) { s with heap := h', toks := tk' }) →
    wpAny (model PySem.Challenge.rw_pf0232_01.row.prog w) (lawA L fa cd) (execs (lawBody.drop 13) (lawEnv L fa cd)) Q (fun _ _ => False) s := by
  k_fill
  intro h₀ fa cd m s Q F hm X N T hret
  refine hush fun GG9 out9 => ?_
  obtain ⟨hF, ok, hG, hS, hok, frs, nns, ap⟩ := id pic
  have B := below_caller h₀
  have em := over_eq hm
  rw [← em] at F
  dsimp only [over] at F
  obtain ⟨dg, t1, t2, v1, n, n1, hg, hdg, hP, hPl⟩ := hG.mono nns
  have C0 : CJ w L R nn gr P (fd.n * fd.n) pas rass (WsOf fd wide) R := ⟨⟨nn, hG.loose hok, nns, fun p hp => ⟨p, hp, rfl⟩⟩, fun p hp _ => hp, fun p hp _ => hp, hR1, hR2⟩
  have hlen : 0 < fd.comps.length := by rw [ok.comps]; exact Nat.succ_pos _
  refine out9 ?_
  clear out9 GG9
  obtain ⟨p0, e1⟩ : ∃ p, pas[(0 : Int).toNat]? = some p := ⟨_, List.getElem?_eq_getElem (by rw [hS.lp]; exact hlen)⟩
  obtain ⟨ras, e2⟩ : ∃ z, rass[(0 : Int).toNat]? = some z := ⟨_, List.getElem?_eq_getElem (by rw [hS.lr]; exact hlen)⟩
  have i1 : (pas.map Value.ref)[(0 : Int).toNat]? = some (.ref p0) := by rw [List.getElem?_map, e1]; rfl
  refine hush fun GG9 out9 => ?_
  obtain ⟨n2, hp0, hrow⟩ := hPl _ _ _ e1 e2
  clear hF hG pic hPl
  refine out9 ?_
  clear out9 GG9
  show wpAny _ (callerA.deeper (envOfC _ (Scope.mk _ _ _ _ _) _ _ _)) (execs (_ :: _) (envOfC _ (Scope.mk _ _ _ _ _) _ _ _)) _ _ _
  have sk9 : StopKey "setItem ref int" := ⟨trivial⟩
  have sl9 : StopLine 163 := ⟨trivial⟩
  k_steps
  refine Stop.mk ?_
  refine for_list (L := L) rfl (fun i m nx => ∃ R', nx = (L + 1 + 1, o1) :: (L + 1, o2) :: R' ∧ CJ w L R nn gr P (fd.n * fd.n) pas rass (WsOf fd wide) R' ∧ ∀ p ∈ [(Str.ofString "y", Value.int y ty), (Str.ofString "x", Value.int x tx), (Str.ofString "grid", Value.ref gr), (Str.ofString "frame", Value.ref f), (Str.ofString "later", Value.ref nf), (Str.ofString "found", Value.ref ng)], m p.1 = some p.2) rfl (.tail _ (.tail _ hp0)) F N ⟨R, rfl, C0, by (repeat (first | refine List.forall_mem_cons.mpr ⟨rfl, ?_⟩ | exact List.forall_mem_nil _))⟩ ?_ ?_
  · clear F N
    intro i v m₁ nx h tk I oI hv hl0 PP1 hoff F N
    refine hush fun GG9 out9 => ?_
    obtain ⟨R1, rfl, C1, hn1⟩ := PP1
    have F := Fr.over F [(Str.ofString "y", Value.int y ty), (Str.ofString "x", Value.int x tx), (Str.ofString "grid", Value.ref gr), (Str.ofString "frame", Value.ref f), (Str.ofString "later", Value.ref nf), (Str.ofString "found", Value.ref ng)] hn1
    dsimp only [over] at F
    obtain ⟨ra, e3, rfl⟩ : ∃ ra, ras[i]? = some ra ∧ v = .ref ra := by
      rw [List.getElem?_map] at hv
      cases hr : ras[i]? with
      | none => rw [hr] at hv; cases hv
      | some ra => rw [hr] at hv; cases hv; exact ⟨ra, rfl, rfl⟩
    obtain ⟨vs, nr, hra⟩ := C1.row e1 e2 e3
    have hl0 : (p0, listOf (ras.map Value.ref).toArray n2) ∈ R1 := by
      rcases List.mem_cons.mp hl0 with e | hl
      · cases e; exact absurd rfl (hR1 _ hp0)
      rcases List.mem_cons.mp hl with e | hl
      · cases e; exact absurd rfl (hR2 _ hp0)
      · exact hl
    have hoff := of_off1 (off1_of hoff)
    refine out9 ?_
    clear out9 GG9
    refine hushQ fun QQ9 outQ9 => ?_
    k_steps
    refine Stop.mk ?_
    refine for_list (L := L) rfl (fun j m nx => ∃ R', nx = (I, oI) :: (L + 1 + 1, o1) :: (L + 1, o2) :: R' ∧ (∀ p ∈ R', p.1 ≠ I) ∧ CJ w L R nn gr P (fd.n * fd.n) pas rass (WsOf fd wide) R' ∧ ∀ p ∈ [(Str.ofString "y", Value.int y ty), (Str.ofString "x", Value.int x tx), (Str.ofString "grid", Value.ref gr), (Str.ofString "frame", Value.ref f), (Str.ofString "later", Value.ref nf), (Str.ofString "found", Value.ref ng)], m p.1 = some p.2) rfl (.tail _ (.tail _ (.tail _ hra))) F N ⟨R1, rfl, fun p hp => hoff p (.tail _ (.tail _ hp)), C1, by (repeat (first | refine List.forall_mem_cons.mpr ⟨rfl, ?_⟩ | exact List.forall_mem_nil _))⟩ ?_ ?_
    · clear F N
      intro j v m₂ nx2 h2 tk2 I2 oI2 hv2 hl2 PP1 hoff2 F N
      refine hush fun GG9 out9 => ?_
      obtain ⟨R2, rfl, hoI, C2, hn2⟩ := PP1
      have F := Fr.over F [(Str.ofString "y", Value.int y ty), (Str.ofString "x", Value.int x tx), (Str.ofString "grid", Value.ref gr), (Str.ofString "frame", Value.ref f), (Str.ofString "later", Value.ref nf), (Str.ofString "found", Value.ref ng)] hn2
      dsimp only [over] at F
      have hra2 : (ra, listOf vs.toArray nr) ∈ R2 := by
        refine mem_of_ne (mem_of_ne (mem_of_ne hl2 ?_) ?_) ?_
        · exact fun e => hoff (ra, listOf vs.toArray nr) (.tail _ (.tail _ hra)) e.symm
        · exact fun e => C1.off1 _ hra e.symm
        · exact fun e => C1.off2 _ hra e.symm
      have hFn : Fn R2 := Fn.of (News.sub N fun p hp => .tail _ (.tail _ (.tail _ (.tail _ hp))))
      have hc1I : L + 1 + 1 ≠ I := hoff _ (.head _)
      have hc2I : L + 1 ≠ I := hoff _ (.tail _ (.head _))
      refine out9 ?_
      clear out9 GG9
      refine hushQ fun QQ9 outQ9 => ?_
      rcases C2.cell hFn e1 e2 e3 hra2 hv2 with rfl | ⟨b, bs, c, is, rfl, hb, hbi, hbst, l1, l2, upd⟩
      · k_steps
        refine outQ9 _ _ ?_
        refine TurnEnd.intro (nx := (I, oI) :: (L + 1 + 1, o1) :: (L + 1, o2) :: R2) F N (.head _) (fun p hp => .tail _ hp) hoff2 ⟨hl2, R2, rfl, hoI, C2, by (repeat (first | refine List.forall_mem_cons.mpr ⟨rfl, ?_⟩ | exact List.forall_mem_nil _))⟩
      · k_steps
        refine Stop.mk ?_
        refine set_mem F N (.tail _ (.tail _ (.tail _ (.tail _ hb)))) (by omega) (by rw [hbi.length]; omega) (by omega) ?_
        intro h4 F4 N4
        have bI2 : I2 ≠ b := fun e => hoff2 _ (.tail _ (.tail _ (.tail _ hb))) e.symm
        have bI : I ≠ b := fun e => hoI _ hb e.symm
        have bc1 : L + 1 + 1 ≠ b := fun e => C2.off1 _ hb e.symm
        have bc2 : L + 1 ≠ b := fun e => C2.off2 _ hb e.symm
        rw [repl_ne bI2, repl_ne bI, repl_ne bc1, repl_ne bc2] at N4
        have C4 := fun tok : Tok => upd (bs.set (Int.toNat 0) (.int (-3) tok)) (is.set (Int.toNat 0) (-3)) (ints_set hbi (-3) tok _) (by rw [List.length_set]; exact l1) (by rw [List.length_set]; exact l2)
        have hra4 : ∀ o, (ra, listOf vs.toArray nr) ∈ repl b o R2 := fun o => mem_repl hra2 fun e => hbst (e ▸ mem_st_row e2 e3)
        k_steps
        refine outQ9 _ _ ?_
        refine TurnEnd.intro (nx := (I, oI) :: (L + 1 + 1, o1) :: (L + 1, o2) :: repl b _ R2) F4 N4 (.head _) (fun p hp => .tail _ hp) ?_ ⟨.tail _ (.tail _ (.tail _ (hra4 _))), _, rfl, repl_off_all hoI, C4 _, by (repeat (first | refine List.forall_mem_cons.mpr ⟨rfl, ?_⟩ | exact List.forall_mem_nil _))⟩
        refine fc ?_ ?_
        · exact hoff2 _ (.head _)
        refine fc ?_ ?_
        · exact hoff2 _ (.tail _ (.head _))
        refine fc ?_ ?_
        · exact hoff2 _ (.tail _ (.tail _ (.head _)))
        · intro p hp
          exact repl_off_all (fun q hq => hoff2 q (.tail _ (.tail _ (.tail _ hq)))) p hp
    · intro m₂ nx2 h2 tk2 hl2 PP1 F N
      refine hush fun GG9 out9 => ?_
      obtain ⟨R2, rfl, hoI, C2, hn2⟩ := PP1
      refine out9 ?_
      clear out9 GG9
      k_steps
      refine outQ9 _ _ ?_
      refine TurnEnd.intro (nx := (L + 1 + 1, o1) :: (L + 1, o2) :: R2) F N (.head _) (fun p hp => .tail _ hp) ?_ ⟨.tail _ (.tail _ (C2.str _ hp0 (mem_st_plane e1))), R2, rfl, C2, hn2⟩
      refine fc ?_ ?_
      · exact hoff _ (.head _)
      refine fc ?_ ?_
      · exact hoff _ (.tail _ (.head _))
      · intro p hp
        exact hoI p hp
  · intro m₁ nx h tk _ PP1 F N
    refine hush fun GG9 out9 => ?_
    obtain ⟨R1, rfl, C1, hn1⟩ := PP1
    refine out9 ?_
    clear out9 GG9
    k_steps
    refine Stop.mk ?_
    exact hret h tk _ R1 F hn1 N C1
end

theorem flush73c {prog : Program} {w : World} {A : Around} {E : Value → Shared → Prop} {s : Shared} {env : Env} {Q : Flow → Shared → Prop} (h : wpAny (model prog w) A (execs [] env) Q E s) : wpAny (model prog w) A (execs [] env) Q E s := by
  w_top off
  (try (walk1; fail))
  exact h
theorem inst_ne_dict {C d : Addr} {es : List DictEntry} {n : Nat} (h : instObj C d = dictOf es n) : False := by
  have := congrArg Obj.cls h
  exact Value.noConfusion this
/-- what of a component's size is said -/
def adOf (c : CD) : Int × Int := (c.a, c.d)
theorem comp_same {w : World} {c c' : CD} {t1 t2 t3 t4 v1 v2 v3 v4 t1' t2' t3' t4' v1' v2' v3' v4' : Tok} {n n' : Nat} (h : dictOf (compEs w c t1 t2 t3 t4 v1 v2 v3 v4) n = dictOf (compEs w c' t1' t2' t3' t4' v1' v2' v3' v4') n') : adOf c = adOf c' := by
  have ed := congrArg Obj.data h
  have h1 : Data.dict (compEs w c t1 t2 t3 t4 v1 v2 v3 v4).toArray n = Data.dict (compEs w c' t1' t2' t3' t4' v1' v2' v3' v4').toArray n' := ed
  injection h1 with h1 h2
  have h3 : compEs w c t1 t2 t3 t4 v1 v2 v3 v4 = compEs w c' t1' t2' t3' t4' v1' v2' v3' v4' := by simpa using congrArg Array.toList h1
  have ea : (Value.int c.a v2) = Value.int c'.a v2' := congrArg (fun l : List DictEntry => (l.getD 1 ⟨0, .none, .none⟩).val) h3
  have ed : (Value.int c.d v3) = Value.int c'.d v3' := congrArg (fun l : List DictEntry => (l.getD 2 ⟨0, .none, .none⟩).val) h3
  injection ea with ea _
  injection ed with ed _
  unfold adOf
  rw [ea, ed]
theorem CompIn.turn {w : World} {fr : Led} (F : Fn fr) {x : Addr} {c0 : CD} (h : CompIn w fr x c0) {dx : Addr} {c c' : CD} {t1 t2 t3 t4 v1 v2 v3 v4 t1' t2' t3' t4' v1' v2' v3' v4' : Tok} {n n' : Nat} (hd : (dx, dictOf (compEs w c t1 t2 t3 t4 v1 v2 v3 v4) n) ∈ fr) (ha : adOf c' = adOf c) :
    ∃ c1, CompIn w (repl dx (dictOf (compEs w c' t1' t2' t3' t4' v1' v2' v3' v4') n') fr) x c1 ∧ adOf c1 = adOf c0 := by
  obtain ⟨d, p1, p2, p3, p4, q1, q2, q3, q4, m, hx, hdx⟩ := h
  have hxd : x ≠ dx := fun e => inst_ne_dict (F _ _ _ hx (e ▸ hd))
  by_cases e : d = dx
  · have es := F _ _ _ hdx (e ▸ hd)
    exact ⟨c', ⟨d, t1', t2', t3', t4', v1', v2', v3', v4', n', mem_repl hx hxd, e.symm ▸ mem_repl_self hd⟩, ha.trans (comp_same es).symm⟩
  · exact ⟨c0, ⟨d, p1, p2, p3, p4, q1, q2, q3, q4, m, mem_repl hx hxd, mem_repl hdx e⟩, rfl⟩
theorem CompsIn.turn {w : World} {fr : Led} (F : Fn fr) {xs : List Addr} {cs : List CD} (h : CompsIn w fr xs cs) {dx : Addr} {c c' : CD} {t1 t2 t3 t4 v1 v2 v3 v4 t1' t2' t3' t4' v1' v2' v3' v4' : Tok} {n n' : Nat} (hd : (dx, dictOf (compEs w c t1 t2 t3 t4 v1 v2 v3 v4) n) ∈ fr) (ha : adOf c' = adOf c) :
    ∃ cs', CompsIn w (repl dx (dictOf (compEs w c' t1' t2' t3' t4' v1' v2' v3' v4') n') fr) xs cs' ∧ cs'.map adOf = cs.map adOf := by
  induction h with
  | nil => exact ⟨[], .nil, rfl⟩
  | cons h1 _ ih =>
    obtain ⟨c1, z1, z2⟩ := h1.turn F hd ha (t1' := t1') (t2' := t2') (t3' := t3') (t4' := t4') (v1' := v1') (v2' := v2') (v3' := v3') (v4' := v4') (n' := n')
    obtain ⟨cs', z3, z4⟩ := ih
    exact ⟨c1 :: cs', .cons z1 z3, by rw [List.map_cons, List.map_cons, z2, z4]⟩
/-- a frame of which a component's dict is changed, its size kept -/
theorem Pic.turn {w : World} {R fr nn : Led} {f gr P : Addr} {pas : List Addr} {rass : List (List Addr)} {fd : FD} {c0 : CD} {more : List CD} {wide high : Int} {G : Nat → Nat → Nat → Cell} (h : Pic w R fr nn f gr P pas rass fd c0 more wide high G) (F : Fn R)
    {dx : Addr} {c c' : CD} {t1 t2 t3 t4 v1 v2 v3 v4 t1' t2' t3' t4' v1' v2' v3' v4' : Tok} {n n' : Nat} (hd : (dx, dictOf (compEs w c t1 t2 t3 t4 v1 v2 v3 v4) n) ∈ fr) (ha : adOf c' = adOf c) :
    ∃ fd' c0' more', Pic w (repl dx (dictOf (compEs w c' t1' t2' t3' t4' v1' v2' v3' v4') n') R) (repl dx (dictOf (compEs w c' t1' t2' t3' t4' v1' v2' v3' v4') n') fr) nn f gr P pas rass fd' c0' more' wide high G := by
  obtain ⟨hF, ok, hG, hS, hok, frs, nns, ap⟩ := h
  obtain ⟨d, cl, xs, p1, p2, p3, p4, p5, p6, q1, q2, q3, q4, q6, m, m0, hf, hfd, hcl, hC⟩ := hF
  have Ff := F.sub frs
  obtain ⟨cs', hC', em⟩ := hC.turn Ff hd ha (t1' := t1') (t2' := t2') (t3' := t3') (t4' := t4') (v1' := v1') (v2' := v2') (v3' := v3') (v4' := v4') (n' := n')
  have hfx : f ≠ dx := fun e => inst_ne_dict (Ff _ _ _ hf (e ▸ hd))
  have hcx : cl ≠ dx := fun e => dict_ne_list (Ff _ _ _ (e ▸ hd) hcl)
  have hdx : d ≠ dx := fun e => by
    have z := Ff _ _ _ hfd (e ▸ hd)
    have ed := congrArg Obj.data z
    have h1 : Data.dict (frameEs w fd.height fd.width fd.n cl p1 p2 p3 p4 p5 p6 q1 q2 q3 q4 q6).toArray m = Data.dict (compEs w c t1 t2 t3 t4 v1 v2 v3 v4).toArray n := ed
    injection h1 with h1 _
    have := congrArg Array.size h1
    simp at this
  have key : ∀ k : Nat, adOf (cAt ⟨fd.height, fd.width, fd.n, cs'⟩ k) = adOf (cAt fd k) := fun k => by
    have z := congrArg (fun l : List (Int × Int) => l[k]?) em
    simp only [List.getElem?_map] at z
    unfold cAt
    simp only [List.getD_eq_getElem?_getD]
    cases h1 : cs'[k]? with
    | none =>
      cases h2 : fd.comps[k]? with
      | none => rfl
      | some b => rw [h1, h2] at z; cases z
    | some a =>
      cases h2 : fd.comps[k]? with
      | none => rw [h1, h2] at z; cases z
      | some b => rw [h1, h2] at z; exact Option.some.inj z
  have keya : ∀ k, (cAt ⟨fd.height, fd.width, fd.n, cs'⟩ k).a = (cAt fd k).a := fun k => congrArg Prod.fst (key k)
  have keyd : ∀ k, (cAt ⟨fd.height, fd.width, fd.n, cs'⟩ k).d = (cAt fd k).d := fun k => congrArg Prod.snd (key k)
  have hlen : cs'.length = fd.comps.length := by simpa using congrArg List.length em
  have eW : WsOf ⟨fd.height, fd.width, fd.n, cs'⟩ wide = WsOf fd wide := by funext k; unfold WsOf; rw [keya]
  have eH : HsOf ⟨fd.height, fd.width, fd.n, cs'⟩ high = HsOf fd high := by funext k; unfold HsOf; rw [keyd]
  obtain ⟨hcs, hfew, hone, ha1, ha3, hd1, hd2, hn1, hn2, hw1, hw3, hh1, hh3, hwd, hht, hht'⟩ := ok
  rw [hcs, List.map_cons] at em
  match cs', em with
  | c0' :: more', em =>
    rw [List.map_cons] at em
    injection em with e0 e1
    have e0a : c0'.a = c0.a := congrArg Prod.fst e0
    have e0d : c0'.d = c0.d := congrArg Prod.snd e0
    refine ⟨⟨fd.height, fd.width, fd.n, c0' :: more'⟩, c0', more', ⟨d, cl, xs, p1, p2, p3, p4, p5, p6, q1, q2, q3, q4, q6, m, m0, mem_repl hf hfx, mem_repl hfd hdx, mem_repl hcl hcx, hC'⟩, ?_, ?_, ?_, hok, repl_mono frs, fun p hp => mem_repl (nns p hp) (ap _ hd p hp).symm, ap.sub repl_addr⟩
    · refine ⟨rfl, ?_, ?_, by rw [e0a]; exact ha1, by rw [e0a]; exact ha3, by rw [e0d]; exact hd1, by rw [e0d]; exact hd2, hn1, hn2, hw1, hw3, hh1, hh3, by rw [e0a]; exact hwd, by rw [e0d]; exact hht, by rw [e0d]; exact hht'⟩
      · have : more'.length = more.length := by simpa using congrArg List.length e1
        omega
      · intro z hz
        have hm : adOf z ∈ more.map adOf := by rw [← e1]; exact List.mem_map.mpr ⟨z, hz, rfl⟩
        obtain ⟨y, hy, ey⟩ := List.mem_map.mp hm
        have z1 := hone y hy
        exact ⟨(congrArg Prod.fst ey).symm.trans z1.1, (congrArg Prod.snd ey).symm.trans z1.2⟩
    · rw [eW]; exact hG
    · exact ⟨hS.lp.trans hlen.symm, hS.lr.trans hlen.symm, fun k ras e => by rw [eH]; exact hS.hts k ras e, hS.nodup⟩
/-- a cell is put -/
theorem Pic.put {w : World} {R fr nn : Led} {f gr P : Addr} {pas : List Addr} {rass : List (List Addr)} {fd : FD} {c0 : CD} {more : List CD} {wide high : Int} {G : Nat → Nat → Nat → Cell} (h : Pic w R fr nn f gr P pas rass fd c0 more wide high G) (F : Fn R)
    {k y x : Nat} {ras : List Addr} {ra : Addr} (e2 : rass[k]? = some ras) (e3 : ras[y]? = some ra) (e4 : x < WsOf fd wide k) {vs : List Value} {n : Nat} (hra : (ra, listOf vs.toArray n) ∈ nn) {b : Addr} {rvs : List Value} {c : Nat} {is : List Int} (hi : IntsAre rvs is) (l1 : 1 ≤ is.length) (l2 : is.length ≤ 1000) (hb : ∀ q ∈ R, q.1 ≠ b) :
    Pic w ((b, listOf rvs.toArray c) :: repl ra (listOf (vs.set x (.ref b)).toArray n) R) fr ((b, listOf rvs.toArray c) :: repl ra (listOf (vs.set x (.ref b)).toArray n) nn) f gr P pas rass fd c0 more wide high (upd G k y x (some is)) := by
  obtain ⟨hF, ok, hG, hS, hok, frs, nns, ap⟩ := h
  have hbs : b ∉ stOf P pas rass := fun hm => by
    obtain ⟨o', ho'⟩ := hG.st_in (hS.lp.trans hS.lr.symm) b hm
    exact hb _ (nns _ ho') rfl
  refine ⟨hF, ok, GridIn.put (F.sub nns) hG hS.nodup e2 e3 e4 hra hi (fun q hq => hb q (nns q hq)) hbs, hS, hok.upd l1 l2, fun p hp => .tail _ (mem_repl (frs p hp) (ap p hp _ hra)), fun p hp => ?_, fun p hp q hq => ?_⟩
  · rcases List.mem_cons.mp hp with rfl | hp
    · exact .head _
    · exact .tail _ (repl_mono nns p hp)
  · rcases List.mem_cons.mp hq with rfl | hq
    · exact hb _ (frs p hp)
    · obtain ⟨q', hq', e⟩ := repl_addr q hq
      rw [← e]; exact ap p hp q' hq'

theorem flush74upd {prog : Program} {w : World} {A : Around} {E : Value → Shared → Prop} {s : Shared} {env : Env} {Q : Flow → Shared → Prop} (h : wpAny (model prog w) A (execs [] env) Q E s) : wpAny (model prog w) A (execs [] env) Q E s := by
  w_top off
  (try (walk1; fail))
  exact h
theorem setq_mem (w : World) (mean : ExcName → Option Value) (mg mb : Str → Option Value) (L fa : Addr) (cd : Value) (news : Led) (x dx : Addr) (c : CD) (t1 t2 t3 t4 v1 v2 v3 v4 : Tok) (n : Nat) (k : Int) (tk : Tok)
    (hx : (x, instObj 70 dx) ∈ news) (hdx : (dx, dictOf (compEs w c t1 t2 t3 t4 v1 v2 v3 v4) n) ∈ news) :
    ∀ (h₀ : Heap) (m : Str → Option Value) (s : Shared) (Q : Unit → Shared → Prop) (E : Value → Shared → Prop),
    Fr h₀ L s.heap m → (hd.heap_39 w.params).In h₀ → News h₀ L s.heap news → Top hd.view_39 (looseW hd.view_39 []) mean mg mb h₀ →
    (∀ h' tk', Fr h₀ L h' m → News h₀ L h' (repl dx (dictOf (compEs w ⟨c.i, c.a, c.d, k⟩ t1 t2 t3 t4 v1 v2 v3 tk) n) news) → Q () { s with heap := h', toks := tk' }) →
    wpAny (model PySem.Challenge.rw_pf0232_01.row.prog w) (lawA L fa cd) (setAttr (.ref x) (Str.ofString "quant") (.int k tk)) Q E s := by
  k_fill
  intro h₀ m s Q E F X N T hret
  have hxd : x ≠ dx := fun e => inst_ne_dict (News.func N hx (e ▸ hdx))
  have N1 := News.take N hdx
  have hx1 := mem_drop hx hxd
  have hoff : ∀ q ∈ drop dx news, q.1 ≠ dx := drop_off
  clear N
  k_dflt (refine' set_dict (es' := compEs w ⟨c.i, c.a, c.d, k⟩ t1 t2 t3 t4 v1 v2 v3 tk) (n' := n) ?k1 ?k2 ?k3 ?k4 ?k5 ?k6 ?k7 ?k8 ?k9 ?k10 ?k11 ?k12 ?k13 ?_)
  case k1 => k_asm
  case k2 => k_asm
  case k3 => k_asm
  case k4 => k_inst
  case k5 => exact rfl
  case k6 => k_is
  case k7 => k_is
  case k8 => k_is
  case k9 => k_is
  case k10 => k_get
  case k11 => with_unfolding_all rfl
  case k12 => k_upd
  case k13 => exact Nat.le_of_ble_eq_true rfl
  intro h' F' N'
  exact hret h' _ F' (News.back N')
theorem seti_mem (w : World) (mean : ExcName → Option Value) (mg mb : Str → Option Value) (L fa : Addr) (cd : Value) (news : Led) (x dx : Addr) (c : CD) (t1 t2 t3 t4 v1 v2 v3 v4 : Tok) (n : Nat) (k : Int) (tk : Tok)
    (hx : (x, instObj 70 dx) ∈ news) (hdx : (dx, dictOf (compEs w c t1 t2 t3 t4 v1 v2 v3 v4) n) ∈ news) :
    ∀ (h₀ : Heap) (m : Str → Option Value) (s : Shared) (Q : Unit → Shared → Prop) (E : Value → Shared → Prop),
    Fr h₀ L s.heap m → (hd.heap_39 w.params).In h₀ → News h₀ L s.heap news → Top hd.view_39 (looseW hd.view_39 []) mean mg mb h₀ →
    (∀ h' tk', Fr h₀ L h' m → News h₀ L h' (repl dx (dictOf (compEs w ⟨k, c.a, c.d, c.q⟩ t1 t2 t3 t4 tk v2 v3 v4) n) news) → Q () { s with heap := h', toks := tk' }) →
    wpAny (model PySem.Challenge.rw_pf0232_01.row.prog w) (lawA L fa cd) (setAttr (.ref x) (Str.ofString "ident") (.int k tk)) Q E s := by
  k_fill
  intro h₀ m s Q E F X N T hret
  have hxd : x ≠ dx := fun e => inst_ne_dict (News.func N hx (e ▸ hdx))
  have N1 := News.take N hdx
  have hx1 := mem_drop hx hxd
  have hoff : ∀ q ∈ drop dx news, q.1 ≠ dx := drop_off
  clear N
  k_dflt (refine' set_dict (es' := compEs w ⟨k, c.a, c.d, c.q⟩ t1 t2 t3 t4 tk v2 v3 v4) (n' := n) ?k1 ?k2 ?k3 ?k4 ?k5 ?k6 ?k7 ?k8 ?k9 ?k10 ?k11 ?k12 ?k13 ?_)
  case k1 => k_asm
  case k2 => k_asm
  case k3 => k_asm
  case k4 => k_inst
  case k5 => exact rfl
  case k6 => k_is
  case k7 => k_is
  case k8 => k_is
  case k9 => k_is
  case k10 => k_get
  case k11 => with_unfolding_all rfl
  case k12 => k_upd
  case k13 => exact Nat.le_of_ble_eq_true rfl
  intro h' F' N'
  exact hret h' _ F' (News.back N')

theorem flush75set {prog : Program} {w : World} {A : Around} {E : Value → Shared → Prop} {s : Shared} {env : Env} {Q : Flow → Shared → Prop} (h : wpAny (model prog w) A (execs [] env) Q E s) : wpAny (model prog w) A (execs [] env) Q E s := by
  w_top off
  (try (walk1; fail))
  exact h
theorem Apart.put {a gx R : Led} {ra b : Addr} {o x : Obj} (h : Apart a gx) (hs : ∀ p ∈ a, p ∈ R) (hb : ∀ q ∈ R, q.1 ≠ b) : Apart a ((b, x) :: repl ra o gx) := fun p hp q hq => by
  rcases List.mem_cons.mp hq with rfl | hq
  · exact hb p (hs p hp)
  · obtain ⟨q', hq', e⟩ := repl_addr q hq
    rw [← e]; exact h p hp q' hq'
theorem Apart.turn {a b : Led} {u : Addr} {o : Obj} (h : Apart a b) : Apart a (repl u o b) := (h.symm.sub repl_addr).symm
section
theorem lawD_con (w : World) (mean : ExcName → Option Value) (mg mb : Str → Option Value) (L : Addr) (o1 o2 : Obj) (R fr gx fr2 nn2 dK : Led) (kv : Addr) (kvs : List Value) (kn : Nat) (h1 : o1.data = .cell (some (.ref kv))) (h2 : ∃ c, o2.data = .cell c)
    (f gr P : Addr) (fd : FD) (c0 : CD) (more : List CD) (wide high : Int) (pas : List Addr) (rass : List (List Addr)) (G : Nat → Nat → Nat → Cell) (pic : Pic w R fr gx f gr P pas rass fd c0 more wide high G)
    (nf ng nP : Addr) (npas : List Addr) (nrass : List (List Addr)) (fd2 : FD) (c2 : CD) (more2 : List CD) (W H : Int) (G2 : Nat → Nat → Nat → Cell) (pic2 : Pic w R fr2 nn2 nf ng nP npas nrass fd2 c2 more2 W H G2)
    (hkv : (kv, listOf kvs.toArray kn) ∈ dK) (hdk : DatAll dK kvs (allDats fd2 W H G2)) (hdK : ∀ p ∈ dK, p ∈ R)
    (a1 : Apart fr2 fr) (a2 : Apart fr2 gx) (a3 : Apart nn2 fr) (a4 : Apart nn2 gx) (a5 : Apart dK fr) (a6 : Apart dK gx)
    (hR1 : ∀ p ∈ R, p.1 ≠ L + 1 + 1) (hR2 : ∀ p ∈ R, p.1 ≠ L + 1) (x y : Int) (tx ty : Tok) (hx0 : 0 ≤ x) (hx : x < wide) (hy0 : 0 ≤ y) (hy : y < high) :
    ∀ (h₀ : Heap) (fa : Addr) (cd : Value) (m : Str → Option Value) (s : Shared) (Q : Flow → Shared → Prop),
    Fr h₀ L s.heap m → (∀ p ∈ [(Str.ofString "y", Value.int y ty), (Str.ofString "x", Value.int x tx), (Str.ofString "grid", Value.ref gr), (Str.ofString "frame", Value.ref f), (Str.ofString "later", Value.ref nf), (Str.ofString "found", Value.ref ng)], m p.1 = some p.2) →
    (hd.heap_39 w.params).In h₀ → News h₀ L s.heap ((L + 1 + 1, o1) :: (L + 1, o2) :: R) → Top hd.view_39 (looseW hd.view_39 []) mean mg mb h₀ →
    (∀ h' tk' m' R' fr' gx' fd' c0' more' G', Fr h₀ L h' m' → (∀ p ∈ [(Str.ofString "grid", Value.ref gr), (Str.ofString "frame", Value.ref f), (Str.ofString "later", Value.ref nf), (Str.ofString "found", Value.ref ng)], m' p.1 = some p.2) →
      News h₀ L h' ((L + 1 + 1, o1) :: (L + 1, o2) :: R') → (∀ p ∈ R', p.1 ≠ L + 1 + 1) → (∀ p ∈ R', p.1 ≠ L + 1) → Pic w R' fr' gx' f gr P pas rass fd' c0' more' wide high G' → Pic w R' fr2 nn2 nf ng nP npas nrass fd2 c2 more2 W H G2 →
      Apart fr2 fr' → Apart fr2 gx' → Apart nn2 fr' → Apart nn2 gx' →
      wpAny (model PySem.Challenge.rw_pf0232_01.row.prog w) (lawA L fa cd) (execs (lawBody.drop 17) (lawEnv L fa cd)) Q (fun _ _ => False) { s with heap := h', toks := tk' }) →
    wpAny (model PySem.Challenge.rw_pf0232_01.row.prog w) (lawA L fa cd) (execs (lawBody.drop 14) (lawEnv L fa cd)) Q (fun _ _ => False) s := by
  k_fill
  intro h₀ fa cd m s Q F hm X N T hret
  have B := below_caller h₀
  have em := over_eq hm
  rw [← em] at F
  dsimp only [over] at F
  refine hush fun GG9 out9 => ?_
  obtain ⟨hF, ok, hG, hS, hok, frs, nns, ap⟩ := id pic
  obtain ⟨dg, b1, b2, b3, b4, b5, hg, hdg, hP, hPl⟩ := hG.mono nns
  obtain ⟨d, cl, xs, t1, t2, t3, t4, t5, t6, v1, v2, v3, v4, v6, n, n0, hf0, hfd0, hcl0, hC⟩ := id hF
  have hf := frs _ hf0
  have hfd := frs _ hfd0
  have hcl := frs _ hcl0
  have hlen : 0 < fd.comps.length := by rw [ok.comps]; exact Nat.succ_pos _
  have hc0 : fd.comps[(0 : Int).toNat]? = some c0 := by rw [ok.comps]; rfl
  obtain ⟨x0, hx1, dx, p1, p2, p3, p4, q1, q2, q3, q4, nd, hx00, hxd0⟩ := hC.get hc0
  have hxv : (xs.map Value.ref)[(0 : Int).toNat]? = some (.ref x0) := by rw [List.getElem?_map, hx1]; rfl
  have hx00R := frs _ hx00
  have hxd0R := frs _ hxd0
  have hnn := ok.nn
  have hnn0 : 0 ≤ fd.n * fd.n := by omega
  have hnn1 : fd.n * fd.n ≤ 256 := by omega
  have hn1 := ok.n1
  have hn2 := ok.n2
  have hw3 := ok.w3
  have hh3 := ok.h3
  have hca := ok.ca 0 hlen
  have ec0 : cAt fd 0 = c0 := by unfold cAt; rw [ok.comps]; rfl
  rw [ec0] at hca
  refine out9 ?_
  clear out9 GG9
  show wpAny _ (callerA.deeper (envOfC _ (Scope.mk _ _ _ _ _) _ _ _)) (execs (_ :: _) (envOfC _ (Scope.mk _ _ _ _ _) _ _ _)) _ _ _
  have sk9 : StopKey "setAttr ref" := ⟨trivial⟩
  have sk8 : StopKey "compareOp NotEq ref ref" := ⟨trivial⟩
  have sl9 : StopLine 167 := ⟨trivial⟩
  k_steps
  rename_i l1 g1 lt1 D2 g2 F2 N2 lt2
  refine Stop.mk ?_
  obtain ⟨p0, e1⟩ : ∃ p, pas[(0 : Int).toNat]? = some p := ⟨_, List.getElem?_eq_getElem (by rw [hS.lp]; exact hlen)⟩
  obtain ⟨ras, e2⟩ : ∃ z, rass[(0 : Int).toNat]? = some z := ⟨_, List.getElem?_eq_getElem (by rw [hS.lr]; exact hlen)⟩
  have xb := mul_le_ad (w := wide) (m := 1) (i := 0) hca.1 hca.2.1 hx0 (by omega) (by omega) (by omega)
  have yb := mul_le_ad (w := high) (m := 1) (i := 0) hca.2.2.1 (by omega) hy0 (by omega) (by omega) (by omega)
  rw [Int.add_zero] at xb yb
  have xw : wide * c0.a ≤ 9 := Int.mul_le_mul (c := 3) (d := 3) hw3 hca.2.1 (by omega) (by omega)
  have yw : high * c0.d ≤ 6 := Int.mul_le_mul (c := 3) (d := 2) hh3 hca.2.2.2 (by omega) (by omega)
  have hrl : ras.length = (high * c0.d).toNat := by have := hS.hts _ _ e2; rw [this]; show (high * (cAt fd 0).d).toNat = _; rw [ec0]
  refine hush fun GG9 out9 => ?_
  obtain ⟨ra, e3⟩ : ∃ ra, ras[(y * c0.d).toNat]? = some ra := ⟨_, List.getElem?_eq_getElem (by omega)⟩
  have e4 : (x * c0.a).toNat < WsOf fd wide (0 : Int).toNat := by show _ < (wide * (cAt fd 0).a).toNat; rw [ec0]; omega
  obtain ⟨vr, nr, hrag, hvr⟩ := hG.row_in e1 e2 e3
  have hraR := nns _ hrag
  obtain ⟨hpr, hPr⟩ := st_apart hS.nodup e1 e2 e3
  obtain ⟨tkm, htkm⟩ : ∃ z : Tok, z = s.toks + 1 + 1 + 1 + 1 + 1 + 1 + 1 + 1 + 1 + 1 := ⟨_, rfl⟩
  rw [← htkm] at N2
  have hlr : 1 ≤ (List.replicate (fd.n * fd.n).toNat (-1 : Int)).length ∧ (List.replicate (fd.n * fd.n).toNat (-1 : Int)).length ≤ 1000 := by rw [List.length_replicate]; omega
  refine out9 ?_
  clear out9 GG9
  k_dflt (refine' Con.use (put_con w mean mg mb _ (stOf P pas rass) gr P (fd.n * fd.n) pas rass (WsOf fd wide) G (hG.mono ?sub) 0 (y * c0.d) (x * c0.a) _ _ _ p0 ras ra ?k0 ?k1 ?y0 ?y1 ?x0 ?x1 e1 e2 e3 e4 _ _ _ _ ?hr (ints_rep (-1) tkm _) ?il ?rr hpr hPr) ?B ?F ?X ?N ?T ?hk ?hd ?hu ?_)
  case N => k_asm
  case sub => exact fun q hq => .tail _ (.tail _ (.tail _ (.tail _ (nns q hq))))
  case hr => exact .head _
  case k0 => omega
  case k1 => omega
  case y0 => omega
  case y1 => omega
  case x0 => omega
  case x1 => omega
  case il => exact hlr.2
  case rr => exact Nat.ne_of_gt (lt_allLt lt2.2.2.2 _ hraR)
  case B => k_asm
  case F => k_asm
  case X => k_asm
  case T => k_asm
  case hk => exact rfl
  case hd => ktr_room
  case hu => ktr_units
  k_whole
  intro r9 n9 h9 tk9 F9 N9 PP1
  refine hush fun GG9 out9 => ?_
  obtain ⟨rfl, b9, c9, vs9, nn9, hra9, hvl9, e9, hb9⟩ := PP1
  subst e9
  refine out9 ?_
  clear out9 GG9
  try dsimp only
  try k_fold
  have hFn2 := Fn.of N2
  have hra9' : (ra, listOf vs9.toArray nn9) ∈ gx := by
    have z := hFn2 _ _ _ hra9 (.tail _ (.tail _ (.tail _ (.tail _ hraR))))
    rw [z]; exact hrag
  have hFnR : Fn R := hFn2.sub fun p hp => .tail _ (.tail _ (.tail _ (.tail _ hp)))
  have hb9R : ∀ q ∈ R, q.1 ≠ b9 := fun q hq => hb9 q (.tail _ (.tail _ (.tail _ (.tail _ hq))))
  have pic3 := pic.put hFnR e2 e3 e4 hra9' (b := b9) (c := c9) (ints_rep (-1) tkm (fd.n * fd.n).toNat) hlr.1 hlr.2 hb9R
  have N3 : News h₀ L h9 ((L + 1 + 1, o1) :: (L + 1, o2) :: (b9, listOf (List.replicate (fd.n * fd.n).toNat (Value.int (-1) tkm)).toArray c9) :: repl ra (listOf (vs9.set (x * c0.a).toNat (Value.ref b9)).toArray nn9) R) := News.sub N9 <| by
    refine fc ?_ ?_
    · exact .tail _ (mem_repl (.tail _ (.tail _ (.head _))) (hR1 _ hraR).symm)
    refine fc ?_ ?_
    · exact .tail _ (mem_repl (.tail _ (.tail _ (.tail _ (.head _)))) (hR2 _ hraR).symm)
    refine fc ?_ ?_
    · exact .head _
    · intro p hp
      exact .tail _ (repl_mono (fun q hq => .tail _ (.tail _ (.tail _ (.tail _ hq)))) p hp)
  have of1 : ∀ p ∈ (b9, listOf (List.replicate (fd.n * fd.n).toNat (Value.int (-1) tkm)).toArray c9) :: repl ra (listOf (vs9.set (x * c0.a).toNat (Value.ref b9)).toArray nn9) R, p.1 ≠ L + 1 + 1 := by
    refine fc ?_ ?_
    · exact (hb9 _ (.tail _ (.tail _ (.head _)))).symm
    · intro p hp
      exact repl_off_all hR1 p hp
  have of2 : ∀ p ∈ (b9, listOf (List.replicate (fd.n * fd.n).toNat (Value.int (-1) tkm)).toArray c9) :: repl ra (listOf (vs9.set (x * c0.a).toNat (Value.ref b9)).toArray nn9) R, p.1 ≠ L + 1 := by
    refine fc ?_ ?_
    · exact (hb9 _ (.tail _ (.tail _ (.tail _ (.head _))))).symm
    · intro p hp
      exact repl_off_all hR2 p hp
  have pic2a := pic2.mono (R' := (b9, listOf (List.replicate (fd.n * fd.n).toNat (Value.int (-1) tkm)).toArray c9) :: repl ra (listOf (vs9.set (x * c0.a).toNat (Value.ref b9)).toArray nn9) R) (fun p hp => .tail _ (mem_repl (pic2.frs p hp) (a2 p hp _ hra9'))) (fun p hp => .tail _ (mem_repl (pic2.nns p hp) (a4 p hp _ hra9')))
  have hdK3 : ∀ p ∈ dK, p ∈ (b9, listOf (List.replicate (fd.n * fd.n).toNat (Value.int (-1) tkm)).toArray c9) :: repl ra (listOf (vs9.set (x * c0.a).toNat (Value.ref b9)).toArray nn9) R := fun p hp => .tail _ (mem_repl (hdK p hp) (a6 p hp _ hra9'))
  have a2' := Apart.put (ra := ra) (b := b9) (x := listOf (List.replicate (fd.n * fd.n).toNat (Value.int (-1) tkm)).toArray c9) (o := listOf (vs9.set (x * c0.a).toNat (Value.ref b9)).toArray nn9) a2 pic2.frs hb9R
  have a4' := Apart.put (ra := ra) (b := b9) (x := listOf (List.replicate (fd.n * fd.n).toNat (Value.int (-1) tkm)).toArray c9) (o := listOf (vs9.set (x * c0.a).toNat (Value.ref b9)).toArray nn9) a4 pic2.nns hb9R
  clear N9 N2 hFn2 hra9 hb9 hb9R hdK hR1 hR2 pic2 pic a2 a4 a6 hdg hP hPl hg
  generalize (b9, listOf (List.replicate (fd.n * fd.n).toNat (Value.int (-1) tkm)).toArray c9) :: repl ra (listOf (vs9.set (x * c0.a).toNat (Value.ref b9)).toArray nn9) R = R3 at *
  generalize (b9, listOf (List.replicate (fd.n * fd.n).toNat (Value.int (-1) tkm)).toArray c9) :: repl ra (listOf (vs9.set (x * c0.a).toNat (Value.ref b9)).toArray nn9) gx = gx3 at *
  have hf3 := pic3.frs _ hf0
  have hfd3 := pic3.frs _ hfd0
  have hcl3 := pic3.frs _ hcl0
  have hx003 := pic3.frs _ hx00
  have hxd03 := pic3.frs _ hxd0
  clear hf hfd hcl hx00R hxd0R
  k_steps
  refine Stop.mk ?_
  refine setq_mem w mean mg mb L fa cd _ x0 dx c0 p1 p2 p3 p4 q1 q2 q3 q4 nd 9 _ (.tail _ (.tail _ hx003)) (.tail _ (.tail _ hxd03)) _ _ _ _ _ F9 X N3 T ?_
  intro h10 tk10 F10 N10
  have c1x : L + 1 + 1 ≠ dx := fun e => of1 _ hxd03 e.symm
  have c2x : L + 1 ≠ dx := fun e => of2 _ hxd03 e.symm
  rw [repl_ne c1x, repl_ne c2x] at N10
  have hFn3 : Fn R3 := Fn.of (News.sub N3 fun p hp => .tail _ (.tail _ hp))
  refine hush fun GG9 out9 => ?_
  obtain ⟨tkq, htkq⟩ : ∃ z : Tok, z = ({ heap := h9, gens := s.gens, drawn := s.drawn, toks := tk9, os := s.os } : Shared).toks := ⟨_, rfl⟩
  rw [← htkq] at N10
  obtain ⟨fd4, c4, more4, pic4⟩ := pic3.turn hFn3 (c' := ⟨c0.i, c0.a, c0.d, 9⟩) (t1' := p1) (t2' := p2) (t3' := p3) (t4' := p4) (v1' := q1) (v2' := q2) (v3' := q3) (v4' := tkq) (n' := nd) hxd0 rfl
  have pic2b := pic2a.mono (R' := repl dx (dictOf (compEs w ⟨c0.i, c0.a, c0.d, 9⟩ p1 p2 p3 p4 q1 q2 q3 tkq) nd) R3) (fun p hp => mem_repl (pic2a.frs p hp) (a1 p hp _ hxd0)) (fun p hp => mem_repl (pic2a.nns p hp) (a3 p hp _ hxd0))
  have hdK4 : ∀ p ∈ dK, p ∈ repl dx (dictOf (compEs w ⟨c0.i, c0.a, c0.d, 9⟩ p1 p2 p3 p4 q1 q2 q3 tkq) nd) R3 := fun p hp => mem_repl (hdK3 p hp) (a5 p hp _ hxd0)
  have a1' := Apart.turn (u := dx) (o := dictOf (compEs w ⟨c0.i, c0.a, c0.d, 9⟩ p1 p2 p3 p4 q1 q2 q3 tkq) nd) a1
  have a3' := Apart.turn (u := dx) (o := dictOf (compEs w ⟨c0.i, c0.a, c0.d, 9⟩ p1 p2 p3 p4 q1 q2 q3 tkq) nd) a3
  have of1' := repl_off_all (u := dx) (o := dictOf (compEs w ⟨c0.i, c0.a, c0.d, 9⟩ p1 p2 p3 p4 q1 q2 q3 tkq) nd) of1
  have of2' := repl_off_all (u := dx) (o := dictOf (compEs w ⟨c0.i, c0.a, c0.d, 9⟩ p1 p2 p3 p4 q1 q2 q3 tkq) nd) of2
  clear N3 hFn3 pic3 pic2a hdK3 a1 a3 a5 of1 of2 hf3 hfd3 hcl3 hx003 hxd03
  generalize repl dx (dictOf (compEs w ⟨c0.i, c0.a, c0.d, 9⟩ p1 p2 p3 p4 q1 q2 q3 tkq) nd) R3 = R4 at *
  generalize repl dx (dictOf (compEs w ⟨c0.i, c0.a, c0.d, 9⟩ p1 p2 p3 p4 q1 q2 q3 tkq) nd) fr = fr4 at *
  refine out9 ?_
  clear out9 GG9
  k_steps
  refine Stop.mk ?_
  k_dflt (refine' Con.use (all_con _ _ _ _ _ nf ng nP (stOf nP npas nrass) fd2 c2 more2 W H (fd2.n * fd2.n) npas nrass G2 (pic2b.hF.mono ?s1) pic2b.ok (pic2b.hG.mono ?s2) pic2b.hS pic2b.hok) ?B ?F ?X ?N ?T ?hk ?hd ?hu ?_)
  case N => k_asm
  case s1 => exact fun p hp => .tail _ (.tail _ (pic2b.frs p hp))
  case s2 => exact fun p hp => .tail _ (.tail _ (pic2b.nns p hp))
  case B => k_asm
  case F => k_asm
  case X => k_asm
  case T => k_asm
  case hk => exact rfl
  case hd => ktr_room
  case hu => ktr_units
  k_whole
  intro r5 n5 h5 tk5 F5 N5 PP1
  refine hush fun GG9 out9 => ?_
  obtain ⟨W5, D5⟩ := PP1
  obtain ⟨dB, bv, bvs, bk, rfl, hbv, hbd, dBf⟩ := dat_new D5
  refine out9 ?_
  clear out9 GG9
  try dsimp only
  try k_fold
  have N0 := N5
  clear N5 D5
  refine hush fun GG9 out9 => ?_
  obtain ⟨R5, N5, of51, of52, in5⟩ := News.norm2 N0 (W5.sub _ (.head _)) (W5.sub _ (.tail _ (.head _)))
  have inR5 : ∀ p ∈ R4, p ∈ R5 := fun p hp => in5 p (W5.sub _ (.tail _ (.tail _ hp))) (of1' p hp) (of2' p hp)
  have dB5 : ∀ p ∈ dB, p ∈ R5 := fun p hp => in5 p (dBf p hp).1 ((dBf p hp).2 _ (.head _)).symm ((dBf p hp).2 _ (.tail _ (.head _))).symm
  clear N0 in5 W5 dBf
  refine out9 ?_
  clear out9 GG9
  k_steps
  refine Stop.mk ?_
  refine ne_same (n₁ := dB) (n₂ := dK) N5 (.tail _ (.tail _ (dB5 _ hbv))) hbd (fun p hp => .tail _ (.tail _ (dB5 p hp))) (.tail _ (.tail _ (inR5 _ (hdK4 _ hkv)))) hdk (fun p hp => .tail _ (.tail _ (inR5 _ (hdK4 p hp)))) (all_ok8 fd2 W H G2) (by ktr_units) ?_
  k_steps
  refine Stop.mk ?_
  exact hret h5 tk5 _ R5 fr4 gx3 fd4 c4 more4 _ F5 (by (repeat (first | refine List.forall_mem_cons.mpr ⟨rfl, ?_⟩ | exact List.forall_mem_nil _))) N5 of51 of52 (pic4.mono (fun p hp => inR5 p (pic4.frs p hp)) (fun p hp => inR5 p (pic4.nns p hp))) (pic2b.mono (fun p hp => inR5 p (pic2b.frs p hp)) (fun p hp => inR5 p (pic2b.nns p hp))) a1' a2' a3' a4'
end

theorem flush76d {prog : Program} {w : World} {A : Around} {E : Value → Shared → Prop} {s : Shared} {env : Env} {Q : Flow → Shared → Prop} (h : wpAny (model prog w) A (execs [] env) Q E s) : wpAny (model prog w) A (execs [] env) Q E s := by
  w_top off
  (try (walk1; fail))
  exact h
/-- the last item of a list of the ledger -/
theorem item_last {prog : Program} {w : World} {A : Around} {E : Value → Shared → Prop} {s : Shared} {value slice : PySem.Expr} {l : Addr} {vs : List Value} {n : Nat} {u : Tok} {v : Value} {h₀ : Heap} {L : Addr} {news : Led} {Q : Value → Shared → Prop}
    (N : News h₀ L s.heap news) (hm : (l, listOf vs.toArray n) ∈ news) (hx : vs[vs.length - 1]? = some v) (h : Q v s)
    (hs : subscripted slice false (.ref l) (.int (-1) u) = operate [.ref l, .int (-1) u] (getItem (.ref l) (.int (-1) u)) := by with_unfolding_all rfl) :
    wpAny (model prog w) A (subscriptTail value slice (.ref l) (.int (-1) u)) Q E s := by
  have hl : s.heap.IsList l vs.toArray := ⟨_, (N _ hm).1, rfl, n, rfl⟩
  have hlen : 1 ≤ vs.length := by
    cases vs with
    | nil => simp at hx
    | cons => simp
  have hsz : vs.toArray.size = vs.length := List.size_toArray ..
  refine tail_any hl.typeIs slot_list_getitem.lookup (wpAny_getItem_list_neg hl (by decide) (by omega) (by decide) (x := v) ?_ h) hs
  have e : (-1 + (vs.toArray.size : Int)).toNat = vs.length - 1 := by omega
  rw [e]
  simpa using hx
section
theorem lawE_con (w : World) (mean : ExcName → Option Value) (mg mb : Str → Option Value) (L : Addr) (o1 o2 : Obj) (R fr gx fr2 nn2 : Led)
    (f gr P : Addr) (fd : FD) (c0 : CD) (more : List CD) (wide high : Int) (pas : List Addr) (rass : List (List Addr)) (G : Nat → Nat → Nat → Cell) (pic : Pic w R fr gx f gr P pas rass fd c0 more wide high G)
    (nf ng nP : Addr) (npas : List Addr) (nrass : List (List Addr)) (fd2 : FD) (c2 : CD) (more2 : List CD) (W H : Int) (G2 : Nat → Nat → Nat → Cell) (pic2 : Pic w R fr2 nn2 nf ng nP npas nrass fd2 c2 more2 W H G2)
    (a1 : Apart fr2 fr) (a2 : Apart fr2 gx) (a3 : Apart nn2 fr) (a4 : Apart nn2 gx)
    (hR1 : ∀ p ∈ R, p.1 ≠ L + 1 + 1) (hR2 : ∀ p ∈ R, p.1 ≠ L + 1) :
    ∀ (h₀ : Heap) (fa : Addr) (cd : Value) (m : Str → Option Value) (s : Shared) (Q : Flow → Shared → Prop),
    Fr h₀ L s.heap m → (∀ p ∈ [(Str.ofString "grid", Value.ref gr), (Str.ofString "frame", Value.ref f), (Str.ofString "later", Value.ref nf), (Str.ofString "found", Value.ref ng)], m p.1 = some p.2) →
    (hd.heap_39 w.params).In h₀ → News h₀ L s.heap ((L + 1 + 1, o1) :: (L + 1, o2) :: R) → Top hd.view_39 (looseW hd.view_39 []) mean mg mb h₀ →
    (∀ h' tk' m' R', Fr h₀ L h' m' → News h₀ L h' ((L + 1 + 1, o1) :: (L + 1, o2) :: R') → Q (.ret (.bool true)) { s with heap := h', toks := tk' }) →
    wpAny (model PySem.Challenge.rw_pf0232_01.row.prog w) (lawA L fa cd) (execs (lawBody.drop 17) (lawEnv L fa cd)) Q (fun _ _ => False) s := by
  k_fill
  intro h₀ fa cd m s Q F hm X N T hret
  have B := below_caller h₀
  have em := over_eq hm
  rw [← em] at F
  dsimp only [over] at F
  show wpAny _ (callerA.deeper (envOfC _ (Scope.mk _ _ _ _ _) _ _ _)) (execs (_ :: _) (envOfC _ (Scope.mk _ _ _ _ _) _ _ _)) _ _ _
  have sk9 : StopKey "setAttr ref" := ⟨trivial⟩
  have sk8 : StopKey "compareOp Eq ref ref" := ⟨trivial⟩
  k_steps
  refine Stop.mk ?_
  k_dflt (refine' Con.use (all_con _ _ _ _ _ f gr P (stOf P pas rass) fd c0 more wide high (fd.n * fd.n) pas rass G (pic.hF.mono ?s1) pic.ok (pic.hG.mono ?s2) pic.hS pic.hok) ?B ?F ?X ?N ?T ?hk ?hd ?hu ?_)
  case N => k_asm
  case s1 => exact fun p hp => .tail _ (.tail _ (pic.frs p hp))
  case s2 => exact fun p hp => .tail _ (.tail _ (pic.nns p hp))
  case B => k_asm
  case F => k_asm
  case X => k_asm
  case T => k_asm
  case hk => exact rfl
  case hd => ktr_room
  case hu => ktr_units
  k_whole
  intro r1 n1 g1 tk1 F1 N1 PP1
  refine hush fun GG9 out9 => ?_
  obtain ⟨W1, D1⟩ := PP1
  obtain ⟨dC, cv, cvs, ck, rfl, hcv, hcd, dCf⟩ := dat_new D1
  refine out9 ?_
  clear out9 GG9
  try dsimp only
  try k_fold
  have N0 := N1
  clear N1 D1
  refine hush fun GG9 out9 => ?_
  obtain ⟨R1, N1, of1, of2, in1⟩ := News.norm2 N0 (W1.sub _ (.head _)) (W1.sub _ (.tail _ (.head _)))
  have inR : ∀ p ∈ R, p ∈ R1 := fun p hp => in1 p (W1.sub _ (.tail _ (.tail _ hp))) (hR1 p hp) (hR2 p hp)
  have dCR : ∀ p ∈ dC, p ∈ R1 := fun p hp => in1 p (dCf p hp).1 ((dCf p hp).2 _ (.head _)).symm ((dCf p hp).2 _ (.tail _ (.head _))).symm
  have apC : Apart dC R := Apart.newp (n := (L + 1 + 1, o1) :: (L + 1, o2) :: R) (fun p hp => .tail _ (.tail _ hp)) fun p hp => (dCf p hp).2
  clear N0 in1 W1 dCf
  obtain ⟨hF, ok, hG, hS, hok, frs, nns, ap⟩ := id pic2
  obtain ⟨dg, b1, b2, b3, b4, b5, hg0, hdg0, hP, hPl⟩ := id hG
  have hg := inR _ (nns _ hg0)
  have hdg := inR _ (nns _ hdg0)
  obtain ⟨d, cl, xs, t1, t2, t3, t4, t5, t6, v1, v2, v3, v4, v6, n, n0, hf0, hfd0, hcl0, hC⟩ := id pic.hF
  have hf := inR _ (pic.frs _ hf0)
  have hfd := inR _ (pic.frs _ hfd0)
  have hnn := pic.ok.nn
  have hnn0 : 0 ≤ fd.n * fd.n := by omega
  have hnn1 : fd.n * fd.n ≤ 256 := by omega
  have hn1 := pic.ok.n1
  have hn2 := pic.ok.n2
  clear hP hPl
  refine out9 ?_
  clear out9 GG9
  k_steps
  rename_i g2a l2 g2 lt1 D2 g3 F2 N2 lt2
  refine Stop.mk ?_
  have hlen : 0 < fd2.comps.length := by rw [ok.comps]; exact Nat.succ_pos _
  obtain ⟨p0, e1⟩ : ∃ p, npas[(0 : Int).toNat]? = some p := ⟨_, List.getElem?_eq_getElem (by rw [hS.lp]; exact hlen)⟩
  obtain ⟨ras, e2⟩ : ∃ z, nrass[(0 : Int).toNat]? = some z := ⟨_, List.getElem?_eq_getElem (by rw [hS.lr]; exact hlen)⟩
  have hw0 := ok.ws 0 hlen
  have hh0 := ok.hs 0 hlen
  have hrl : ras.length = (H * (cAt fd2 0).d).toNat := hS.hts _ _ e2
  obtain ⟨ra, e3⟩ : ∃ ra, ras[(0 : Int).toNat]? = some ra := ⟨_, List.getElem?_eq_getElem (by rw [hrl]; show 0 < _; omega)⟩
  have e4 : (0 : Int).toNat < WsOf fd2 W (0 : Int).toNat := by show 0 < (W * (cAt fd2 0).a).toNat; omega
  refine hush fun GG9 out9 => ?_
  obtain ⟨vr, nr, hrag, hvr⟩ := hG.row_in e1 e2 e3
  have hraR := inR _ (nns _ hrag)
  obtain ⟨hpr, hPr⟩ := st_apart hS.nodup e1 e2 e3
  obtain ⟨tkm, htkm⟩ : ∃ z : Tok, z = tk + 1 + 1 + 1 + 1 := ⟨_, rfl⟩
  rw [← htkm] at N2
  have hlr : 1 ≤ (List.replicate (fd.n * fd.n).toNat (-2 : Int)).length ∧ (List.replicate (fd.n * fd.n).toNat (-2 : Int)).length ≤ 1000 := by rw [List.length_replicate]; omega
  refine out9 ?_
  clear out9 GG9
  k_dflt (refine' Con.use (put_con w mean mg mb _ (stOf nP npas nrass) ng nP (fd2.n * fd2.n) npas nrass (WsOf fd2 W) G2 (hG.mono ?sub) 0 0 0 _ _ _ p0 ras ra ?k0 ?k1 ?y0 ?y1 ?x0 ?x1 e1 e2 e3 e4 _ _ _ _ ?hr (ints_rep (-2) tkm _) ?il ?rr hpr hPr) ?B ?F ?X ?N ?T ?hk ?hd ?hu ?_)
  case N => k_asm
  case sub => exact fun q hq => .tail _ (.tail _ (.tail _ (.tail _ (inR q (nns q hq)))))
  case hr => exact .head _
  case k0 => omega
  case k1 => omega
  case y0 => omega
  case y1 => omega
  case x0 => omega
  case x1 => omega
  case il => exact hlr.2
  case rr => exact Nat.ne_of_gt (lt_allLt lt2.2.2.2 _ hraR)
  case B => k_asm
  case F => k_asm
  case X => k_asm
  case T => k_asm
  case hk => exact rfl
  case hd => ktr_room
  case hu => ktr_units
  k_whole
  intro r9 n9 h9 tk9 F9 N9 PP1
  refine hush fun GG9 out9 => ?_
  obtain ⟨rfl, b9, c9, vs9, nn9, hra9, hvl9, e9, hb9⟩ := PP1
  subst e9
  refine out9 ?_
  clear out9 GG9
  try dsimp only
  try k_fold
  have hFn2 := Fn.of N2
  have hra9' : (ra, listOf vs9.toArray nn9) ∈ nn2 := by
    have z := hFn2 _ _ _ hra9 (.tail _ (.tail _ (.tail _ (.tail _ hraR))))
    rw [z]; exact hrag
  have hFnR : Fn R1 := hFn2.sub fun p hp => .tail _ (.tail _ (.tail _ (.tail _ hp)))
  have hb9R : ∀ q ∈ R1, q.1 ≠ b9 := fun q hq => hb9 q (.tail _ (.tail _ (.tail _ (.tail _ hq))))
  have pic3 := (pic2.mono (R' := R1) (fun p hp => inR p (frs p hp)) (fun p hp => inR p (nns p hp))).put hFnR e2 e3 e4 hra9' (b := b9) (c := c9) (ints_rep (-2) tkm (fd.n * fd.n).toNat) hlr.1 hlr.2 hb9R
  have N3 : News h₀ L h9 ((L + 1 + 1, o1) :: (L + 1, o2) :: (b9, listOf (List.replicate (fd.n * fd.n).toNat (Value.int (-2) tkm)).toArray c9) :: repl ra (listOf (vs9.set (0 : Int).toNat (Value.ref b9)).toArray nn9) R1) := News.sub N9 <| by
    refine fc ?_ ?_
    · exact .tail _ (mem_repl (.tail _ (.tail _ (.head _))) (of1 _ hraR).symm)
    refine fc ?_ ?_
    · exact .tail _ (mem_repl (.tail _ (.tail _ (.tail _ (.head _)))) (of2 _ hraR).symm)
    refine fc ?_ ?_
    · exact .head _
    · intro p hp
      exact .tail _ (repl_mono (fun q hq => .tail _ (.tail _ (.tail _ (.tail _ hq)))) p hp)
  have of1' : ∀ p ∈ (b9, listOf (List.replicate (fd.n * fd.n).toNat (Value.int (-2) tkm)).toArray c9) :: repl ra (listOf (vs9.set (0 : Int).toNat (Value.ref b9)).toArray nn9) R1, p.1 ≠ L + 1 + 1 := by
    refine fc ?_ ?_
    · exact (hb9 _ (.tail _ (.tail _ (.head _)))).symm
    · intro p hp
      exact repl_off_all of1 p hp
  have of2' : ∀ p ∈ (b9, listOf (List.replicate (fd.n * fd.n).toNat (Value.int (-2) tkm)).toArray c9) :: repl ra (listOf (vs9.set (0 : Int).toNat (Value.ref b9)).toArray nn9) R1, p.1 ≠ L + 1 := by
    refine fc ?_ ?_
    · exact (hb9 _ (.tail _ (.tail _ (.tail _ (.head _))))).symm
    · intro p hp
      exact repl_off_all of2 p hp
  have picA := pic.mono (R' := (b9, listOf (List.replicate (fd.n * fd.n).toNat (Value.int (-2) tkm)).toArray c9) :: repl ra (listOf (vs9.set (0 : Int).toNat (Value.ref b9)).toArray nn9) R1) (fun p hp => .tail _ (mem_repl (inR p (pic.frs p hp)) (a3.symm p hp _ hra9'))) (fun p hp => .tail _ (mem_repl (inR p (pic.nns p hp)) (a4.symm p hp _ hra9')))
  have hdC3 : ∀ p ∈ dC, p ∈ (b9, listOf (List.replicate (fd.n * fd.n).toNat (Value.int (-2) tkm)).toArray c9) :: repl ra (listOf (vs9.set (0 : Int).toNat (Value.ref b9)).toArray nn9) R1 := fun p hp => .tail _ (mem_repl (dCR p hp) (apC p hp _ (nns _ hra9')))
  have apC2 : Apart dC fr2 := fun p hp q hq => apC p hp q (frs q hq)
  clear N9 N2 hFn2 hra9 hb9 hb9R of1 of2 hf hfd hg hdg hF hG
  generalize (b9, listOf (List.replicate (fd.n * fd.n).toNat (Value.int (-2) tkm)).toArray c9) :: repl ra (listOf (vs9.set (0 : Int).toNat (Value.ref b9)).toArray nn9) R1 = R3 at *
  generalize (b9, listOf (List.replicate (fd.n * fd.n).toNat (Value.int (-2) tkm)).toArray c9) :: repl ra (listOf (vs9.set (0 : Int).toNat (Value.ref b9)).toArray nn9) nn2 = nn3 at *
  clear hC hcl0 hfd0 hf0
  refine hush fun GG9 out9 => ?_
  obtain ⟨d', cl', xs', s1, s2, s3, s4, s5, s6, w1, w2, w3, w4, w6, m', m0', hf0, hfd0, hcl0, hC⟩ := id pic3.hF
  have hc0 : fd2.comps[(0 : Int).toNat]? = some c2 := by rw [ok.comps]; rfl
  obtain ⟨x0, hx1, dx, y1, y2, y3, y4, z1, z2, z3, z4, nd, hx00, hxd0⟩ := hC.get hc0
  have hxv : (xs'.map Value.ref)[(0 : Int).toNat]? = some (.ref x0) := by rw [List.getElem?_map, hx1]; rfl
  have hf := pic3.frs _ hf0
  have hfd := pic3.frs _ hfd0
  have hcl := pic3.frs _ hcl0
  have hx0R := pic3.frs _ hx00
  have hxdR := pic3.frs _ hxd0
  refine out9 ?_
  clear out9 GG9
  k_steps
  rename_i D4 g4a lt4 g4 F4 N4
  refine Stop.mk ?_
  refine setq_mem w mean mg mb L fa cd _ x0 dx c2 y1 y2 y3 y4 z1 z2 z3 z4 nd 8 _ (.tail _ (.tail _ (.tail _ hx0R))) (.tail _ (.tail _ (.tail _ hxdR))) _ _ _ _ _ F4 X N4 T ?_
  intro h5 tk5 F5 N5
  have c0x : D4 ≠ dx := Nat.ne_of_gt (lt_allLt lt4.2.2 _ hxdR)
  have c1x : L + 1 + 1 ≠ dx := fun e => of1' _ hxdR e.symm
  have c2x : L + 1 ≠ dx := fun e => of2' _ hxdR e.symm
  rw [repl_ne c0x, repl_ne c1x, repl_ne c2x] at N5
  have hFn3 : Fn R3 := Fn.of (News.sub N4 fun p hp => .tail _ (.tail _ (.tail _ hp)))
  refine hush fun GG9 out9 => ?_
  obtain ⟨fd5, c5, more5, pic5⟩ := pic3.turn hFn3 (c' := ⟨c2.i, c2.a, c2.d, 8⟩) (t1' := y1) (t2' := y2) (t3' := y3) (t4' := y4) (v1' := z1) (v2' := z2) (v3' := z3) (v4' := tk9) (n' := nd) hxd0 rfl
  have picB := picA.mono (R' := repl dx (dictOf (compEs w ⟨c2.i, c2.a, c2.d, 8⟩ y1 y2 y3 y4 z1 z2 z3 tk9) nd) R3) (fun p hp => mem_repl (picA.frs p hp) (a1.symm p hp _ hxd0)) (fun p hp => mem_repl (picA.nns p hp) (a2.symm p hp _ hxd0))
  have hdC5 : ∀ p ∈ dC, p ∈ repl dx (dictOf (compEs w ⟨c2.i, c2.a, c2.d, 8⟩ y1 y2 y3 y4 z1 z2 z3 tk9) nd) R3 := fun p hp => mem_repl (hdC3 p hp) (apC2 p hp _ hxd0)
  have a1b : Apart (repl dx (dictOf (compEs w ⟨c2.i, c2.a, c2.d, 8⟩ y1 y2 y3 y4 z1 z2 z3 tk9) nd) fr2) fr := a1.sub repl_addr
  have a2b : Apart (repl dx (dictOf (compEs w ⟨c2.i, c2.a, c2.d, 8⟩ y1 y2 y3 y4 z1 z2 z3 tk9) nd) fr2) gx := a2.sub repl_addr
  have apCb := Apart.turn (u := dx) (o := dictOf (compEs w ⟨c2.i, c2.a, c2.d, 8⟩ y1 y2 y3 y4 z1 z2 z3 tk9) nd) apC2
  have of1b := repl_off_all (u := dx) (o := dictOf (compEs w ⟨c2.i, c2.a, c2.d, 8⟩ y1 y2 y3 y4 z1 z2 z3 tk9) nd) of1'
  have of2b := repl_off_all (u := dx) (o := dictOf (compEs w ⟨c2.i, c2.a, c2.d, 8⟩ y1 y2 y3 y4 z1 z2 z3 tk9) nd) of2'
  have ltb : ∀ p ∈ repl dx (dictOf (compEs w ⟨c2.i, c2.a, c2.d, 8⟩ y1 y2 y3 y4 z1 z2 z3 tk9) nd) R3, p.1 ≠ D4 := repl_off_all (ne_of_allLt lt4.2.2)
  clear N4 hFn3 pic3 picA hdC3 hf hfd hcl hx0R hxdR of1' of2' apC2 hC hcl0 hfd0 hf0 lt4 pic2 hxv frs ap
  generalize repl dx (dictOf (compEs w ⟨c2.i, c2.a, c2.d, 8⟩ y1 y2 y3 y4 z1 z2 z3 tk9) nd) R3 = R5 at *
  generalize repl dx (dictOf (compEs w ⟨c2.i, c2.a, c2.d, 8⟩ y1 y2 y3 y4 z1 z2 z3 tk9) nd) fr2 = fr5 at *
  obtain ⟨d6, cl6, xs6, r1, r2, r3, r4, r5, r6, u1, u2, u3, u4, u6, m6, m60, hf0, hfd0, hcl0, hC⟩ := id pic5.hF
  have hlast : ∃ c, fd5.comps[fd5.comps.length - 1]? = some c := ⟨_, List.getElem?_eq_getElem (by rw [pic5.ok.comps, List.length_cons]; omega)⟩
  obtain ⟨cL, hcL⟩ := hlast
  obtain ⟨xl, hxl, dl, y1', y2', y3', y4', z1', z2', z3', z4', ndl, hxl0, hdl0⟩ := hC.get hcL
  have hxlv : (xs6.map Value.ref)[(xs6.map Value.ref).length - 1]? = some (.ref xl) := by rw [List.getElem?_map, List.length_map, hC.length, hxl]; rfl
  have hf := pic5.frs _ hf0
  have hfd := pic5.frs _ hfd0
  have hcl := pic5.frs _ hcl0
  have hxlR := pic5.frs _ hxl0
  have hdlR := pic5.frs _ hdl0
  have sk7 : StopKey "subscriptTail" := ⟨trivial⟩
  refine out9 ?_
  clear out9 GG9
  k_steps
  clear sk7
  refine Stop.mk ?_
  refine item_last N5 (.tail _ (.tail _ (.tail _ hcl))) hxlv ?_
  k_steps
  refine Stop.mk ?_
  refine seti_mem w mean mg mb L fa cd _ xl dl cL y1' y2' y3' y4' z1' z2' z3' z4' ndl 99 _ (.tail _ (.tail _ (.tail _ hxlR))) (.tail _ (.tail _ (.tail _ hdlR))) _ _ _ _ _ F5 X N5 T ?_
  intro h6 tk6 F6 N6
  have c0x : D4 ≠ dl := (ltb _ hdlR).symm
  have c1x : L + 1 + 1 ≠ dl := fun e => of1b _ hdlR e.symm
  have c2x : L + 1 ≠ dl := fun e => of2b _ hdlR e.symm
  rw [repl_ne c0x, repl_ne c1x, repl_ne c2x] at N6
  have picC := picB.mono (R' := repl dl (dictOf (compEs w ⟨99, cL.a, cL.d, cL.q⟩ y1' y2' y3' y4' (tk9 + 1) z2' z3' z4') ndl) R5) (fun p hp => mem_repl (picB.frs p hp) (a1b.symm p hp _ hdl0)) (fun p hp => mem_repl (picB.nns p hp) (a2b.symm p hp _ hdl0))
  have hdC6 : ∀ p ∈ dC, p ∈ repl dl (dictOf (compEs w ⟨99, cL.a, cL.d, cL.q⟩ y1' y2' y3' y4' (tk9 + 1) z2' z3' z4') ndl) R5 := fun p hp => mem_repl (hdC5 p hp) (apCb p hp _ hdl0)
  clear N5 hf hfd hcl hxlR hdlR picB hdC5 pic5 hC
  generalize repl dl (dictOf (compEs w ⟨99, cL.a, cL.d, cL.q⟩ y1' y2' y3' y4' (tk9 + 1) z2' z3' z4') ndl) R5 = R6 at *
  have N7 : News h₀ L h6 ((L + 1 + 1, o1) :: (L + 1, o2) :: R6) := News.sub N6 fun p hp => .tail _ hp
  clear N6
  k_steps
  refine Stop.mk ?_
  k_dflt (refine' Con.use (all_con _ _ _ _ _ f gr P (stOf P pas rass) fd c0 more wide high (fd.n * fd.n) pas rass G (picC.hF.mono ?s1) picC.ok (picC.hG.mono ?s2) picC.hS picC.hok) ?B ?F ?X ?N ?T ?hk ?hd ?hu ?_)
  case N => k_asm
  case s1 => exact fun p hp => .tail _ (.tail _ (picC.frs p hp))
  case s2 => exact fun p hp => .tail _ (.tail _ (picC.nns p hp))
  case B => k_asm
  case F => k_asm
  case X => k_asm
  case T => k_asm
  case hk => exact rfl
  case hd => ktr_room
  case hu => ktr_units
  k_whole
  intro r8 n8 h8 tk8 F8 N8 PP1
  refine hush fun GG9 out9 => ?_
  obtain ⟨W8, D8⟩ := PP1
  obtain ⟨dE, ev, evs, ek, rfl, hev, hed, dEf⟩ := dat_new D8
  refine out9 ?_
  clear out9 GG9
  try dsimp only
  try k_fold
  k_steps
  refine Stop.mk ?_
  refine eq_same (n₁ := dE) (n₂ := dC) N8 (dEf _ hev).1 hed (fun p hp => (dEf p hp).1) (W8.sub _ (.tail _ (.tail _ (hdC6 _ hcv)))) hcd (fun p hp => W8.sub _ (.tail _ (.tail _ (hdC6 p hp)))) (all_ok8 fd wide high G) (by ktr_units) ?_
  k_steps
  refine hret h8 tk8 _ n8 F8 fun p hp => ?_
  rcases List.mem_cons.mp hp with rfl | hp
  · exact N8 _ (W8.sub _ (.head _))
  rcases List.mem_cons.mp hp with rfl | hp
  · exact N8 _ (W8.sub _ (.tail _ (.head _)))
  · exact N8 _ hp
end

theorem flush77e {prog : Program} {w : World} {A : Around} {E : Value → Shared → Prop} {s : Shared} {env : Env} {Q : Flow → Shared → Prop} (h : wpAny (model prog w) A (execs [] env) Q E s) : wpAny (model prog w) A (execs [] env) Q E s := by
  w_top off
  (try (walk1; fail))
  exact h
theorem Apart.right {a b b' : Led} (h : Apart a b) (hs : ∀ p ∈ b', ∃ q ∈ b, q.1 = p.1) : Apart a b' := (h.symm.sub hs).symm
theorem Apart.of {a b b' : Led} (h : Apart a b) (hs : ∀ p ∈ b', p ∈ b) : Apart a b' := h.right fun p hp => ⟨p, hs p hp, rfl⟩
theorem tail_con (w : World) (mean : ExcName → Option Value) (mg mb : Str → Option Value) (L : Addr) (o1 o2 : Obj) (h1 : ∃ c, o1.data = .cell c) (R fr nn dA : Led) (av : Addr) (avs : List Value) (ak : Nat) (h2 : o2.data = .cell (some (.ref av)))
    (f gr P : Addr) (fd : FD) (c0 : CD) (more : List CD) (wide high : Int) (pas : List Addr) (rass : List (List Addr)) (G : Nat → Nat → Nat → Cell) (pic : Pic w R fr nn f gr P pas rass fd c0 more wide high G)
    (hav : (av, listOf avs.toArray ak) ∈ R) (hdA : ∀ p ∈ dA, p ∈ R) (hda : DatAll dA avs (allDats fd wide high G))
    (hR1 : ∀ p ∈ R, p.1 ≠ L + 1 + 1) (hR2 : ∀ p ∈ R, p.1 ≠ L + 1)
    (x y across down : Int) (tx ty ta td tw th : Tok) (hx0 : 0 ≤ x) (hx : x < wide) (hy0 : 0 ≤ y) (hy : y < high) (ha : 1 ≤ across) (ha2 : across ≤ 2) (hdn : 1 ≤ down) (hdn2 : down ≤ 2)
    (h₀ : Heap) (fa : Addr) (cd : Value) (m : Str → Option Value) (s : Shared) (Q : Flow → Shared → Prop)
    (F : Fr h₀ L s.heap m) (hm : ∀ p ∈ [(Str.ofString "across", Value.int across ta), (Str.ofString "down", Value.int down td), (Str.ofString "y", Value.int y ty), (Str.ofString "x", Value.int x tx), (Str.ofString "grid", Value.ref gr), (Str.ofString "frame", Value.ref f), (Str.ofString "wide", Value.int wide tw), (Str.ofString "high", Value.int high th)], m p.1 = some p.2)
    (X : (hd.heap_39 w.params).In h₀) (N : News h₀ L s.heap ((L + 1 + 1, o1) :: (L + 1, o2) :: R)) (T : Top hd.view_39 (looseW hd.view_39 []) mean mg mb h₀)
    (hret : ∀ h' tk' m' o1' R', Fr h₀ L h' m' → News h₀ L h' ((L + 1 + 1, o1') :: (L + 1, o2) :: R') → Q (.ret (.bool true)) { s with heap := h', toks := tk' }) :
    wpAny (model PySem.Challenge.rw_pf0232_01.row.prog w) (lawA L fa cd) (execs (lawBody.drop 8) (lawEnv L fa cd)) Q (fun _ _ => False) s := by
  refine lawA_con w mean mg mb L o1 o2 h1 ⟨_, h2⟩ R fr nn f gr P fd c0 more wide high pas rass G pic hR1 hR2 x y across down tx ty ta td tw th hx0 hx hy0 hy ha ha2 hdn hdn2 h₀ fa cd m s Q F hm X N T ?_
  intro ha ta ma Ra fr2 nn2 nf ng nP npas nrass fd2 W H G2 Fa hma Na ofa1 ofa2 inA pic2 ap1 ap2 ec en
  refine lawB_con w mean mg mb L o1 o2 h1 Ra dA fr2 nn2 av avs ak h2 (inA _ hav) (fun p hp => inA p (hdA p hp)) fd wide high G hda f gr nf ng nP npas nrass fd2 c0 more W H G2 pic2 ec en ofa1 ofa2 x y tx ty h₀ fa cd ma _ Q Fa hma X Na T ?_
  intro hb tb mb' o1' Rb dK kv kvs kn dck Fb hmb Nb ofb1 ofb2 inB dKb apK hkv hdk
  have picb : Pic w Rb fr nn f gr P pas rass fd c0 more wide high G := pic.mono (fun p hp => inB p (inA p (pic.frs p hp))) fun p hp => inB p (inA p (pic.nns p hp))
  refine lawC_con w mean mg mb L o1' o2 Rb fr nn f gr P fd c0 more wide high pas rass G picb ofb1 ofb2 nf ng x y tx ty h₀ fa cd mb' _ Q Fb hmb X Nb T ?_
  intro hc tc mc Rc Fc hmc Nc C
  refine hush fun GG9 out9 => ?_
  obtain ⟨gx, hL, hgs, hga⟩ := C.grid
  have hFn : Fn Rc := Fn.of (News.sub Nc fun p hp => .tail _ (.tail _ hp))
  obtain ⟨G', hG', hok'⟩ := hL.tight (hFn.sub hgs)
  have nnR : ∀ p ∈ nn, p ∈ R := pic.nns
  have frR : ∀ p ∈ fr, p ∈ R := pic.frs
  have gxa : ∀ {a : Led}, Apart a nn → Apart a gx := fun h => h.right fun p hp => by
    obtain ⟨q, hq, e⟩ := hga p hp
    exact ⟨q, hq, e⟩
  have keep : ∀ {a : Led}, Apart a nn → (∀ p ∈ a, p ∈ Rb) → ∀ p ∈ a, p ∈ Rc := fun h hs p hp => C.keep p (hs p hp) fun q hq => (h p hp q hq).symm
  have fr2nn : Apart fr2 nn := ap1.of nnR
  have nn2nn : Apart nn2 nn := ap2.of nnR
  have dKnn : Apart dK nn := apK.of fun p hp => inA p (nnR p hp)
  have picc : Pic w Rc fr gx f gr P pas rass fd c0 more wide high G' := ⟨pic.hF, pic.ok, hG', pic.hS, hok', keep pic.ap picb.frs, hgs, gxa pic.ap⟩
  have pic2c : Pic w Rc fr2 nn2 nf ng nP npas nrass fd2 c0 more W H G2 := pic2.mono (keep fr2nn fun p hp => inB p (pic2.frs p hp)) (keep nn2nn fun p hp => inB p (pic2.nns p hp))
  refine out9 ?_
  clear out9 GG9
  refine lawD_con w mean mg mb L o1' o2 Rc fr gx fr2 nn2 dK kv kvs kn dck ⟨_, h2⟩ f gr P fd c0 more wide high pas rass G' picc nf ng nP npas nrass fd2 c0 more W H G2 pic2c hkv hdk (keep dKnn dKb)
    (ap1.of frR) (gxa fr2nn) (ap2.of frR) (gxa nn2nn) (apK.of fun p hp => inA p (frR p hp)) (gxa dKnn) C.off1 C.off2 x y tx ty hx0 hx hy0 hy h₀ fa cd mc _ Q Fc hmc X Nc T ?_
  intro hd td md Rd frd gxd fdd cd' mored Gd Fd hmd Nd ofd1 ofd2 picd pic2d b1 b2 b3 b4
  refine lawE_con w mean mg mb L o1' o2 Rd frd gxd fr2 nn2 f gr P fdd cd' mored wide high pas rass Gd picd nf ng nP npas nrass fd2 c0 more W H G2 pic2d b1 b2 b3 b4 ofd1 ofd2 h₀ fa cd md _ Q Fd hmd X Nd T ?_
  exact fun he te me Re Fe Ne => hret he te me o1' Re Fe Ne
theorem News.norm2c {h₀ h : Heap} {L c1 c2 : Addr} {o1 o2 : Obj} {n : Led} (N : News h₀ L h n) (m1 : (c1, o1) ∈ n) (m2 : (c2, o2) ∈ n) (h1 : ∃ c, o1.data = .cell c) (h2 : ∃ c, o2.data = .cell c) :
    ∃ R, News h₀ L h ((c1, o1) :: (c2, o2) :: R) ∧ (∀ p ∈ R, p.1 ≠ c1) ∧ (∀ p ∈ R, p.1 ≠ c2) ∧ (∀ p ∈ n, p.1 ≠ c1 → p.1 ≠ c2 → p ∈ R) ∧ ∀ a o, (a, o) ∈ n → (∀ c, o.data ≠ .cell c) → (a, o) ∈ R := by
  obtain ⟨R, N', f1, f2, hin⟩ := News.norm2 N m1 m2
  have F := Fn.of N
  refine ⟨R, N', f1, f2, hin, fun a o hm hc => hin _ hm (fun e => ?_) (fun e => ?_)⟩
  · obtain ⟨c, z⟩ := h1
    have e : a = c1 := e
    rw [F _ _ _ m1 (e ▸ hm)] at z
    exact hc c z
  · obtain ⟨c, z⟩ := h2
    have e : a = c2 := e
    rw [F _ _ _ m2 (e ▸ hm)] at z
    exact hc c z

theorem flush78tail {prog : Program} {w : World} {A : Around} {E : Value → Shared → Prop} {s : Shared} {env : Env} {Q : Flow → Shared → Prop} (h : wpAny (model prog w) A (execs [] env) Q E s) : wpAny (model prog w) A (execs [] env) Q E s := by
  w_top off
  (try (walk1; fail))
  exact h
section
theorem lawful : PySem.Challenge.rw_pf0232_01.Holds := by
  w_on
  refine top9 (by rfl) (by rfl) (by rfl) ?hc
  w_top off
  k_go0
  (all_goals try k_fold)
  k_steps
  rename IntsAre _ _ => hI
  rename Heap.IsList _ _ (List.toArray _) => hL
  rename_i oc1 oc0 dc1 dc0 N0 X0
  rename Shared => sS
  rename World => w
  rename (Mine.hd.heap_39 _).In _ => KX
  rename Top _ _ _ _ _ _ => TT
  refine Stop.mk ?_
  k_dflt (refine' urn_con _ _ _ _ _ _ _ _ hI _ _ _ _ _ _ _ _ _ _ _ _ _ _ _ _ _ ?B ?F ?X ?N ?T ?hk ?hd ?hu hL ?_)
  case N => k_asm
  case B => k_asm
  case F => k_asm
  case X => k_asm
  case T => k_asm
  case hk => exact rfl
  case hd => ktr_room
  case hu => ktr_units
  k_whole
  intro r1 n1 h1 tk1 F1 N1 PP1
  refine hush fun GG9 out9 => ?_
  obtain ⟨u, o1, rfl, U1, rfl, lu⟩ := PP1
  refine out9 ?_
  clear out9 GG9
  try dsimp only
  try k_fold
  k_steps
  rename_i h2a tk2a o2a U2a iw tw2 low hiw qk2 ek2 h2 tk2 o2 U2 ih th2 loh hih D2 h3 l2 h4 h5 h6 F2 N2
  refine hush fun GG9 out9 => ?_
  obtain ⟨wide, hwd⟩ : ∃ z : Int, z = 2 + iw := ⟨_, rfl⟩
  obtain ⟨high, hhd⟩ : ∃ z : Int, z = 2 + ih := ⟨_, rfl⟩
  rw [← hwd, ← hhd] at F2 N2
  refine out9 ?_
  clear out9 GG9
  rw [← hwd, ← hhd]
  refine Stop.mk ?_
  k_dflt (refine' Con.use (frame_con _ _ _ _ _ u o2 (.tail _ (.head _)) U2 wide high _ _ ?a1 ?a2 ?a3 ?a4) ?B ?F ?X ?N ?T ?hk ?hd ?hu ?_)
  case a1 => omega
  case a2 => omega
  case a3 => omega
  case a4 => omega
  case N => k_asm
  case B => k_asm
  case F => k_asm
  case X => k_asm
  case T => k_asm
  case hk => exact rfl
  case hd => ktr_room
  case hu => ktr_units
  k_whole
  intro r3 n3 h3 tk3 F3 N3 PP1
  refine hush fun GG9 out9 => ?_
  obtain ⟨f, fd, c0, more, fr, rfl, ok, hF, hfr, hkp, o3, hu3, U3⟩ := PP1
  refine out9 ?_
  clear out9 GG9
  try dsimp only
  try k_fold
  have l1u := ltN (lu _ (.head _))
  have l0u := ltN (lu _ (.tail _ (.head _)))
  dsimp only at l1u l0u
  have m31 := hkp _ (.tail _ (.tail _ (.head _))) (Nat.ne_of_lt l1u)
  have m30 := hkp _ (.tail _ (.tail _ (.tail _ (.head _)))) (Nat.ne_of_lt l0u)
  refine hush fun GG9 out9 => ?_
  obtain ⟨R3, N3, off3, in3⟩ := News.norm N3 m31 m30 hu3
  have hfR3 : ∀ p ∈ fr, p ∈ R3 := fun p hp => in3 p (hfr p hp).1 ((hfr p hp).2 _ (.tail _ (.tail _ (.head _)))).symm ((hfr p hp).2 _ (.tail _ (.tail _ (.tail _ (.head _))))).symm ((hfr p hp).2 _ (.tail _ (.head _))).symm
  clear hfr hkp m31 m30 hu3 in3
  refine out9 ?_
  clear out9 GG9
  k_steps
  refine Stop.mk ?_
  k_dflt (refine' Con.use (filled_con _ _ _ _ _ fr u f o3 fd c0 more wide high (.tail _ (.tail _ (.head _))) U3 (fun p hp => ⟨.tail _ (.tail _ (.tail _ (hfR3 p hp))), (off3 p (hfR3 p hp)).2.2⟩) hF ok) ?B ?F ?X ?N ?T ?hk ?hd ?hu ?_)
  case N => k_asm
  case B => k_asm
  case F => k_asm
  case X => k_asm
  case T => k_asm
  case hk => exact rfl
  case hd => ktr_room
  case hu => ktr_units
  k_whole
  intro r5 n5 h5 tk5 F5 N5 PP1
  refine hush fun GG9 out9 => ?_
  obtain ⟨gr, P, pas, rass, rfl, hS, ⟨⟨o5, hu5, U5⟩, hkp, nn, G, hG, hok, hnn5, hnnf⟩, hst5⟩ := PP1
  refine out9 ?_
  clear out9 GG9
  try dsimp only
  try k_fold
  have m51 := hkp _ (.head _) (Nat.ne_of_lt l1u)
  have m50 := hkp _ (.tail _ (.head _)) (Nat.ne_of_lt l0u)
  refine hush fun GG9 out9 => ?_
  obtain ⟨R5, N5, off5, in5⟩ := News.norm N5 m51 m50 hu5
  have hfR5 : ∀ p ∈ fr, p ∈ R5 := fun p hp => in5 p (hkp p (.tail _ (.tail _ (.tail _ (hfR3 p hp)))) (off3 p (hfR3 p hp)).2.2) (off3 p (hfR3 p hp)).1 (off3 p (hfR3 p hp)).2.1 (off3 p (hfR3 p hp)).2.2
  have hnR5 : ∀ p ∈ nn, p ∈ R5 := fun p hp => in5 p (hnn5 p hp) (hnnf p hp _ (.head _)).symm (hnnf p hp _ (.tail _ (.head _))).symm (hnnf p hp _ (.tail _ (.tail _ (.head _)))).symm
  have hfn : ∀ p ∈ nn, ∀ q ∈ fr, q.1 ≠ p.1 := fun p hp q hq => hnnf p hp q (.tail _ (.tail _ (.tail _ (hfR3 q hq))))
  clear hkp m51 m50 hu5 hnn5 hnnf hst5 hfR3 off3 in5
  refine out9 ?_
  clear out9 GG9
  k_steps
  refine Stop.mk ?_
  k_dflt (refine' Con.use (all_con _ _ _ _ _ f gr P (stOf P pas rass) fd c0 more wide high (fd.n * fd.n) pas rass G (hF.mono ?s1) ok (hG.mono ?s2) hS hok) ?B ?F ?X ?N ?T ?hk ?hd ?hu ?_)
  case N => k_asm
  case s1 => exact fun p hp => .tail _ (.tail _ (.tail _ (hfR5 p hp)))
  case s2 => exact fun p hp => .tail _ (.tail _ (.tail _ (hnR5 p hp)))
  case B => k_asm
  case F => k_asm
  case X => k_asm
  case T => k_asm
  case hk => exact rfl
  case hd => ktr_room
  case hu => ktr_units
  k_whole
  intro r6 n6 h6 tk6 F6 N6 PP1
  refine hush fun GG9 out9 => ?_
  obtain ⟨W6, D6⟩ := PP1
  obtain ⟨dA, av, avs, ak, rfl, hav, hda, dAf⟩ := dat_new D6
  refine out9 ?_
  clear out9 GG9
  try dsimp only
  try k_fold
  refine hush fun GG9 out9 => ?_
  obtain ⟨R6, N6, off6, in6⟩ := News.norm N6 (W6.sub _ (.head _)) (W6.sub _ (.tail _ (.head _))) (W6.sub _ (.tail _ (.tail _ (.head _))))
  have hR56 : ∀ p ∈ R5, p ∈ R6 := fun p hp => in6 p (W6.sub _ (.tail _ (.tail _ (.tail _ hp)))) (off5 p hp).1 (off5 p hp).2.1 (off5 p hp).2.2
  have hfR6 : ∀ p ∈ fr, p ∈ R6 := fun p hp => hR56 p (hfR5 p hp)
  have hnR6 : ∀ p ∈ nn, p ∈ R6 := fun p hp => hR56 p (hnR5 p hp)
  have hdR6 : ∀ p ∈ dA, p ∈ R6 := fun p hp => in6 p (dAf p hp).1 ((dAf p hp).2 _ (.head _)).symm ((dAf p hp).2 _ (.tail _ (.head _))).symm ((dAf p hp).2 _ (.tail _ (.tail _ (.head _)))).symm
  have hdn : ∀ p ∈ dA, ∀ q ∈ nn, q.1 ≠ p.1 := fun p hp q hq => (dAf p hp).2 q (.tail _ (.tail _ (.tail _ (hnR5 q hq))))
  have hdf : ∀ p ∈ dA, ∀ q ∈ fr, q.1 ≠ p.1 := fun p hp q hq => (dAf p hp).2 q (.tail _ (.tail _ (.tail _ (hfR5 q hq))))
  clear W6 D6 dAf hR56 hfR5 hnR5 off5 in6
  obtain ⟨of61, of62, of6u⟩ := off_split off6
  refine out9 ?_
  clear out9 GG9
  k_steps
  rename_i op_0 dp_0 h9_6 tk9_6 o9_6 U9_6 i9_6 t9_6 lo9_6 hi9_6 qk_5 ek_5 h9_5 tk9_5 o9_5 U9_5 i9_5 t9_5 lo9_5 hi9_5 qk_4 ek_4 h9_4 tk9_4 o9_4 U9_4 i9_4 t9_4 lo9_4 hi9_4 qk_3 ek_3 h9_3 tk9_3 o9_3 U9_3 i9_3 t9_3 lo9_3 hi9_3 qk_2 ek_2 Dp_5 hp_13 l1_7 hp_12 hp_11 hp_10 hp_9 hp_8 tk_0 h9_2 tk9_2 o9_2 U9_2 i9_2 t9_2 lo9_2 hi9_2 qk_1 ek_1 Dp_4 hp_7 l1_6 h9_1 tk9_1 o9_1 U9_1 i9_1 t9_1 lo9_1 hi9_1 qk_0 ek_0 Dp_3 hp_6 l1_5 Dp_2 hp_5 l1_4 lp_1 hp_4 l1_3 hp_3 h9_0 tk9_0 o9_0 U9_0 i9_0 t9_0 lo9_0 hi9_0 Dp_1 hp_2 l1_2 lp_0 hp_1 l1_1 Dp_0 hp_0 Fp_0 Np_0 l1_0
  refine Stop.mk ?_
  refine hush fun GG9 out9 => ?_
  obtain ⟨R7, N7, of71, of72, in7, it7⟩ := News.norm2c (c1 := sS.heap.objs.size + 1 + 1) (c2 := sS.heap.objs.size + 1) Np_0 (.tail _ (.tail _ (.tail _ (.tail _ (.tail _ (.tail _ (.tail _ (.tail _ (.head _))))))))) (.tail _ (.tail _ (.tail _ (.tail _ (.tail _ (.tail _ (.tail _ (.tail _ (.tail _ (.head _)))))))))) ⟨_, dc1⟩ ⟨_, dp_0⟩
  have mL := it7 _ _ (.head _) (fun c h => by cases h)
  have mT3 := it7 _ _ (.tail _ (.tail _ (.head _))) (fun c h => by cases h)
  have mT2 := it7 _ _ (.tail _ (.tail _ (.tail _ (.tail _ (.head _))))) (fun c h => by cases h)
  have mT1 := it7 _ _ (.tail _ (.tail _ (.tail _ (.tail _ (.tail _ (.head _)))))) (fun c h => by cases h)
  have mT0 := it7 _ _ (.tail _ (.tail _ (.tail _ (.tail _ (.tail _ (.tail _ (.head _))))))) (fun c h => by cases h)
  have mR : ∀ p ∈ R6, p ∈ R7 := fun p hp => in7 _ (.tail _ (.tail _ (.tail _ (.tail _ (.tail _ (.tail _ (.tail _ (.tail _ (.tail _ (.tail _ (.tail _ hp))))))))))) (of61 p hp) (of62 p hp)
  clear in7 it7
  have hfL : ∀ p ∈ fr, p ∈ R7 := fun p hp => mR p (hfR6 p hp)
  have hnL : ∀ p ∈ nn, p ∈ R7 := fun p hp => mR p (hnR6 p hp)
  have hdL : ∀ p ∈ dA, p ∈ R7 := fun p hp => mR p (hdR6 p hp)
  have hwide := ok.w1
  have hall : ∀ v ∈ [Value.ref Dp_4, Value.ref Dp_3, Value.ref Dp_2, Value.ref Dp_1], ∃ t a b c d ta tb tc td, v = .ref t ∧ (t, tupOf [.int a ta, .int b tb, .int c tc, .int d td]) ∈ R7 ∧ 0 ≤ a ∧ 0 ≤ b ∧
      (wide ≤ a ∨ (a < wide ∧ high ≤ b) ∨ (a < wide ∧ b < high ∧ c < 1) ∨ (a < wide ∧ b < high ∧ 1 ≤ c ∧ d < 1)) := by
    intro v hv
    rcases List.mem_cons.mp hv with rfl | hv
    · exact ⟨_, _, _, _, _, _, _, _, _, rfl, mT0, by omega, by omega, by omega⟩
    rcases List.mem_cons.mp hv with rfl | hv
    · exact ⟨_, _, _, _, _, _, _, _, _, rfl, mT1, by omega, by omega, by omega⟩
    rcases List.mem_cons.mp hv with rfl | hv
    · exact ⟨_, _, _, _, _, _, _, _, _, rfl, mT2, by omega, by omega, by omega⟩
    rcases List.mem_cons.mp hv with rfl | hv
    · exact ⟨_, _, _, _, _, _, _, _, _, rfl, mT3, by omega, by omega, by omega⟩
    · cases hv
  have pic : Pic w R7 fr nn f gr P pas rass fd c0 more wide high G := ⟨hF, ok, hG, hS, hok, hfL, hnL, fun p hp q hq => hfn q hq p hp⟩
  refine out9 ?_
  clear out9 GG9
  refine for_list (L := sS.heap.objs.size) rfl (fun i m nx => nx = (sS.heap.objs.size + 1 + 1, oc1) :: (sS.heap.objs.size + 1, op_0) :: R7 ∧ ∀ p ∈ [(Str.ofString "across", Value.int (1 + i9_4) tk9_4), (Str.ofString "down", Value.int (1 + i9_3) tk9_3), (Str.ofString "y", Value.int i9_5 t9_5), (Str.ofString "x", Value.int i9_6 t9_6), (Str.ofString "grid", Value.ref gr), (Str.ofString "frame", Value.ref f), (Str.ofString "wide", Value.int wide tk2a), (Str.ofString "high", Value.int high tk2)], m p.1 = some p.2) rfl (.tail _ (.tail _ mL)) Fp_0 N7 ⟨rfl, by (repeat (first | refine List.forall_mem_cons.mpr ⟨rfl, ?_⟩ | exact List.forall_mem_nil _))⟩ ?_ ?_
  · clear Fp_0 Np_0 N7
    intro i v m₁ nx h tk I oI hv _ PP1 hoff F N
    refine hush fun GG9 out9 => ?_
    obtain ⟨rfl, e1⟩ := PP1
    have F := Fr.over F [(Str.ofString "across", Value.int (1 + i9_4) tk9_4), (Str.ofString "down", Value.int (1 + i9_3) tk9_3), (Str.ofString "y", Value.int i9_5 t9_5), (Str.ofString "x", Value.int i9_6 t9_6), (Str.ofString "grid", Value.ref gr), (Str.ofString "frame", Value.ref f), (Str.ofString "wide", Value.int wide tk2a), (Str.ofString "high", Value.int high tk2)] e1
    dsimp only [over] at F
    obtain ⟨t, a, b, c, d, ta, tb, tc, td, rfl, hT, ha0, hb0, hbad⟩ := hall v (List.mem_of_getElem? hv)
    refine out9 ?_
    clear out9 GG9
    refine wpAny_mono (turn_con w _ _ _ sS.heap.objs.size I oI oc1 op_0 R7 dA av avs ak dp_0 f gr P fd c0 more wide high pas rass G (hF.mono hfL) ok (hG.mono hnL) hS hok (hdL _ hav) hdL hda t a b c d ta tb tc td hT ha0 hb0 hbad _ _ _ _ _ (TurnPost _ _ _ I oI _ _) F (by (repeat (first | refine List.forall_mem_cons.mpr ⟨rfl, ?_⟩ | exact List.forall_mem_nil _))) KX N TT ?_) (fun _ _ h => h) (fun _ _ h => h.elim)
    intro h' tk' F' N'
    exact TurnEnd.intro F' N' (.head _) (fun p hp => .tail _ hp) hoff ⟨.tail _ (.tail _ mL), rfl, by (repeat (first | refine List.forall_mem_cons.mpr ⟨rfl, ?_⟩ | exact List.forall_mem_nil _))⟩
  · clear Fp_0 Np_0 N7
    intro m₁ nx h tk _ PP1 F N
    refine hush fun GG9 out9 => ?_
    obtain ⟨rfl, e1⟩ := PP1
    refine out9 ?_
    clear out9 GG9
    dsimp only
    refine wpAny_mono (tail_con w _ _ _ sS.heap.objs.size oc1 op_0 ⟨_, dc1⟩ R7 fr nn dA av avs ak dp_0 f gr P fd c0 more wide high pas rass G pic (hdL _ hav) hdL hda of71 of72
      i9_6 i9_5 (1 + i9_4) (1 + i9_3) t9_6 t9_5 tk9_4 tk9_3 tk2a tk2 lo9_6 (by omega) lo9_5 (by omega) (by omega) (by omega) (by omega) (by omega) _ _ _ _ _ _ F e1 KX N TT ?_) (fun _ _ h => h) (fun _ _ h => h.elim)
    clear F N
    intro h' tk' m' o1' R' F' N'
    k_steps
end

theorem flush90law {prog : Program} {w : World} {A : Around} {E : Value → Shared → Prop} {s : Shared} {env : Env} {Q : Flow → Shared → Prop} (h : wpAny (model prog w) A (execs [] env) Q E s) : wpAny (model prog w) A (execs [] env) Q E s := by
  w_top off
  (try (walk1; fail))
  exact h

end Mine
theorem PySem.Challenge.cw_pf0232_01_holds : PySem.Challenge.rw_pf0232_01.Holds :=
  Mine.lawful
