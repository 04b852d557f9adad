import PyProof.Rows.All
import Wide.All
import OpenK.AllK
import Wide.FinOn
import Lean
import PySem.Challenge.RW_nt0546_01
set_option Elab.async false
set_option maxRecDepth 100000
set_option linter.all false
-- the head: what the top leaves, read once
namespace Mine
section
open PySem PySem.W PyProof.Rows
/-- a statement of the row's text by its place; one within a class -/
def st (i : Nat) : Stmt := (PySem.Challenge.pw_nt0546_01.main.body[i]?).getD (.Pass ⟨0, 0, 0, 0⟩)
def mt (i j : Nat) : Stmt := match st i with
  | .ClassDef _ _ _ body _ _ _ _ _ _ _ => (body[j]?).getD (.Pass ⟨0, 0, 0, 0⟩)
  | _ => .Pass ⟨0, 0, 0, 0⟩
def fdef : Stmt → Option (Arguments × List Stmt × Scope)
  | .FunctionDef _ a b _ _ _ s _ _ _ => some (a, b, s)
  | _ => none
/-- the objects that the top leaves -/
noncomputable def hd.heap_39 : Params → Frag := by
  refine' (?U : ∀ {a0 b0 s0 a1 b1 s1 a2 b2 s2 a3 b3 s3 a4 b4 s4 a5 b5 s5 a6 b6 s6 a7 b7 s7 a8 b8 s8 a9 b9 s9 a10 b10 s10 a11 b11 s11 a12 b12 s12 a13 b13 s13 a14 b14 s14 a15 b15 s15 a16 b16 s16 a17 b17 s17 a18 b18 s18 a19 b19 s19 a20 b20 s20 a21 b21 s21 a22 b22 s22 a23 b23 s23 a24 b24 s24 a25 b25 s25}, fdef (mt 1 0) = some (a0, b0, s0) →
    fdef (st 4) = some (a1, b1, s1) →
    fdef (mt 5 0) = some (a2, b2, s2) →
    fdef (mt 6 0) = some (a3, b3, s3) →
    fdef (mt 6 1) = some (a4, b4, s4) →
    fdef (mt 6 2) = some (a5, b5, s5) →
    fdef (mt 6 3) = some (a6, b6, s6) →
    fdef (mt 6 4) = some (a7, b7, s7) →
    fdef (mt 6 5) = some (a8, b8, s8) →
    fdef (mt 6 6) = some (a9, b9, s9) →
    fdef (mt 6 7) = some (a10, b10, s10) →
    fdef (mt 8 0) = some (a11, b11, s11) →
    fdef (mt 8 1) = some (a12, b12, s12) →
    fdef (mt 8 2) = some (a13, b13, s13) →
    fdef (st 10) = some (a14, b14, s14) →
    fdef (st 12) = some (a15, b15, s15) →
    fdef (st 13) = some (a16, b16, s16) →
    fdef (st 14) = some (a17, b17, s17) →
    fdef (st 16) = some (a18, b18, s18) →
    fdef (st 17) = some (a19, b19, s19) →
    fdef (st 18) = some (a20, b20, s20) →
    fdef (st 19) = some (a21, b21, s21) →
    fdef (st 20) = some (a22, b22, s22) →
    fdef (st 21) = some (a23, b23, s23) →
    fdef (st 22) = some (a24, b24, s24) →
    fdef (st 23) = some (a25, b25, s25) →
    Params → Frag) rfl rfl rfl rfl rfl rfl rfl rfl rfl rfl rfl rfl rfl rfl rfl rfl rfl rfl rfl rfl rfl rfl rfl rfl rfl rfl
  case U => exact @fun a0 b0 s0 a1 b1 s1 a2 b2 s2 a3 b3 s3 a4 b4 s4 a5 b5 s5 a6 b6 s6 a7 b7 s7 a8 b8 s8 a9 b9 s9 a10 b10 s10 a11 b11 s11 a12 b12 s12 a13 b13 s13 a14 b14 s14 a15 b15 s15 a16 b16 s16 a17 b17 s17 a18 b18 s18 a19 b19 s19 a20 b20 s20 a21 b21 s21 a22 b22 s22 a23 b23 s23 a24 b24 s24 a25 b25 s25 _ _ _ _ _ _ _ _ _ _ _ _ _ _ _ _ _ _ _ _ _ _ _ _ _ _ P =>
   (((nat_lit 2), (.mk .none .none (.dict (List.toArray [(.mk (PyData.keyHash P (Str.ofString "type.__subclasses__.Exception.0")) (.str (Str.ofString "type.__subclasses__.Exception.0") 214) (.int 31 0)), (.mk (PyData.keyHash P (Str.ofString "type.__subclasses__.Exception.n")) (.str (Str.ofString "type.__subclasses__.Exception.n") 215) (.int 1 0))]) 2) (List.toArray []))) ::
    ((nat_lit 3), (.mk (.type "dict") .none (.dict (List.toArray [(.mk (PyData.keyHash P (Str.ofString "__name__")) (.str (Str.ofString "__name__") 165) (.str (Str.ofString "law_nt0546_01") 482)), (.mk (PyData.keyHash P (Str.ofString "__doc__")) (.str (Str.ofString "__doc__") 166) .none), (.mk (PyData.keyHash P (Str.ofString "__package__")) (.str (Str.ofString "__package__") 167) .none), (.mk (PyData.keyHash P (Str.ofString "__loader__")) (.str (Str.ofString "__loader__") 168) (.builtin "__main__.__loader__#opaque")), (.mk (PyData.keyHash P (Str.ofString "__spec__")) (.str (Str.ofString "__spec__") 169) .none), (.mk (PyData.keyHash P (Str.ofString "__annotations__")) (.str (Str.ofString "__annotations__") 170) (.ref 6)), (.mk (PyData.keyHash P (Str.ofString "__builtins__")) (.str (Str.ofString "__builtins__") 171) (.ref 4)), (.mk (PyData.keyHash P (Str.ofString "__file__")) (.str (Str.ofString "__file__") 173) (.str (Str.ofString "/claim/cut.py") 172)), (.mk (PyData.keyHash P (Str.ofString "__cached__")) (.str (Str.ofString "__cached__") 174) .none), (.mk (PyData.keyHash P (Str.ofString "PressError")) (.str (Str.ofString "PressError") 217) (.ref 31)), (.mk (PyData.keyHash P (Str.ofString "FrameError")) (.str (Str.ofString "FrameError") 233) (.ref 44)), (.mk (PyData.keyHash P (Str.ofString "parts")) (.str (Str.ofString "parts") 243) (.ref 53)), (.mk (PyData.keyHash P (Str.ofString "Component")) (.str (Str.ofString "Component") 278) (.ref 70)), (.mk (PyData.keyHash P (Str.ofString "Frame")) (.str (Str.ofString "Frame") 372) (.ref 136)), (.mk (PyData.keyHash P (Str.ofString "Grid")) (.str (Str.ofString "Grid") 424) (.ref 169)), (.mk (PyData.keyHash P (Str.ofString "unit_size")) (.str (Str.ofString "unit_size") 433) (.ref 180)), (.mk (PyData.keyHash P (Str.ofString "copied_components")) (.str (Str.ofString "copied_components") 444) (.ref 187)), (.mk (PyData.keyHash P (Str.ofString "cropped_frame")) (.str (Str.ofString "cropped_frame") 459) (.ref 194)), (.mk (PyData.keyHash P (Str.ofString "cropped_grid")) (.str (Str.ofString "cropped_grid") 481) (.ref 201)), (.mk (PyData.keyHash P (Str.ofString "_law_pool")) (.str (Str.ofString "_law_pool") 494) (.ref 208)), (.mk (PyData.keyHash P (Str.ofString "_law_take")) (.str (Str.ofString "_law_take") 503) (.ref 215)), (.mk (PyData.keyHash P (Str.ofString "_law_frame")) (.str (Str.ofString "_law_frame") 516) (.ref 222)), (.mk (PyData.keyHash P (Str.ofString "_law_grid")) (.str (Str.ofString "_law_grid") 529) (.ref 229)), (.mk (PyData.keyHash P (Str.ofString "_law_part")) (.str (Str.ofString "_law_part") 541) (.ref 236)), (.mk (PyData.keyHash P (Str.ofString "_law_is_part")) (.str (Str.ofString "_law_is_part") 563) (.ref 243)), (.mk (PyData.keyHash P (Str.ofString "_law_is_refused")) (.str (Str.ofString "_law_is_refused") 572) (.ref 250)), (.mk (PyData.keyHash P (Str.ofString "law")) (.str (Str.ofString "law") 594) (.ref 257))]) 27) (List.toArray []))) ::
    ((nat_lit 15), (.mk (.type "tuple") .none (.seq (List.toArray [(.type "Exception")]) 0) (List.toArray []))) ::
    ((nat_lit 22), (.mk (.type "tuple") .none (.seq (List.toArray []) 0) (List.toArray []))) ::
    ((nat_lit 24), (.mk (.type "tuple") .none (.seq (List.toArray [(.str (Str.ofString "self") 204), (.str (Str.ofString "message") 205)]) 0) (List.toArray []))) ::
    ((nat_lit 25), (.mk (.type "tuple") .none (.seq (List.toArray []) 0) (List.toArray []))) ::
    ((nat_lit 27), (.mk (.type "code") .none (.fields (List.toArray [(.str (Str.ofString "__init__") 201), (.str (Str.ofString "PressError.__init__") 202), (.str (Str.ofString "/claim/cut.py") 203), (.int 4 0), (.int 2 0), (.int 0 0), (.int 0 0), (.int 3 0), (.ref 22), (.bool true), (.int 181 0), (.ref 23), .none, (.ref 24), (.ref 25), (.ref 26), (.int 206 0), (.int 4 0), (.str (Str.ofString "/claim/cut.py") 207)])) (List.toArray []))) ::
    ((nat_lit 28), (.mk (.type "function") .none (.func (.mk (Str.ofString "__init__") (Str.ofString "PressError.__init__") a0 (.stmts b0) s0 3 [] .none .none .none (.str (Str.ofString "pixelpress.errors") 187) .none (.ref 27) .none 0)) (List.toArray []))) ::
    ((nat_lit 29), (.mk (.type "tuple") .none (.seq (List.toArray [(.str (Str.ofString "message") 209)]) 0) (List.toArray []))) ::
    ((nat_lit 30), (.mk (.type "dict") .none (.dict (List.toArray [(.mk (PyData.keyHash P (Str.ofString "__module__")) (.str (Str.ofString "__module__") 196) (.str (Str.ofString "pixelpress.errors") 187)), (.mk (PyData.keyHash P (Str.ofString "__firstlineno__")) (.str (Str.ofString "__firstlineno__") 200) (.int 2 199)), (.mk (PyData.keyHash P (Str.ofString "__init__")) (.str (Str.ofString "__init__") 208) (.ref 28)), (.mk (PyData.keyHash P (Str.ofString "__static_attributes__")) (.str (Str.ofString "__static_attributes__") 210) (.ref 29)), (.mk (PyData.keyHash P (Str.ofString "__weakref__")) (.str (Str.ofString "__weakref__") 212) (.ref 32)), (.mk (PyData.keyHash P (Str.ofString "__doc__")) (.str (Str.ofString "__doc__") 213) .none)]) 3) (List.toArray []))) ::
    ((nat_lit 31), (.mk (.type "type") .none (.cls (.mk (Str.ofString "PressError") [(.type "Exception")] [(.ref 31), (.type "Exception"), (.type "BaseException"), (.type "object")] 30 (Str.ofString "PressError") true [] [(.ref 44)] false .none false)) (List.toArray [(.some (.ref 15)), .none, (.some (.str (Str.ofString "PressError") 189)), (.some (.str (Str.ofString "PressError") 197)), (.some (.builtin "Exception.__new__")), (.some (.bool true))]))) ::
    ((nat_lit 32), (.mk (.type "getset_descriptor") .none (.fields (List.toArray [(.str (Str.ofString "__weakref__") 211), (.ref 31), (.builtin "ExceptionGroup.__weakref__"), .none])) (List.toArray []))) ::
    ((nat_lit 35), (.mk (.type "tuple") .none (.seq (List.toArray [(.ref 31)]) 0) (List.toArray []))) ::
    ((nat_lit 42), (.mk (.type "tuple") .none (.seq (List.toArray []) 0) (List.toArray []))) ::
    ((nat_lit 43), (.mk (.type "dict") .none (.dict (List.toArray [(.mk (PyData.keyHash P (Str.ofString "__module__")) (.str (Str.ofString "__module__") 225) (.str (Str.ofString "pixelpress.errors") 187)), (.mk (PyData.keyHash P (Str.ofString "__firstlineno__")) (.str (Str.ofString "__firstlineno__") 229) (.int 7 228)), (.mk (PyData.keyHash P (Str.ofString "__static_attributes__")) (.str (Str.ofString "__static_attributes__") 230) (.ref 42)), (.mk (PyData.keyHash P (Str.ofString "__doc__")) (.str (Str.ofString "__doc__") 231) .none)]) 2) (List.toArray []))) ::
    ((nat_lit 44), (.mk (.type "type") .none (.cls (.mk (Str.ofString "FrameError") [(.ref 31)] [(.ref 44), (.ref 31), (.type "Exception"), (.type "BaseException"), (.type "object")] 43 (Str.ofString "FrameError") true [] [] false .none false)) (List.toArray [(.some (.ref 35)), .none, (.some (.str (Str.ofString "FrameError") 218)), (.some (.str (Str.ofString "FrameError") 226)), (.some (.builtin "Exception.__new__")), (.some (.bool true))]))) ::
    ((nat_lit 47), (.mk (.type "tuple") .none (.seq (List.toArray []) 0) (List.toArray []))) ::
    ((nat_lit 49), (.mk (.type "tuple") .none (.seq (List.toArray [(.str (Str.ofString "many") 239), (.str (Str.ofString "size") 240)]) 0) (List.toArray []))) ::
    ((nat_lit 50), (.mk (.type "tuple") .none (.seq (List.toArray []) 0) (List.toArray []))) ::
    ((nat_lit 52), (.mk (.type "code") .none (.fields (List.toArray [(.str (Str.ofString "parts") 236), (.str (Str.ofString "parts") 237), (.str (Str.ofString "/claim/cut.py") 238), (.int 10 0), (.int 2 0), (.int 0 0), (.int 0 0), (.int 3 0), (.ref 47), (.bool true), (.int 181 0), (.ref 48), .none, (.ref 49), (.ref 50), (.ref 51), (.int 241 0), (.int 10 0), (.str (Str.ofString "/claim/cut.py") 242)])) (List.toArray []))) ::
    ((nat_lit 53), (.mk (.type "function") .none (.func (.mk (Str.ofString "parts") (Str.ofString "parts") a1 (.stmts b1) s1 3 [] .none .none .none (.str (Str.ofString "pixelpress.frames") 234) .none (.ref 52) .none 0)) (List.toArray []))) ::
    ((nat_lit 61), (.mk (.type "tuple") .none (.seq (List.toArray []) 0) (List.toArray []))) ::
    ((nat_lit 63), (.mk (.type "tuple") .none (.seq (List.toArray [(.str (Str.ofString "self") 259), (.str (Str.ofString "ident") 260), (.str (Str.ofString "across") 261), (.str (Str.ofString "down") 262), (.str (Str.ofString "quant") 263)]) 0) (List.toArray []))) ::
    ((nat_lit 64), (.mk (.type "tuple") .none (.seq (List.toArray []) 0) (List.toArray []))) ::
    ((nat_lit 66), (.mk (.type "code") .none (.fields (List.toArray [(.str (Str.ofString "__init__") 256), (.str (Str.ofString "Component.__init__") 257), (.str (Str.ofString "/claim/cut.py") 258), (.int 14 0), (.int 5 0), (.int 0 0), (.int 0 0), (.int 3 0), (.ref 61), (.bool true), (.int 181 0), (.ref 62), .none, (.ref 63), (.ref 64), (.ref 65), (.int 264 0), (.int 14 0), (.str (Str.ofString "/claim/cut.py") 265)])) (List.toArray []))) ::
    ((nat_lit 67), (.mk (.type "function") .none (.func (.mk (Str.ofString "__init__") (Str.ofString "Component.__init__") a2 (.stmts b2) s2 3 [] .none .none .none (.str (Str.ofString "pixelpress.frames") 234) .none (.ref 66) .none 0)) (List.toArray []))) ::
    ((nat_lit 68), (.mk (.type "tuple") .none (.seq (List.toArray [(.str (Str.ofString "across") 267), (.str (Str.ofString "down") 268), (.str (Str.ofString "ident") 269), (.str (Str.ofString "quant") 270)]) 0) (List.toArray []))) ::
    ((nat_lit 69), (.mk (.type "dict") .none (.dict (List.toArray [(.mk (PyData.keyHash P (Str.ofString "__module__")) (.str (Str.ofString "__module__") 251) (.str (Str.ofString "pixelpress.frames") 234)), (.mk (PyData.keyHash P (Str.ofString "__firstlineno__")) (.str (Str.ofString "__firstlineno__") 255) (.int 12 254)), (.mk (PyData.keyHash P (Str.ofString "__init__")) (.str (Str.ofString "__init__") 266) (.ref 67)), (.mk (PyData.keyHash P (Str.ofString "__static_attributes__")) (.str (Str.ofString "__static_attributes__") 271) (.ref 68)), (.mk (PyData.keyHash P (Str.ofString "__dict__")) (.str (Str.ofString "__dict__") 273) (.ref 71)), (.mk (PyData.keyHash P (Str.ofString "__weakref__")) (.str (Str.ofString "__weakref__") 275) (.ref 72)), (.mk (PyData.keyHash P (Str.ofString "__doc__")) (.str (Str.ofString "__doc__") 276) .none)]) 4) (List.toArray []))) ::
    ((nat_lit 70), (.mk (.type "type") .none (.cls (.mk (Str.ofString "Component") [(.type "object")] [(.ref 70), (.type "object")] 69 (Str.ofString "Component") true [] [] false .none false)) (List.toArray [.none, .none, (.some (.str (Str.ofString "Component") 244)), (.some (.str (Str.ofString "Component") 252)), (.some (.builtin "object.__new__")), (.some (.bool true))]))) ::
    ((nat_lit 71), (.mk (.type "getset_descriptor") .none (.fields (List.toArray [(.str (Str.ofString "__dict__") 272), (.ref 70), (.builtin "function.__dict__"), (.builtin "function.__dict__#set")])) (List.toArray []))) ::
    ((nat_lit 72), (.mk (.type "getset_descriptor") .none (.fields (List.toArray [(.str (Str.ofString "__weakref__") 274), (.ref 70), (.builtin "ExceptionGroup.__weakref__"), .none])) (List.toArray []))) ::
    ((nat_lit 82), (.mk (.type "tuple") .none (.seq (List.toArray []) 0) (List.toArray []))) ::
    ((nat_lit 84), (.mk (.type "tuple") .none (.seq (List.toArray [(.str (Str.ofString "self") 294), (.str (Str.ofString "kind") 295), (.str (Str.ofString "precision") 296), (.str (Str.ofString "height") 297), (.str (Str.ofString "width") 298), (.str (Str.ofString "components") 299), (.str (Str.ofString "n") 300)]) 0) (List.toArray []))) ::
    ((nat_lit 85), (.mk (.type "tuple") .none (.seq (List.toArray []) 0) (List.toArray []))) ::
    ((nat_lit 87), (.mk (.type "code") .none (.fields (List.toArray [(.str (Str.ofString "__init__") 291), (.str (Str.ofString "Frame.__init__") 292), (.str (Str.ofString "/claim/cut.py") 293), (.int 21 0), (.int 7 0), (.int 0 0), (.int 0 0), (.int 3 0), (.ref 82), (.bool true), (.int 181 0), (.ref 83), .none, (.ref 84), (.ref 85), (.ref 86), (.int 301 0), (.int 21 0), (.str (Str.ofString "/claim/cut.py") 302)])) (List.toArray []))) ::
    ((nat_lit 88), (.mk (.type "function") .none (.func (.mk (Str.ofString "__init__") (Str.ofString "Frame.__init__") a3 (.stmts b3) s3 3 [] .none .none .none (.str (Str.ofString "pixelpress.frames") 234) .none (.ref 87) .none 0)) (List.toArray []))) ::
    ((nat_lit 89), (.mk (.type "tuple") .none (.seq (List.toArray []) 0) (List.toArray []))) ::
    ((nat_lit 92), (.mk (.type "code") .none (.fields (List.toArray [(.str (Str.ofString "most_across") 304), (.str (Str.ofString "Frame.most_across") 305), (.str (Str.ofString "/claim/cut.py") 306), (.int 29 0), (.int 1 0), (.int 0 0), (.int 0 0), (.int 3 0), (.ref 89), (.bool true), (.int 181 0), (.ref 90), .none, .none, .none, (.ref 91), (.int 307 0), (.int 29 0), (.str (Str.ofString "/claim/cut.py") 308)])) (List.toArray []))) ::
    ((nat_lit 93), (.mk (.type "function") .none (.func (.mk (Str.ofString "most_across") (Str.ofString "Frame.most_across") a4 (.stmts b4) s4 3 [] .none .none .none (.str (Str.ofString "pixelpress.frames") 234) .none (.ref 92) .none 0)) (List.toArray []))) ::
    ((nat_lit 94), (.mk (.type "tuple") .none (.seq (List.toArray []) 0) (List.toArray []))) ::
    ((nat_lit 97), (.mk (.type "code") .none (.fields (List.toArray [(.str (Str.ofString "most_down") 310), (.str (Str.ofString "Frame.most_down") 311), (.str (Str.ofString "/claim/cut.py") 312), (.int 32 0), (.int 1 0), (.int 0 0), (.int 0 0), (.int 3 0), (.ref 94), (.bool true), (.int 181 0), (.ref 95), .none, .none, .none, (.ref 96), (.int 313 0), (.int 32 0), (.str (Str.ofString "/claim/cut.py") 314)])) (List.toArray []))) ::
    ((nat_lit 98), (.mk (.type "function") .none (.func (.mk (Str.ofString "most_down") (Str.ofString "Frame.most_down") a5 (.stmts b5) s5 3 [] .none .none .none (.str (Str.ofString "pixelpress.frames") 234) .none (.ref 97) .none 0)) (List.toArray []))) ::
    ((nat_lit 99), (.mk (.type "tuple") .none (.seq (List.toArray []) 0) (List.toArray []))) ::
    ((nat_lit 101), (.mk (.type "tuple") .none (.seq (List.toArray [(.str (Str.ofString "self") 319)]) 0) (List.toArray []))) ::
    ((nat_lit 102), (.mk (.type "tuple") .none (.seq (List.toArray []) 0) (List.toArray []))) ::
    ((nat_lit 104), (.mk (.type "code") .none (.fields (List.toArray [(.str (Str.ofString "mcus_across") 316), (.str (Str.ofString "Frame.mcus_across") 317), (.str (Str.ofString "/claim/cut.py") 318), (.int 35 0), (.int 1 0), (.int 0 0), (.int 0 0), (.int 3 0), (.ref 99), (.bool true), (.int 181 0), (.ref 100), .none, (.ref 101), (.ref 102), (.ref 103), (.int 320 0), (.int 35 0), (.str (Str.ofString "/claim/cut.py") 321)])) (List.toArray []))) ::
    ((nat_lit 105), (.mk (.type "function") .none (.func (.mk (Str.ofString "mcus_across") (Str.ofString "Frame.mcus_across") a6 (.stmts b6) s6 3 [] .none .none .none (.str (Str.ofString "pixelpress.frames") 234) .none (.ref 104) .none 0)) (List.toArray []))) ::
    ((nat_lit 106), (.mk (.type "tuple") .none (.seq (List.toArray []) 0) (List.toArray []))) ::
    ((nat_lit 108), (.mk (.type "tuple") .none (.seq (List.toArray [(.str (Str.ofString "self") 326)]) 0) (List.toArray []))) ::
    ((nat_lit 109), (.mk (.type "tuple") .none (.seq (List.toArray []) 0) (List.toArray []))) ::
    ((nat_lit 111), (.mk (.type "code") .none (.fields (List.toArray [(.str (Str.ofString "mcus_down") 323), (.str (Str.ofString "Frame.mcus_down") 324), (.str (Str.ofString "/claim/cut.py") 325), (.int 38 0), (.int 1 0), (.int 0 0), (.int 0 0), (.int 3 0), (.ref 106), (.bool true), (.int 181 0), (.ref 107), .none, (.ref 108), (.ref 109), (.ref 110), (.int 327 0), (.int 38 0), (.str (Str.ofString "/claim/cut.py") 328)])) (List.toArray []))) ::
    ((nat_lit 112), (.mk (.type "function") .none (.func (.mk (Str.ofString "mcus_down") (Str.ofString "Frame.mcus_down") a7 (.stmts b7) s7 3 [] .none .none .none (.str (Str.ofString "pixelpress.frames") 234) .none (.ref 111) .none 0)) (List.toArray []))) ::
    ((nat_lit 113), (.mk (.type "tuple") .none (.seq (List.toArray []) 0) (List.toArray []))) ::
    ((nat_lit 115), (.mk (.type "tuple") .none (.seq (List.toArray [(.str (Str.ofString "self") 333), (.str (Str.ofString "place") 334), (.str (Str.ofString "component") 335), (.str (Str.ofString "width") 336)]) 0) (List.toArray []))) ::
    ((nat_lit 116), (.mk (.type "tuple") .none (.seq (List.toArray []) 0) (List.toArray []))) ::
    ((nat_lit 118), (.mk (.type "code") .none (.fields (List.toArray [(.str (Str.ofString "plane_size") 330), (.str (Str.ofString "Frame.plane_size") 331), (.str (Str.ofString "/claim/cut.py") 332), (.int 41 0), (.int 2 0), (.int 0 0), (.int 0 0), (.int 3 0), (.ref 113), (.bool true), (.int 181 0), (.ref 114), .none, (.ref 115), (.ref 116), (.ref 117), (.int 337 0), (.int 41 0), (.str (Str.ofString "/claim/cut.py") 338)])) (List.toArray []))) ::
    ((nat_lit 119), (.mk (.type "function") .none (.func (.mk (Str.ofString "plane_size") (Str.ofString "Frame.plane_size") a8 (.stmts b8) s8 3 [] .none .none .none (.str (Str.ofString "pixelpress.frames") 234) .none (.ref 118) .none 0)) (List.toArray []))) ::
    ((nat_lit 120), (.mk (.type "tuple") .none (.seq (List.toArray []) 0) (List.toArray []))) ::
    ((nat_lit 122), (.mk (.type "tuple") .none (.seq (List.toArray [(.str (Str.ofString "self") 343), (.str (Str.ofString "place") 344), (.str (Str.ofString "width") 345), (.str (Str.ofString "height") 346)]) 0) (List.toArray []))) ::
    ((nat_lit 123), (.mk (.type "tuple") .none (.seq (List.toArray []) 0) (List.toArray []))) ::
    ((nat_lit 125), (.mk (.type "code") .none (.fields (List.toArray [(.str (Str.ofString "blocks") 340), (.str (Str.ofString "Frame.blocks") 341), (.str (Str.ofString "/claim/cut.py") 342), (.int 46 0), (.int 2 0), (.int 0 0), (.int 0 0), (.int 3 0), (.ref 120), (.bool true), (.int 181 0), (.ref 121), .none, (.ref 122), (.ref 123), (.ref 124), (.int 347 0), (.int 46 0), (.str (Str.ofString "/claim/cut.py") 348)])) (List.toArray []))) ::
    ((nat_lit 126), (.mk (.type "function") .none (.func (.mk (Str.ofString "blocks") (Str.ofString "Frame.blocks") a9 (.stmts b9) s9 3 [] .none .none .none (.str (Str.ofString "pixelpress.frames") 234) .none (.ref 125) .none 0)) (List.toArray []))) ::
    ((nat_lit 127), (.mk (.type "tuple") .none (.seq (List.toArray []) 0) (List.toArray []))) ::
    ((nat_lit 129), (.mk (.type "tuple") .none (.seq (List.toArray [(.str (Str.ofString "self") 353), (.str (Str.ofString "place") 354), (.str (Str.ofString "component") 355)]) 0) (List.toArray []))) ::
    ((nat_lit 130), (.mk (.type "tuple") .none (.seq (List.toArray []) 0) (List.toArray []))) ::
    ((nat_lit 132), (.mk (.type "code") .none (.fields (List.toArray [(.str (Str.ofString "padded") 350), (.str (Str.ofString "Frame.padded") 351), (.str (Str.ofString "/claim/cut.py") 352), (.int 50 0), (.int 2 0), (.int 0 0), (.int 0 0), (.int 3 0), (.ref 127), (.bool true), (.int 181 0), (.ref 128), .none, (.ref 129), (.ref 130), (.ref 131), (.int 356 0), (.int 50 0), (.str (Str.ofString "/claim/cut.py") 357)])) (List.toArray []))) ::
    ((nat_lit 133), (.mk (.type "function") .none (.func (.mk (Str.ofString "padded") (Str.ofString "Frame.padded") a10 (.stmts b10) s10 3 [] .none .none .none (.str (Str.ofString "pixelpress.frames") 234) .none (.ref 132) .none 0)) (List.toArray []))) ::
    ((nat_lit 134), (.mk (.type "tuple") .none (.seq (List.toArray [(.str (Str.ofString "components") 359), (.str (Str.ofString "height") 360), (.str (Str.ofString "kind") 361), (.str (Str.ofString "n") 362), (.str (Str.ofString "precision") 363), (.str (Str.ofString "width") 364)]) 0) (List.toArray []))) ::
    ((nat_lit 135), (.mk (.type "dict") .none (.dict (List.toArray [(.mk (PyData.keyHash P (Str.ofString "__module__")) (.str (Str.ofString "__module__") 286) (.str (Str.ofString "pixelpress.frames") 234)), (.mk (PyData.keyHash P (Str.ofString "__firstlineno__")) (.str (Str.ofString "__firstlineno__") 290) (.int 19 289)), (.mk (PyData.keyHash P (Str.ofString "__init__")) (.str (Str.ofString "__init__") 303) (.ref 88)), (.mk (PyData.keyHash P (Str.ofString "most_across")) (.str (Str.ofString "most_across") 309) (.ref 93)), (.mk (PyData.keyHash P (Str.ofString "most_down")) (.str (Str.ofString "most_down") 315) (.ref 98)), (.mk (PyData.keyHash P (Str.ofString "mcus_across")) (.str (Str.ofString "mcus_across") 322) (.ref 105)), (.mk (PyData.keyHash P (Str.ofString "mcus_down")) (.str (Str.ofString "mcus_down") 329) (.ref 112)), (.mk (PyData.keyHash P (Str.ofString "plane_size")) (.str (Str.ofString "plane_size") 339) (.ref 119)), (.mk (PyData.keyHash P (Str.ofString "blocks")) (.str (Str.ofString "blocks") 349) (.ref 126)), (.mk (PyData.keyHash P (Str.ofString "padded")) (.str (Str.ofString "padded") 358) (.ref 133)), (.mk (PyData.keyHash P (Str.ofString "__static_attributes__")) (.str (Str.ofString "__static_attributes__") 365) (.ref 134)), (.mk (PyData.keyHash P (Str.ofString "__dict__")) (.str (Str.ofString "__dict__") 367) (.ref 137)), (.mk (PyData.keyHash P (Str.ofString "__weakref__")) (.str (Str.ofString "__weakref__") 369) (.ref 138)), (.mk (PyData.keyHash P (Str.ofString "__doc__")) (.str (Str.ofString "__doc__") 370) .none)]) 4) (List.toArray []))) ::
    ((nat_lit 136), (.mk (.type "type") .none (.cls (.mk (Str.ofString "Frame") [(.type "object")] [(.ref 136), (.type "object")] 135 (Str.ofString "Frame") true [] [] false .none false)) (List.toArray [.none, .none, (.some (.str (Str.ofString "Frame") 279)), (.some (.str (Str.ofString "Frame") 287)), (.some (.builtin "object.__new__")), (.some (.bool true))]))) ::
    ((nat_lit 137), (.mk (.type "getset_descriptor") .none (.fields (List.toArray [(.str (Str.ofString "__dict__") 366), (.ref 136), (.builtin "function.__dict__"), (.builtin "function.__dict__#set")])) (List.toArray []))) ::
    ((nat_lit 138), (.mk (.type "getset_descriptor") .none (.fields (List.toArray [(.str (Str.ofString "__weakref__") 368), (.ref 136), (.builtin "ExceptionGroup.__weakref__"), .none])) (List.toArray []))) ::
    ((nat_lit 148), (.mk (.type "tuple") .none (.seq (List.toArray []) 0) (List.toArray []))) ::
    ((nat_lit 151), (.mk (.type "code") .none (.fields (List.toArray [(.str (Str.ofString "__init__") 387), (.str (Str.ofString "Grid.__init__") 388), (.str (Str.ofString "/claim/cut.py") 389), (.int 56 0), (.int 2 0), (.int 0 0), (.int 0 0), (.int 3 0), (.ref 148), (.bool true), (.int 181 0), (.ref 149), .none, .none, .none, (.ref 150), (.int 390 0), (.int 56 0), (.str (Str.ofString "/claim/cut.py") 391)])) (List.toArray []))) ::
    ((nat_lit 152), (.mk (.type "function") .none (.func (.mk (Str.ofString "__init__") (Str.ofString "Grid.__init__") a11 (.stmts b11) s11 3 [] .none .none .none (.str (Str.ofString "pixelpress.grid") 373) .none (.ref 151) .none 0)) (List.toArray []))) ::
    ((nat_lit 153), (.mk (.type "tuple") .none (.seq (List.toArray []) 0) (List.toArray []))) ::
    ((nat_lit 155), (.mk (.type "tuple") .none (.seq (List.toArray [(.str (Str.ofString "self") 396), (.str (Str.ofString "place") 397), (.str (Str.ofString "x") 398), (.str (Str.ofString "y") 399), (.str (Str.ofString "row") 400)]) 0) (List.toArray []))) ::
    ((nat_lit 156), (.mk (.type "tuple") .none (.seq (List.toArray []) 0) (List.toArray []))) ::
    ((nat_lit 158), (.mk (.type "code") .none (.fields (List.toArray [(.str (Str.ofString "get") 393), (.str (Str.ofString "Grid.get") 394), (.str (Str.ofString "/claim/cut.py") 395), (.int 63 0), (.int 4 0), (.int 0 0), (.int 0 0), (.int 3 0), (.ref 153), (.bool true), (.int 181 0), (.ref 154), .none, (.ref 155), (.ref 156), (.ref 157), (.int 401 0), (.int 63 0), (.str (Str.ofString "/claim/cut.py") 402)])) (List.toArray []))) ::
    ((nat_lit 159), (.mk (.type "function") .none (.func (.mk (Str.ofString "get") (Str.ofString "Grid.get") a12 (.stmts b12) s12 3 [] .none .none .none (.str (Str.ofString "pixelpress.grid") 373) .none (.ref 158) .none 0)) (List.toArray []))) ::
    ((nat_lit 160), (.mk (.type "tuple") .none (.seq (List.toArray []) 0) (List.toArray []))) ::
    ((nat_lit 162), (.mk (.type "tuple") .none (.seq (List.toArray [(.str (Str.ofString "self") 407), (.str (Str.ofString "place") 408), (.str (Str.ofString "x") 409), (.str (Str.ofString "y") 410), (.str (Str.ofString "row") 411)]) 0) (List.toArray []))) ::
    ((nat_lit 163), (.mk (.type "tuple") .none (.seq (List.toArray []) 0) (List.toArray []))) ::
    ((nat_lit 165), (.mk (.type "code") .none (.fields (List.toArray [(.str (Str.ofString "put") 404), (.str (Str.ofString "Grid.put") 405), (.str (Str.ofString "/claim/cut.py") 406), (.int 67 0), (.int 5 0), (.int 0 0), (.int 0 0), (.int 3 0), (.ref 160), (.bool true), (.int 181 0), (.ref 161), .none, (.ref 162), (.ref 163), (.ref 164), (.int 412 0), (.int 67 0), (.str (Str.ofString "/claim/cut.py") 413)])) (List.toArray []))) ::
    ((nat_lit 166), (.mk (.type "function") .none (.func (.mk (Str.ofString "put") (Str.ofString "Grid.put") a13 (.stmts b13) s13 3 [] .none .none .none (.str (Str.ofString "pixelpress.grid") 373) .none (.ref 165) .none 0)) (List.toArray []))) ::
    ((nat_lit 167), (.mk (.type "tuple") .none (.seq (List.toArray [(.str (Str.ofString "many") 415), (.str (Str.ofString "planes") 416)]) 0) (List.toArray []))) ::
    ((nat_lit 168), (.mk (.type "dict") .none (.dict (List.toArray [(.mk (PyData.keyHash P (Str.ofString "__module__")) (.str (Str.ofString "__module__") 382) (.str (Str.ofString "pixelpress.grid") 373)), (.mk (PyData.keyHash P (Str.ofString "__firstlineno__")) (.str (Str.ofString "__firstlineno__") 386) (.int 54 385)), (.mk (PyData.keyHash P (Str.ofString "__init__")) (.str (Str.ofString "__init__") 392) (.ref 152)), (.mk (PyData.keyHash P (Str.ofString "get")) (.str (Str.ofString "get") 403) (.ref 159)), (.mk (PyData.keyHash P (Str.ofString "put")) (.str (Str.ofString "put") 414) (.ref 166)), (.mk (PyData.keyHash P (Str.ofString "__static_attributes__")) (.str (Str.ofString "__static_attributes__") 417) (.ref 167)), (.mk (PyData.keyHash P (Str.ofString "__dict__")) (.str (Str.ofString "__dict__") 419) (.ref 170)), (.mk (PyData.keyHash P (Str.ofString "__weakref__")) (.str (Str.ofString "__weakref__") 421) (.ref 171)), (.mk (PyData.keyHash P (Str.ofString "__doc__")) (.str (Str.ofString "__doc__") 422) .none)]) 4) (List.toArray []))) ::
    ((nat_lit 169), (.mk (.type "type") .none (.cls (.mk (Str.ofString "Grid") [(.type "object")] [(.ref 169), (.type "object")] 168 (Str.ofString "Grid") true [] [] false .none false)) (List.toArray [.none, .none, (.some (.str (Str.ofString "Grid") 375)), (.some (.str (Str.ofString "Grid") 383)), (.some (.builtin "object.__new__")), (.some (.bool true))]))) ::
    ((nat_lit 170), (.mk (.type "getset_descriptor") .none (.fields (List.toArray [(.str (Str.ofString "__dict__") 418), (.ref 169), (.builtin "function.__dict__"), (.builtin "function.__dict__#set")])) (List.toArray []))) ::
    ((nat_lit 171), (.mk (.type "getset_descriptor") .none (.fields (List.toArray [(.str (Str.ofString "__weakref__") 420), (.ref 169), (.builtin "ExceptionGroup.__weakref__"), .none])) (List.toArray []))) ::
    ((nat_lit 174), (.mk (.type "tuple") .none (.seq (List.toArray []) 0) (List.toArray []))) ::
    ((nat_lit 176), (.mk (.type "tuple") .none (.seq (List.toArray [(.str (Str.ofString "frame") 430)]) 0) (List.toArray []))) ::
    ((nat_lit 177), (.mk (.type "tuple") .none (.seq (List.toArray []) 0) (List.toArray []))) ::
    ((nat_lit 179), (.mk (.type "code") .none (.fields (List.toArray [(.str (Str.ofString "unit_size") 427), (.str (Str.ofString "unit_size") 428), (.str (Str.ofString "/claim/cut.py") 429), (.int 70 0), (.int 1 0), (.int 0 0), (.int 0 0), (.int 3 0), (.ref 174), (.bool true), (.int 181 0), (.ref 175), .none, (.ref 176), (.ref 177), (.ref 178), (.int 431 0), (.int 70 0), (.str (Str.ofString "/claim/cut.py") 432)])) (List.toArray []))) ::
    ((nat_lit 180), (.mk (.type "function") .none (.func (.mk (Str.ofString "unit_size") (Str.ofString "unit_size") a14 (.stmts b14) s14 3 [] .none .none .none (.str (Str.ofString "pixelpress.turning") 425) .none (.ref 179) .none 0)) (List.toArray []))) ::
    ((nat_lit 181), (.mk (.type "tuple") .none (.seq (List.toArray []) 0) (List.toArray []))) ::
    ((nat_lit 183), (.mk (.type "tuple") .none (.seq (List.toArray [(.str (Str.ofString "frame") 439), (.str (Str.ofString "found") 440), (.str (Str.ofString "component") 441)]) 0) (List.toArray []))) ::
    ((nat_lit 184), (.mk (.type "tuple") .none (.seq (List.toArray []) 0) (List.toArray []))) ::
    ((nat_lit 186), (.mk (.type "code") .none (.fields (List.toArray [(.str (Str.ofString "copied_components") 436), (.str (Str.ofString "copied_components") 437), (.str (Str.ofString "/claim/cut.py") 438), (.int 73 0), (.int 1 0), (.int 0 0), (.int 0 0), (.int 3 0), (.ref 181), (.bool true), (.int 181 0), (.ref 182), .none, (.ref 183), (.ref 184), (.ref 185), (.int 442 0), (.int 73 0), (.str (Str.ofString "/claim/cut.py") 443)])) (List.toArray []))) ::
    ((nat_lit 187), (.mk (.type "function") .none (.func (.mk (Str.ofString "copied_components") (Str.ofString "copied_components") a15 (.stmts b15) s15 3 [] .none .none .none (.str (Str.ofString "pixelpress.cropping") 434) .none (.ref 186) .none 0)) (List.toArray []))) ::
    ((nat_lit 188), (.mk (.type "tuple") .none (.seq (List.toArray []) 0) (List.toArray []))) ::
    ((nat_lit 190), (.mk (.type "tuple") .none (.seq (List.toArray [(.str (Str.ofString "frame") 448), (.str (Str.ofString "x") 449), (.str (Str.ofString "y") 450), (.str (Str.ofString "across") 451), (.str (Str.ofString "down") 452), (.str (Str.ofString "wide") 453), (.str (Str.ofString "high") 454), (.str (Str.ofString "width") 455), (.str (Str.ofString "height") 456)]) 0) (List.toArray []))) ::
    ((nat_lit 191), (.mk (.type "tuple") .none (.seq (List.toArray []) 0) (List.toArray []))) ::
    ((nat_lit 193), (.mk (.type "code") .none (.fields (List.toArray [(.str (Str.ofString "cropped_frame") 445), (.str (Str.ofString "cropped_frame") 446), (.str (Str.ofString "/claim/cut.py") 447), (.int 78 0), (.int 5 0), (.int 0 0), (.int 0 0), (.int 3 0), (.ref 188), (.bool true), (.int 181 0), (.ref 189), .none, (.ref 190), (.ref 191), (.ref 192), (.int 457 0), (.int 78 0), (.str (Str.ofString "/claim/cut.py") 458)])) (List.toArray []))) ::
    ((nat_lit 194), (.mk (.type "function") .none (.func (.mk (Str.ofString "cropped_frame") (Str.ofString "cropped_frame") a16 (.stmts b16) s16 3 [] .none .none .none (.str (Str.ofString "pixelpress.cropping") 434) .none (.ref 193) .none 0)) (List.toArray []))) ::
    ((nat_lit 195), (.mk (.type "tuple") .none (.seq (List.toArray []) 0) (List.toArray []))) ::
    ((nat_lit 197), (.mk (.type "tuple") .none (.seq (List.toArray [(.str (Str.ofString "grid") 463), (.str (Str.ofString "frame") 464), (.str (Str.ofString "x") 465), (.str (Str.ofString "y") 466), (.str (Str.ofString "across") 467), (.str (Str.ofString "down") 468), (.str (Str.ofString "later") 469), (.str (Str.ofString "found") 470), (.str (Str.ofString "place") 471), (.str (Str.ofString "component") 472), (.str (Str.ofString "left") 473), (.str (Str.ofString "top") 474), (.str (Str.ofString "wide") 475), (.str (Str.ofString "high") 476), (.str (Str.ofString "row") 477), (.str (Str.ofString "column") 478)]) 0) (List.toArray []))) ::
    ((nat_lit 198), (.mk (.type "tuple") .none (.seq (List.toArray []) 0) (List.toArray []))) ::
    ((nat_lit 200), (.mk (.type "code") .none (.fields (List.toArray [(.str (Str.ofString "cropped_grid") 460), (.str (Str.ofString "cropped_grid") 461), (.str (Str.ofString "/claim/cut.py") 462), (.int 85 0), (.int 6 0), (.int 0 0), (.int 0 0), (.int 3 0), (.ref 195), (.bool true), (.int 181 0), (.ref 196), .none, (.ref 197), (.ref 198), (.ref 199), (.int 479 0), (.int 85 0), (.str (Str.ofString "/claim/cut.py") 480)])) (List.toArray []))) ::
    ((nat_lit 201), (.mk (.type "function") .none (.func (.mk (Str.ofString "cropped_grid") (Str.ofString "cropped_grid") a17 (.stmts b17) s17 3 [] .none .none .none (.str (Str.ofString "pixelpress.cropping") 434) .none (.ref 200) .none 0)) (List.toArray []))) ::
    ((nat_lit 202), (.mk (.type "tuple") .none (.seq (List.toArray []) 0) (List.toArray []))) ::
    ((nat_lit 204), (.mk (.type "tuple") .none (.seq (List.toArray [(.str (Str.ofString "script") 487), (.str (Str.ofString "k") 488), (.str (Str.ofString "cell") 489), (.str (Str.ofString "big") 490), (.str (Str.ofString "mixed") 491)]) 0) (List.toArray []))) ::
    ((nat_lit 205), (.mk (.type "tuple") .none (.seq (List.toArray []) 0) (List.toArray []))) ::
    ((nat_lit 207), (.mk (.type "code") .none (.fields (List.toArray [(.str (Str.ofString "_law_pool") 484), (.str (Str.ofString "_law_pool") 485), (.str (Str.ofString "/claim/cut.py") 486), (.int 97 0), (.int 2 0), (.int 0 0), (.int 0 0), (.int 3 0), (.ref 202), (.bool true), (.int 181 0), (.ref 203), .none, (.ref 204), (.ref 205), (.ref 206), (.int 492 0), (.int 97 0), (.str (Str.ofString "/claim/cut.py") 493)])) (List.toArray []))) ::
    ((nat_lit 208), (.mk (.type "function") .none (.func (.mk (Str.ofString "_law_pool") (Str.ofString "_law_pool") a18 (.stmts b18) s18 3 [] .none .none .none (.str (Str.ofString "law_nt0546_01") 482) .none (.ref 207) .none 0)) (List.toArray []))) ::
    ((nat_lit 209), (.mk (.type "tuple") .none (.seq (List.toArray []) 0) (List.toArray []))) ::
    ((nat_lit 211), (.mk (.type "tuple") .none (.seq (List.toArray [(.str (Str.ofString "source") 498), (.str (Str.ofString "top") 499), (.str (Str.ofString "drawn") 500)]) 0) (List.toArray []))) ::
    ((nat_lit 212), (.mk (.type "tuple") .none (.seq (List.toArray []) 0) (List.toArray []))) ::
    ((nat_lit 214), (.mk (.type "code") .none (.fields (List.toArray [(.str (Str.ofString "_law_take") 495), (.str (Str.ofString "_law_take") 496), (.str (Str.ofString "/claim/cut.py") 497), (.int 104 0), (.int 2 0), (.int 0 0), (.int 0 0), (.int 3 0), (.ref 209), (.bool true), (.int 181 0), (.ref 210), .none, (.ref 211), (.ref 212), (.ref 213), (.int 501 0), (.int 104 0), (.str (Str.ofString "/claim/cut.py") 502)])) (List.toArray []))) ::
    ((nat_lit 215), (.mk (.type "function") .none (.func (.mk (Str.ofString "_law_take") (Str.ofString "_law_take") a19 (.stmts b19) s19 3 [] .none .none .none (.str (Str.ofString "law_nt0546_01") 482) .none (.ref 214) .none 0)) (List.toArray []))) ::
    ((nat_lit 216), (.mk (.type "tuple") .none (.seq (List.toArray []) 0) (List.toArray []))) ::
    ((nat_lit 218), (.mk (.type "tuple") .none (.seq (List.toArray [(.str (Str.ofString "source") 507), (.str (Str.ofString "components") 508), (.str (Str.ofString "place") 509), (.str (Str.ofString "width") 510), (.str (Str.ofString "height") 511), (.str (Str.ofString "kind") 512), (.str (Str.ofString "precision") 513)]) 0) (List.toArray []))) ::
    ((nat_lit 219), (.mk (.type "tuple") .none (.seq (List.toArray []) 0) (List.toArray []))) ::
    ((nat_lit 221), (.mk (.type "code") .none (.fields (List.toArray [(.str (Str.ofString "_law_frame") 504), (.str (Str.ofString "_law_frame") 505), (.str (Str.ofString "/claim/cut.py") 506), (.int 111 0), (.int 1 0), (.int 0 0), (.int 0 0), (.int 3 0), (.ref 216), (.bool true), (.int 181 0), (.ref 217), .none, (.ref 218), (.ref 219), (.ref 220), (.int 514 0), (.int 111 0), (.str (Str.ofString "/claim/cut.py") 515)])) (List.toArray []))) ::
    ((nat_lit 222), (.mk (.type "function") .none (.func (.mk (Str.ofString "_law_frame") (Str.ofString "_law_frame") a20 (.stmts b20) s20 3 [] .none .none .none (.str (Str.ofString "law_nt0546_01") 482) .none (.ref 221) .none 0)) (List.toArray []))) ::
    ((nat_lit 223), (.mk (.type "tuple") .none (.seq (List.toArray []) 0) (List.toArray []))) ::
    ((nat_lit 225), (.mk (.type "tuple") .none (.seq (List.toArray [(.str (Str.ofString "frame") 520), (.str (Str.ofString "grid") 521), (.str (Str.ofString "place") 522), (.str (Str.ofString "across") 523), (.str (Str.ofString "down") 524), (.str (Str.ofString "y") 525), (.str (Str.ofString "x") 526)]) 0) (List.toArray []))) ::
    ((nat_lit 226), (.mk (.type "tuple") .none (.seq (List.toArray []) 0) (List.toArray []))) ::
    ((nat_lit 228), (.mk (.type "code") .none (.fields (List.toArray [(.str (Str.ofString "_law_grid") 517), (.str (Str.ofString "_law_grid") 518), (.str (Str.ofString "/claim/cut.py") 519), (.int 118 0), (.int 1 0), (.int 0 0), (.int 0 0), (.int 3 0), (.ref 223), (.bool true), (.int 181 0), (.ref 224), .none, (.ref 225), (.ref 226), (.ref 227), (.int 527 0), (.int 118 0), (.str (Str.ofString "/claim/cut.py") 528)])) (List.toArray []))) ::
    ((nat_lit 229), (.mk (.type "function") .none (.func (.mk (Str.ofString "_law_grid") (Str.ofString "_law_grid") a21 (.stmts b21) s21 3 [] .none .none .none (.str (Str.ofString "law_nt0546_01") 482) .none (.ref 228) .none 0)) (List.toArray []))) ::
    ((nat_lit 230), (.mk (.type "tuple") .none (.seq (List.toArray []) 0) (List.toArray []))) ::
    ((nat_lit 232), (.mk (.type "tuple") .none (.seq (List.toArray [(.str (Str.ofString "source") 533), (.str (Str.ofString "frame") 534), (.str (Str.ofString "wide") 535), (.str (Str.ofString "high") 536), (.str (Str.ofString "x") 537), (.str (Str.ofString "y") 538)]) 0) (List.toArray []))) ::
    ((nat_lit 233), (.mk (.type "tuple") .none (.seq (List.toArray []) 0) (List.toArray []))) ::
    ((nat_lit 235), (.mk (.type "code") .none (.fields (List.toArray [(.str (Str.ofString "_law_part") 530), (.str (Str.ofString "_law_part") 531), (.str (Str.ofString "/claim/cut.py") 532), (.int 126 0), (.int 2 0), (.int 0 0), (.int 0 0), (.int 3 0), (.ref 230), (.bool true), (.int 181 0), (.ref 231), .none, (.ref 232), (.ref 233), (.ref 234), (.int 539 0), (.int 126 0), (.str (Str.ofString "/claim/cut.py") 540)])) (List.toArray []))) ::
    ((nat_lit 236), (.mk (.type "function") .none (.func (.mk (Str.ofString "_law_part") (Str.ofString "_law_part") a22 (.stmts b22) s22 3 [] .none .none .none (.str (Str.ofString "law_nt0546_01") 482) .none (.ref 235) .none 0)) (List.toArray []))) ::
    ((nat_lit 237), (.mk (.type "tuple") .none (.seq (List.toArray []) 0) (List.toArray []))) ::
    ((nat_lit 239), (.mk (.type "tuple") .none (.seq (List.toArray [(.str (Str.ofString "frame") 545), (.str (Str.ofString "later") 546), (.str (Str.ofString "found") 547), (.str (Str.ofString "part") 548), (.str (Str.ofString "x") 549), (.str (Str.ofString "y") 550), (.str (Str.ofString "across") 551), (.str (Str.ofString "down") 552), (.str (Str.ofString "wide") 553), (.str (Str.ofString "high") 554), (.str (Str.ofString "due") 555), (.str (Str.ofString "place") 556), (.str (Str.ofString "own") 557), (.str (Str.ofString "other") 558), (.str (Str.ofString "row") 559), (.str (Str.ofString "spot_x") 560)]) 0) (List.toArray []))) ::
    ((nat_lit 240), (.mk (.type "tuple") .none (.seq (List.toArray []) 0) (List.toArray []))) ::
    ((nat_lit 242), (.mk (.type "code") .none (.fields (List.toArray [(.str (Str.ofString "_law_is_part") 542), (.str (Str.ofString "_law_is_part") 543), (.str (Str.ofString "/claim/cut.py") 544), (.int 130 0), (.int 4 0), (.int 0 0), (.int 0 0), (.int 3 0), (.ref 237), (.bool true), (.int 181 0), (.ref 238), .none, (.ref 239), (.ref 240), (.ref 241), (.int 561 0), (.int 130 0), (.str (Str.ofString "/claim/cut.py") 562)])) (List.toArray []))) ::
    ((nat_lit 243), (.mk (.type "function") .none (.func (.mk (Str.ofString "_law_is_part") (Str.ofString "_law_is_part") a23 (.stmts b23) s23 3 [] .none .none .none (.str (Str.ofString "law_nt0546_01") 482) .none (.ref 242) .none 0)) (List.toArray []))) ::
    ((nat_lit 244), (.mk (.type "tuple") .none (.seq (List.toArray []) 0) (List.toArray []))) ::
    ((nat_lit 246), (.mk (.type "tuple") .none (.seq (List.toArray [(.str (Str.ofString "grid") 567), (.str (Str.ofString "frame") 568), (.str (Str.ofString "part") 569)]) 0) (List.toArray []))) ::
    ((nat_lit 247), (.mk (.type "tuple") .none (.seq (List.toArray []) 0) (List.toArray []))) ::
    ((nat_lit 249), (.mk (.type "code") .none (.fields (List.toArray [(.str (Str.ofString "_law_is_refused") 564), (.str (Str.ofString "_law_is_refused") 565), (.str (Str.ofString "/claim/cut.py") 566), (.int 147 0), (.int 3 0), (.int 0 0), (.int 0 0), (.int 3 0), (.ref 244), (.bool true), (.int 181 0), (.ref 245), .none, (.ref 246), (.ref 247), (.ref 248), (.int 570 0), (.int 147 0), (.str (Str.ofString "/claim/cut.py") 571)])) (List.toArray []))) ::
    ((nat_lit 250), (.mk (.type "function") .none (.func (.mk (Str.ofString "_law_is_refused") (Str.ofString "_law_is_refused") a24 (.stmts b24) s24 3 [] .none .none .none (.str (Str.ofString "law_nt0546_01") 482) .none (.ref 249) .none 0)) (List.toArray []))) ::
    ((nat_lit 251), (.mk (.type "tuple") .none (.seq (List.toArray []) 0) (List.toArray []))) ::
    ((nat_lit 253), (.mk (.type "tuple") .none (.seq (List.toArray [(.str (Str.ofString "script") 576), (.str (Str.ofString "source") 577), (.str (Str.ofString "frame") 578), (.str (Str.ofString "grid") 579), (.str (Str.ofString "part") 580), (.str (Str.ofString "later") 581), (.str (Str.ofString "found") 582), (.str (Str.ofString "small") 583), (.str (Str.ofString "last") 584), (.str (Str.ofString "least") 585), (.str (Str.ofString "most") 586), (.str (Str.ofString "wide") 587), (.str (Str.ofString "high") 588), (.str (Str.ofString "whole") 589), (.str (Str.ofString "same") 590), (.str (Str.ofString "odd") 591)]) 0) (List.toArray []))) ::
    ((nat_lit 254), (.mk (.type "tuple") .none (.seq (List.toArray []) 0) (List.toArray []))) ::
    ((nat_lit 256), (.mk (.type "code") .none (.fields (List.toArray [(.str (Str.ofString "law") 573), (.str (Str.ofString "law") 574), (.str (Str.ofString "/claim/cut.py") 575), (.int 153 0), (.int 1 0), (.int 0 0), (.int 0 0), (.int 3 0), (.ref 251), (.bool true), (.int 181 0), (.ref 252), .none, (.ref 253), (.ref 254), (.ref 255), (.int 592 0), (.int 153 0), (.str (Str.ofString "/claim/cut.py") 593)])) (List.toArray []))) ::
    ((nat_lit 257), (.mk (.type "function") .none (.func (.mk (Str.ofString "law") (Str.ofString "law") a25 (.stmts b25) s25 3 [] .none .none .none (.str (Str.ofString "law_nt0546_01") 482) .none (.ref 256) .none 0)) (List.toArray []))) :: [])
theorem hd.as : ∀ P, ((nat_lit 2) :: (nat_lit 3) :: (nat_lit 15) :: (nat_lit 22) :: (nat_lit 24) :: (nat_lit 25) :: (nat_lit 27) :: (nat_lit 28) :: (nat_lit 29) :: (nat_lit 30) :: (nat_lit 31) :: (nat_lit 32) :: (nat_lit 35) :: (nat_lit 42) :: (nat_lit 43) :: (nat_lit 44) :: (nat_lit 47) :: (nat_lit 49) :: (nat_lit 50) :: (nat_lit 52) :: (nat_lit 53) :: (nat_lit 61) :: (nat_lit 63) :: (nat_lit 64) :: (nat_lit 66) :: (nat_lit 67) :: (nat_lit 68) :: (nat_lit 69) :: (nat_lit 70) :: (nat_lit 71) :: (nat_lit 72) :: (nat_lit 82) :: (nat_lit 84) :: (nat_lit 85) :: (nat_lit 87) :: (nat_lit 88) :: (nat_lit 89) :: (nat_lit 92) :: (nat_lit 93) :: (nat_lit 94) :: (nat_lit 97) :: (nat_lit 98) :: (nat_lit 99) :: (nat_lit 101) :: (nat_lit 102) :: (nat_lit 104) :: (nat_lit 105) :: (nat_lit 106) :: (nat_lit 108) :: (nat_lit 109) :: (nat_lit 111) :: (nat_lit 112) :: (nat_lit 113) :: (nat_lit 115) :: (nat_lit 116) :: (nat_lit 118) :: (nat_lit 119) :: (nat_lit 120) :: (nat_lit 122) :: (nat_lit 123) :: (nat_lit 125) :: (nat_lit 126) :: (nat_lit 127) :: (nat_lit 129) :: (nat_lit 130) :: (nat_lit 132) :: (nat_lit 133) :: (nat_lit 134) :: (nat_lit 135) :: (nat_lit 136) :: (nat_lit 137) :: (nat_lit 138) :: (nat_lit 148) :: (nat_lit 151) :: (nat_lit 152) :: (nat_lit 153) :: (nat_lit 155) :: (nat_lit 156) :: (nat_lit 158) :: (nat_lit 159) :: (nat_lit 160) :: (nat_lit 162) :: (nat_lit 163) :: (nat_lit 165) :: (nat_lit 166) :: (nat_lit 167) :: (nat_lit 168) :: (nat_lit 169) :: (nat_lit 170) :: (nat_lit 171) :: (nat_lit 174) :: (nat_lit 176) :: (nat_lit 177) :: (nat_lit 179) :: (nat_lit 180) :: (nat_lit 181) :: (nat_lit 183) :: (nat_lit 184) :: (nat_lit 186) :: (nat_lit 187) :: (nat_lit 188) :: (nat_lit 190) :: (nat_lit 191) :: (nat_lit 193) :: (nat_lit 194) :: (nat_lit 195) :: (nat_lit 197) :: (nat_lit 198) :: (nat_lit 200) :: (nat_lit 201) :: (nat_lit 202) :: (nat_lit 204) :: (nat_lit 205) :: (nat_lit 207) :: (nat_lit 208) :: (nat_lit 209) :: (nat_lit 211) :: (nat_lit 212) :: (nat_lit 214) :: (nat_lit 215) :: (nat_lit 216) :: (nat_lit 218) :: (nat_lit 219) :: (nat_lit 221) :: (nat_lit 222) :: (nat_lit 223) :: (nat_lit 225) :: (nat_lit 226) :: (nat_lit 228) :: (nat_lit 229) :: (nat_lit 230) :: (nat_lit 232) :: (nat_lit 233) :: (nat_lit 235) :: (nat_lit 236) :: (nat_lit 237) :: (nat_lit 239) :: (nat_lit 240) :: (nat_lit 242) :: (nat_lit 243) :: (nat_lit 244) :: (nat_lit 246) :: (nat_lit 247) :: (nat_lit 249) :: (nat_lit 250) :: (nat_lit 251) :: (nat_lit 253) :: (nat_lit 254) :: (nat_lit 256) :: (nat_lit 257) :: []) = (hd.heap_39 P).map (·.1) := fun _ => by kernel_rfl
noncomputable def hd.view_39 : Program := view PySem.Challenge.pw_nt0546_01 [1, 2, 4, 5, 6, 8, 10, 12, 13, 14, 16, 17, 18, 19, 20, 21, 22, 23]
noncomputable abbrev hd.hook : Hook := kHook hd.heap_39 ((nat_lit 2) :: (nat_lit 3) :: (nat_lit 15) :: (nat_lit 22) :: (nat_lit 24) :: (nat_lit 25) :: (nat_lit 27) :: (nat_lit 28) :: (nat_lit 29) :: (nat_lit 30) :: (nat_lit 31) :: (nat_lit 32) :: (nat_lit 35) :: (nat_lit 42) :: (nat_lit 43) :: (nat_lit 44) :: (nat_lit 47) :: (nat_lit 49) :: (nat_lit 50) :: (nat_lit 52) :: (nat_lit 53) :: (nat_lit 61) :: (nat_lit 63) :: (nat_lit 64) :: (nat_lit 66) :: (nat_lit 67) :: (nat_lit 68) :: (nat_lit 69) :: (nat_lit 70) :: (nat_lit 71) :: (nat_lit 72) :: (nat_lit 82) :: (nat_lit 84) :: (nat_lit 85) :: (nat_lit 87) :: (nat_lit 88) :: (nat_lit 89) :: (nat_lit 92) :: (nat_lit 93) :: (nat_lit 94) :: (nat_lit 97) :: (nat_lit 98) :: (nat_lit 99) :: (nat_lit 101) :: (nat_lit 102) :: (nat_lit 104) :: (nat_lit 105) :: (nat_lit 106) :: (nat_lit 108) :: (nat_lit 109) :: (nat_lit 111) :: (nat_lit 112) :: (nat_lit 113) :: (nat_lit 115) :: (nat_lit 116) :: (nat_lit 118) :: (nat_lit 119) :: (nat_lit 120) :: (nat_lit 122) :: (nat_lit 123) :: (nat_lit 125) :: (nat_lit 126) :: (nat_lit 127) :: (nat_lit 129) :: (nat_lit 130) :: (nat_lit 132) :: (nat_lit 133) :: (nat_lit 134) :: (nat_lit 135) :: (nat_lit 136) :: (nat_lit 137) :: (nat_lit 138) :: (nat_lit 148) :: (nat_lit 151) :: (nat_lit 152) :: (nat_lit 153) :: (nat_lit 155) :: (nat_lit 156) :: (nat_lit 158) :: (nat_lit 159) :: (nat_lit 160) :: (nat_lit 162) :: (nat_lit 163) :: (nat_lit 165) :: (nat_lit 166) :: (nat_lit 167) :: (nat_lit 168) :: (nat_lit 169) :: (nat_lit 170) :: (nat_lit 171) :: (nat_lit 174) :: (nat_lit 176) :: (nat_lit 177) :: (nat_lit 179) :: (nat_lit 180) :: (nat_lit 181) :: (nat_lit 183) :: (nat_lit 184) :: (nat_lit 186) :: (nat_lit 187) :: (nat_lit 188) :: (nat_lit 190) :: (nat_lit 191) :: (nat_lit 193) :: (nat_lit 194) :: (nat_lit 195) :: (nat_lit 197) :: (nat_lit 198) :: (nat_lit 200) :: (nat_lit 201) :: (nat_lit 202) :: (nat_lit 204) :: (nat_lit 205) :: (nat_lit 207) :: (nat_lit 208) :: (nat_lit 209) :: (nat_lit 211) :: (nat_lit 212) :: (nat_lit 214) :: (nat_lit 215) :: (nat_lit 216) :: (nat_lit 218) :: (nat_lit 219) :: (nat_lit 221) :: (nat_lit 222) :: (nat_lit 223) :: (nat_lit 225) :: (nat_lit 226) :: (nat_lit 228) :: (nat_lit 229) :: (nat_lit 230) :: (nat_lit 232) :: (nat_lit 233) :: (nat_lit 235) :: (nat_lit 236) :: (nat_lit 237) :: (nat_lit 239) :: (nat_lit 240) :: (nat_lit 242) :: (nat_lit 243) :: (nat_lit 244) :: (nat_lit 246) :: (nat_lit 247) :: (nat_lit 249) :: (nat_lit 250) :: (nat_lit 251) :: (nat_lit 253) :: (nat_lit 254) :: (nat_lit 256) :: (nat_lit 257) :: []) hd.as
noncomputable def hd.run (w : World) : Option Shared := openEnds treeTable PySem.Challenge.pw_nt0546_01 w 3968
lay_quick Mine.hd.run
set_option maxRecDepth 100000 in
set_option maxHeartbeats 8000000 in
theorem hd.left : LeftO PySem.Challenge.rw_nt0546_01.row.prog hd.view_39 [] (fun s => xlAt hd.view_39 [] s && recOk (RowW.records PySem.Challenge.rw_nt0546_01.row.toRowW) s) (Hook.obs hd.hook) (Hook.val hd.hook) 3968 := by
  intro w
  refine (congrArg (Option.map _) (congrFun PySem.W.Fast.te12940062684657749599 w : hd.run w = _)).trans ?_
  kernel_rfl
/-- the law from its walk -/
theorem hd {d : DefRec} {kwd : List (Str × PySem.Expr)} (e1 : defOf hd.view_39 PySem.Challenge.rw_nt0546_01.row.name = some (d, kwd)) (e2 : PySem.Challenge.rw_nt0546_01.row.prog.theDef PySem.Challenge.rw_nt0546_01.row.name = some (d.params, d.body, d.scope))
    (e3 : kwWritten? d.params.kwonlyargs d.params.kw_defaults = some kwd)
    (walk : WalkO hd.view_39 [] (XL hd.view_39 []) hd.hook.says PySem.Challenge.rw_nt0546_01.row.toRowW d kwd fun f vs => PySem.call f vs) : PySem.Challenge.rw_nt0546_01.Holds := by
  w_on; o_law
  refine holds_open hd.left (Hook.of _) (Hook.keeps _) (fun s e => xl_of s (Bool.and_eq_true_iff.mp e).1) XL.keeps e1 e2 e3 (fun s e => recFacts_of (Bool.and_eq_true_iff.mp e).2) (by rfl) (by first | assumption | decide +kernel) (by decide +kernel) ⟨rfl, rfl, rfl, rfl, rfl, by decide +kernel⟩ ?hw walk
  w_witness2
end
end Mine
-- Base
section
open PySem PySem.W PySem.Calls PyProof.Rows
namespace Mine

def Stay (h h' : Heap) : Prop := ∀ x o, h.get? x = some o → h'.get? x = some o
theorem Stay.refl (h : Heap) : Stay h h := fun _ _ e => e
theorem Stay.trans {a b c : Heap} (x : Stay a b) (y : Stay b c) : Stay a c := fun _ _ e => y _ _ (x _ _ e)
theorem stay_hide (h : Heap) (d : Addr) : Stay (h.hide d) h := fun _ _ e => Heap.of_hide e

/-- a def of the text called by position: its body walked over a base that the caller's heap holds -/
theorem call_B {prog : Program} {w : World} {A : Around} {s : Shared} {a : Addr} {K : Frag} {b : Heap} {news : List (Addr × Obj)}
    {R : Result → Shared → Prop} {name qual : Str} {params : Arguments} {body : List Stmt} {scope : Scope} {dV kV doc pm cdv ct oc : Value} {an od : Option Addr} {osl : Array (Option Value)} {args : Args} (binds : List (Str × Value))
    (kb : Stay b s.heap) (sz : b.objs.size ≤ s.heap.objs.size) (hn : ∀ p ∈ news, s.heap.get? p.1 = some p.2 ∧ b.get? p.1 = none)
    (X : K.In b) (hlim : b.NoLimit)
    (ho : K.lookup a = some ⟨oc, od, .func (fnOf name qual params body scope dV kV doc pm an cdv ct), osl⟩) (hcd : codeIn K cdv qual = true) (hroom : A.depth < recursionLimit)
    (hbind : BindsTo s (fnOf name qual params body scope dV kV doc pm an cdv ct) args binds) (hloc : ∀ y ∈ binds, scope.names.lookup y.1 = some .local)
    (h : ∀ h₁, Fr b s.heap.objs.size h₁ (fun y => binds.reverse.lookup y) → News b s.heap.objs.size h₁ news →
      wpAny (model prog w) (A.deeper (envOf qual scope s.heap.objs.size a cdv)) (execs body (envOf qual scope s.heap.objs.size a cdv))
        (fun fl s' => R (.ok (.ret (match fl with | .ret v => v | _ => .none))) s')
        (fun _ _ => False)
        { s with heap := h₁, toks := s.toks + binds.length })
    (hco : scope.isCoroutine = false := by rfl) (hgen : scope.isGenerator = false := by rfl) (hk : scope.kind = .function := by rfl)
    (hcell : ∀ x ∈ scope.names, x.2 ≠ .cell := by decide) : codeAny (model prog w) A (.call (.ref a) args) R s := by
  refine codeAny_call_def (fd := fnOf name qual params body scope dV kV doc pm an cdv ct) (body := body) (binds := binds) hroom (kb _ _ (X _ _ ho)) rfl (hlim.keeps kb) (codeRec_of (X.keeps kb) hcd) rfl hbind hcell hloc (fun h₁ hns hk₁ => ?_) hco hgen hk
  exact wpAny_mono (h h₁ ⟨hns, fun x o e => hk₁ _ _ (kb _ _ e), sz⟩ (fun p hp => ⟨hk₁ _ _ (hn p hp).1, Nat.ne_of_lt (Heap.lt_size (hn p hp).1), (hn p hp).2⟩)) (fun _ _ x => x) (fun _ _ x => x.elim)

theorem inst_base {h₀ h : Heap} {L x C dx : Addr} {od : Obj} {sl : Array (Option Value)} {m : Str → Option Value} (F : Fr h₀ L h m) (h1 : h₀.get? x = some ⟨.ref C, some dx, .plain, sl⟩) (h2 : h₀.get? dx = some od) :
    InstAt h x ⟨.ref C, some dx, .plain, sl⟩ C (some od) := ⟨F.keep _ _ h1, rfl, rfl, F.keep _ _ h2⟩

theorem fr_stay {b h h' : Heap} {L : Addr} {m : Str → Option Value} (F : Fr b L h m) (k : Stay h h') : Fr b L h' m :=
  ⟨F.ns.keeps k, fun _ _ e => k _ _ (F.keep _ _ e), F.above⟩
theorem news_stay {b h h' : Heap} {L : Addr} {news : List (Addr × Obj)} (N : News b L h news) (k : Stay h h') : News b L h' news :=
  fun p hp => ⟨k _ _ (N p hp).1, (N p hp).2⟩

/-- the code's room: nothing handled, shallow enough -/
structure Room (A : Around) (d : Nat) : Prop where
  handled : A.handled = none
  depth : A.depth + d < 600
  units : A.units + 4 * d < 9000

theorem Room.deeper {A : Around} {d : Nat} (r : Room A (d + 1)) (env : Env) : Room (A.deeper env) d :=
  ⟨r.handled, by have := r.depth; simp only [Around.deeper]; omega, by have := r.units; simp only [Around.deeper_units]; omega⟩
theorem Room.le {A : Around} {d e : Nat} (r : Room A d) (h : e ≤ d) : Room A e := ⟨r.handled, by have := r.depth; omega, by have := r.units; omega⟩
theorem Room.lim {A : Around} {d : Nat} (r : Room A d) : A.depth < recursionLimit := by have := r.depth; simp only [recursionLimit]; omega

theorem call_of_code {prog : Program} {w : World} {A : Around} {f : Value} {pos : List Value} {Q E : Value → Shared → Prop} {s : Shared}
    (h : codeAny (model prog w) A (.call f ⟨pos, []⟩) (fun r s' => match r with | .ok (.ret v) => Q v s' | .ok _ => False | .error e => E e s') s) : wpAny (model prog w) A (call f pos) Q E s := wpAny_call h
theorem bits_small {a : Int} (h0 : 0 ≤ a) (h1 : a < 4294967296) : Builtin.Int.intBits a ≤ 64 := by
  unfold Builtin.Int.intBits
  split
  · exact Nat.zero_le _
  · rename_i h
    have hn : a.natAbs ≠ 0 := by
      intro e
      apply h
      have : a = 0 := by omega
      subst this; rfl
    have : a.natAbs.log2 < 32 := (Nat.log2_lt hn).mpr (by omega)
    omega
theorem mulok_r {a b : Int} (h0 : 0 ≤ b) (h1 : b < 4294967296) : IntMulOk a b := IntMulOk.of_right (bits_small h0 h1)
theorem mulok_l {a b : Int} (h0 : 0 ≤ a) (h1 : a < 4294967296) : IntMulOk a b := IntMulOk.of_left (bits_small h0 h1)

/-- a component, a frame, as plain data -/
structure Cm where
  id : Int
  ac : Int
  dn : Int
  qu : Int
structure Fm where
  kind : Str
  prec : Int
  ht : Int
  wd : Int
  cs : List Cm

def CompAt (M : Addr → Obj → Prop) (x : Addr) (c : Cm) : Prop :=
  ∃ dx h1 t1 u1 h2 t2 u2 h3 t3 u3 h4 t4 u4, M x (instObj 70 dx) ∧
    M dx (dictOf [⟨h1, .str (Str.ofString "ident") t1, .int c.id u1⟩, ⟨h2, .str (Str.ofString "across") t2, .int c.ac u2⟩,
      ⟨h3, .str (Str.ofString "down") t3, .int c.dn u3⟩, ⟨h4, .str (Str.ofString "quant") t4, .int c.qu u4⟩] 4)
theorem CompAt.mono {M M' : Addr → Obj → Prop} {x : Addr} {c : Cm} (h : CompAt M x c) (k : ∀ a o, M a o → M' a o) : CompAt M' x c := by
  obtain ⟨dx, h1, t1, u1, h2, t2, u2, h3, t3, u3, h4, t4, u4, a, b⟩ := h
  exact ⟨dx, h1, t1, u1, h2, t2, u2, h3, t3, u3, h4, t4, u4, k _ _ a, k _ _ b⟩

def CompsAt (M : Addr → Obj → Prop) (vs : List Value) (cs : List Cm) : Prop :=
  vs.length = cs.length ∧ ∀ (i : Nat) (c : Cm), cs[i]? = some c → ∃ a : Addr, vs[i]? = some (Value.ref a) ∧ CompAt M a c
theorem CompsAt.mono {M M' : Addr → Obj → Prop} {vs : List Value} {cs : List Cm} (h : CompsAt M vs cs) (k : ∀ a o, M a o → M' a o) : CompsAt M' vs cs :=
  ⟨h.1, fun i c e => let ⟨a, x, y⟩ := h.2 i c e; ⟨a, x, y.mono k⟩⟩

def FrameAt (M : Addr → Obj → Prop) (x : Addr) (f : Fm) : Prop :=
  ∃ dx h1 t1 u1 h2 t2 u2 h3 t3 u3 h4 t4 u4 h5 t5 h6 t6 u6 l vs e, M x (instObj 136 dx) ∧
    M dx (dictOf [⟨h1, .str (Str.ofString "kind") t1, .str f.kind u1⟩, ⟨h2, .str (Str.ofString "precision") t2, .int f.prec u2⟩,
      ⟨h3, .str (Str.ofString "height") t3, .int f.ht u3⟩, ⟨h4, .str (Str.ofString "width") t4, .int f.wd u4⟩,
      ⟨h5, .str (Str.ofString "components") t5, .ref l⟩, ⟨h6, .str (Str.ofString "n") t6, .int 2 u6⟩] 6) ∧
    M l (PySem.W.listOf vs.toArray e) ∧ CompsAt M vs f.cs
theorem FrameAt.mono {M M' : Addr → Obj → Prop} {x : Addr} {f : Fm} (h : FrameAt M x f) (k : ∀ a o, M a o → M' a o) : FrameAt M' x f := by
  obtain ⟨dx, h1, t1, u1, h2, t2, u2, h3, t3, u3, h4, t4, u4, h5, t5, h6, t6, u6, l, vs, e, a, b, c, d⟩ := h
  exact ⟨dx, h1, t1, u1, h2, t2, u2, h3, t3, u3, h4, t4, u4, h5, t5, h6, t6, u6, l, vs, e, k _ _ a, k _ _ b, k _ _ c, d.mono k⟩

abbrev live (h : Heap) : Addr → Obj → Prop := fun a o => h.get? a = some o

def mxA (cs : List Cm) : Int := cs.foldr (fun c m => max c.ac m) 0
def mxD (cs : List Cm) : Int := cs.foldr (fun c m => max c.dn m) 0
structure Cm.Ok (c : Cm) : Prop where
  a : c.ac = 1 ∨ c.ac = 2
  d : c.dn = 1 ∨ c.dn = 2
structure Fm.Ok (f : Fm) : Prop where
  w0 : 1 ≤ f.wd
  w1 : f.wd ≤ 14
  h0 : 1 ≤ f.ht
  h1 : f.ht ≤ 10
  c0 : 1 ≤ f.cs.length
  c1 : f.cs.length ≤ 3
  cs : ∀ c ∈ f.cs, c.Ok
  kd : PyData.canLay0 (.str f.kind) = true

theorem mxA_ge {cs : List Cm} {c : Cm} (h : c ∈ cs) : c.ac ≤ mxA cs := by
  induction cs with
  | nil => cases h
  | cons d r ih =>
    simp only [mxA, List.foldr_cons]
    rcases List.mem_cons.mp h with rfl | h
    · omega
    · have := ih h; simp only [mxA] at this; omega
theorem mxD_ge {cs : List Cm} {c : Cm} (h : c ∈ cs) : c.dn ≤ mxD cs := by
  induction cs with
  | nil => cases h
  | cons d r ih =>
    simp only [mxD, List.foldr_cons]
    rcases List.mem_cons.mp h with rfl | h
    · omega
    · have := ih h; simp only [mxD] at this; omega
theorem mxA_mem {cs : List Cm} (hne : 1 ≤ cs.length) (h : ∀ c ∈ cs, 0 ≤ c.ac) : ∃ c ∈ cs, mxA cs = c.ac := by
  induction cs with
  | nil => simp at hne
  | cons d r ih =>
    by_cases hr : 1 ≤ r.length
    · obtain ⟨c, hc, e⟩ := ih hr (fun c hc => h c (.tail _ hc))
      simp only [mxA, List.foldr_cons] at e ⊢
      rcases Int.le_total d.ac c.ac with q | q
      · exact ⟨c, .tail _ hc, by rw [e]; omega⟩
      · exact ⟨d, .head _, by rw [e]; omega⟩
    · have : r = [] := by cases r with | nil => rfl | cons _ _ => simp at hr
      subst this
      exact ⟨d, .head _, by simp only [mxA, List.foldr_cons, List.foldr_nil]; have := h d (.head _); omega⟩
theorem mxD_mem {cs : List Cm} (hne : 1 ≤ cs.length) (h : ∀ c ∈ cs, 0 ≤ c.dn) : ∃ c ∈ cs, mxD cs = c.dn := by
  induction cs with
  | nil => simp at hne
  | cons d r ih =>
    by_cases hr : 1 ≤ r.length
    · obtain ⟨c, hc, e⟩ := ih hr (fun c hc => h c (.tail _ hc))
      simp only [mxD, List.foldr_cons] at e ⊢
      rcases Int.le_total d.dn c.dn with q | q
      · exact ⟨c, .tail _ hc, by rw [e]; omega⟩
      · exact ⟨d, .head _, by rw [e]; omega⟩
    · have : r = [] := by cases r with | nil => rfl | cons _ _ => simp at hr
      subst this
      exact ⟨d, .head _, by simp only [mxD, List.foldr_cons, List.foldr_nil]; have := h d (.head _); omega⟩
theorem Fm.Ok.mA {f : Fm} (o : f.Ok) : mxA f.cs = 1 ∨ mxA f.cs = 2 := by
  obtain ⟨c, hc, e⟩ := mxA_mem o.c0 (fun c hc => by rcases (o.cs c hc).a with q | q <;> omega)
  rw [e]; exact (o.cs c hc).a
theorem Fm.Ok.mD {f : Fm} (o : f.Ok) : mxD f.cs = 1 ∨ mxD f.cs = 2 := by
  obtain ⟨c, hc, e⟩ := mxD_mem o.c0 (fun c hc => by rcases (o.cs c hc).d with q | q <;> omega)
  rw [e]; exact (o.cs c hc).d
/-- the greatest, as the walk tells it -/
theorem mxA_is {cs : List Cm} {m : Int} (h : ∀ c ∈ cs, 0 ≤ c.ac) (hm : m ∈ cs.map (·.ac)) (hx : ∀ a, a ∈ cs.map (·.ac) → a ≤ m) : m = mxA cs := by
  have hne : 1 ≤ cs.length := by cases cs with | nil => simp at hm | cons _ _ => simp
  obtain ⟨c, hc, e⟩ := mxA_mem hne h
  obtain ⟨d, hd, rfl⟩ := List.mem_map.mp hm
  have h1 := mxA_ge hd
  have h2 := hx c.ac (List.mem_map.mpr ⟨c, hc, rfl⟩)
  omega
theorem mxD_is {cs : List Cm} {m : Int} (h : ∀ c ∈ cs, 0 ≤ c.dn) (hm : m ∈ cs.map (·.dn)) (hx : ∀ a, a ∈ cs.map (·.dn) → a ≤ m) : m = mxD cs := by
  have hne : 1 ≤ cs.length := by cases cs with | nil => simp at hm | cons _ _ => simp
  obtain ⟨c, hc, e⟩ := mxD_mem hne h
  obtain ⟨d, hd, rfl⟩ := List.mem_map.mp hm
  have h1 := mxD_ge hd
  have h2 := hx c.dn (List.mem_map.mpr ⟨c, hc, rfl⟩)
  omega
def mcA (f : Fm) : Int := Int.fdiv (f.wd + 2 * mxA f.cs - 1) (2 * mxA f.cs)
def mcD (f : Fm) : Int := Int.fdiv (f.ht + 2 * mxD f.cs - 1) (2 * mxD f.cs)
theorem Fm.Ok.mcA {f : Fm} (o : f.Ok) : 1 ≤ Mine.mcA f ∧ Mine.mcA f ≤ 7 := by
  have := o.w0; have := o.w1
  unfold Mine.mcA
  rcases o.mA with q | q <;> rw [q] <;> rw [Int.fdiv_eq_ediv_of_nonneg _ (by omega)] <;> omega
theorem Fm.Ok.mcD {f : Fm} (o : f.Ok) : 1 ≤ Mine.mcD f ∧ Mine.mcD f ≤ 5 := by
  have := o.h0; have := o.h1
  unfold Mine.mcD
  rcases o.mD with q | q <;> rw [q] <;> rw [Int.fdiv_eq_ediv_of_nonneg _ (by omega)] <;> omega
end Mine
end
-- Comp
section
open PySem PySem.W PySem.Calls PyProof.Rows
namespace Mine
section
variable {prog : Program} {w : World} {A : Around} {E : Value → Shared → Prop} {s : Shared} {env : Env} {b : Heap} {L l : Addr} {m : Str → Option Value} {news : List (Addr × Obj)}

theorem paired_ints {g : Value → Int} : ∀ {vs : List Value} {ys : List Value}, Paired (fun v y => ∃ t, y = Value.int (g v) t) vs ys → IntsAre ys (vs.map g)
  | _, _, .nil => .nil
  | _, _, .cons ⟨t, e⟩ r => by subst e; exact .cons _ _ (paired_ints r)

theorem comp_src {x : Str} {scope : Scope} {elt : Expr} {vs : List Value} {Q : Value → Shared → Prop} (F : Fr b L s.heap m) (N : News b L s.heap news) (hh : A.handled = none)
    (hl : s.heap.IsList l vs.toArray) (hsz : vs.length ≤ sizeLine) (g : Value → Int)
    (helt : ∀ C v s₃ m₃ E', v ∈ vs → s₃.heap.Ns C m₃ → m₃ x = some v → Stay s.heap s₃.heap → wpAny (model prog w) A (eval elt (compEnv scope C env)) (fun y s₄ => (∃ t, y = Value.int (g v) t) ∧ Keeps s₃ s₄) E' s₃)
    (h : ∀ D h' tk ys e, Fr b L h' m → News b L h' ((D, PySem.W.listOf ys e) :: news) → IntsAre ys.toList (vs.map g) → Stay s.heap h' → Q (.ref D) { s with heap := h', toks := tk }) :
    wpAny (model prog w) A (pyIter (.ref l)) (fun it s₂ => ∃ I fp wr n P St, it = .ref I ∧ Walks prog w A I fp wr n P St ∧ n ≤ sizeLine ∧ St 0 s₂.heap ∧ (∀ b ∈ fp, b < s₂.heap.objs.size) ∧
      QuietOn prog w A env scope x [] elt wr P (fun _ => true) (fun v y => ∃ t, y = Value.int (g v) t) s₂ ∧
      (∀ D h' tk ys (vs : List Value), s₂.heap.get? D = none → h'.IsList D ys → h'.PlainList D ys → vs.length = n → (∀ j v, vs[j]? = some v → P j v) → Paired (fun v y => ∃ t, y = Value.int (g v) t) (vs.filter fun _ => true) ys.toList →
        (∀ b o, b ∉ wr → s₂.heap.get? b = some o → h'.get? b = some o) → Q (.ref D) { s₂ with heap := h', toks := tk })) E s := by
  have hlt : l < s.heap.objs.size := by obtain ⟨o, ho, _⟩ := hl; exact Heap.lt_size ho
  refine wpAny_pyIter_list hl ?_
  have W := Walks.list (prog := prog) (w := w) hh s.heap.objs.size l (Nat.ne_of_lt hlt) vs.toArray
  have up : ∀ x o, s.heap.get? x = some o → (s.heap.push { cls := .type "list_iterator", data := .fields #[.ref l, .int 0 0] }).get? x = some o := fun x o e => Heap.get?_push_of_some _ e
  have nx : ∀ x o, s.heap.get? x = some o → x ∉ [s.heap.objs.size] := fun x o e q => by
    rw [List.mem_singleton] at q; subst q; exact absurd (Heap.lt_size e) (Nat.lt_irrefl _)
  refine ⟨_, _, _, _, _, _, rfl, W, by simpa using hsz, ⟨⟨_, Heap.get?_push_size _ rfl, rfl, rfl⟩, hl.at fun o e => up _ _ e⟩, ?_, ⟨?_, ?_⟩, ?_⟩
  · intro y hy
    rw [Heap.size_push]
    rcases List.mem_cons.mp hy with rfl | hy
    · exact Nat.lt_succ_self _
    · rw [List.mem_singleton] at hy; subst hy; exact Nat.lt_succ_of_lt hlt
  · intro C i v s₃ m₃ E' _ _ _ _ _
    rw [List.forIn_nil]
    exact wpAny_pure ⟨rfl, _, _, rfl, fun _ _ e => e⟩
  · intro C i v s₃ m₃ E' hP _ hn hm hk _
    refine helt C v s₃ m₃ E' ?_ hn hm fun y o e => hk y o (nx y o e) (up y o e)
    have hP' : vs[i]? = some v := by simpa using hP
    exact List.mem_of_getElem? hP'
  · intro D h' tk ys vs' hD hL hpl hlen hP hF hk
    have hvs : vs' = vs := by
      apply List.ext_getElem?
      intro j
      by_cases hj : j < vs'.length
      · have e1 : vs'[j]? = some vs'[j] := by simp [hj]
        have e2 : vs[j]? = some vs'[j] := by simpa using hP j _ e1
        rw [e1, e2]
      · have hl' : vs'.length = vs.length := by simpa using hlen
        rw [List.getElem?_eq_none (by omega), List.getElem?_eq_none (by omega)]
    subst hvs
    have st : Stay s.heap h' := fun y o e => hk y o (nx y o e) (up y o e)
    have Df : s.heap.get? D = none := by
      cases q : s.heap.get? D with
      | none => rfl
      | some o => rw [up _ _ q] at hD; cases hD
    obtain ⟨e, he⟩ := hpl
    have F' : Fr b L h' m := ⟨F.ns.keeps st, fun y o q => st _ _ (F.keep _ _ q), F.above⟩
    refine h D h' tk ys e F' ?_ ?_ st
    · intro p hp
      rcases List.mem_cons.mp hp with rfl | hp
      · refine ⟨he, ?_, ?_⟩
        · rintro rfl
          obtain ⟨o, _, _, ho, _⟩ := F.ns
          rw [ho] at Df; cases Df
        · cases q : b.get? D with
          | none => rfl
          | some o => rw [F.keep _ _ q] at Df; cases Df
      · exact ⟨st _ _ (N p hp).1, (N p hp).2⟩
    · have : (vs'.filter fun _ => true) = vs' := by simp
      rw [this] at hF
      exact paired_ints hF

theorem attr_block {C₀ : Addr} {x attr : Str} {xp pos : Pos} {v : Value} {m₃ : Str → Option Value} {scope : Scope} {Q : Value → Shared → Prop} (hn : s.heap.Ns C₀ m₃) (hm : m₃ x = some v)
    (hk : scope.kind = .function) (hl : (compEnv scope C₀ env).kindOf x = some .local) (h : wpAny (model prog w) A (getAttr v attr true) Q E s) (hd : (x == ("__debug__" : Str)) = false := by decide) :
    wpAny (model prog w) A (eval (.Attribute (.Name x xp) attr pos) (compEnv scope C₀ env)) Q E s :=
  Attribute_name (wpAny_Name (wpAny_loadName_local hk hl hn hm h) hd)
end

theorem CompAt.inj {h : Heap} {x : Addr} {c c' : Cm} (a : CompAt (live h) x c) (b : CompAt (live h) x c') : c = c' := by
  obtain ⟨dx, h1, t1, u1, h2, t2, u2, h3, t3, u3, h4, t4, u4, a1, a2⟩ := a
  obtain ⟨dx', h1', t1', u1', h2', t2', u2', h3', t3', u3', h4', t4', u4', b1, b2⟩ := b
  have e1 := Option.some.inj (a1.symm.trans b1)
  have e2 : dx = dx' := by injection e1 with _ q; exact Option.some.inj q
  subst e2
  have e3 := Option.some.inj (a2.symm.trans b2)
  cases c; cases c'
  simp only [dictOf, Obj.mk.injEq, Data.dict.injEq] at e3
  simp_all
open Classical in
noncomputable def gOf (h : Heap) (k : Cm → Int) (v : Value) : Int := if q : ∃ c, ∃ a : Addr, v = .ref a ∧ CompAt (live h) a c then k (choose q) else 0
open Classical in
theorem gOf_is {h : Heap} {k : Cm → Int} {a : Addr} {c : Cm} (x : CompAt (live h) a c) : gOf h k (.ref a) = k c := by
  have q : ∃ c, ∃ b : Addr, Value.ref a = .ref b ∧ CompAt (live h) b c := ⟨c, a, rfl, x⟩
  unfold gOf
  rw [dif_pos q]
  obtain ⟨b, e, y⟩ := choose_spec q
  cases e
  rw [CompAt.inj y x]
theorem gOf_map {h : Heap} {k : Cm → Int} {vs : List Value} {cs : List Cm} (x : CompsAt (live h) vs cs) : vs.map (gOf h k) = cs.map k := by
  apply List.ext_getElem?
  intro i
  rw [List.getElem?_map, List.getElem?_map]
  by_cases hi : i < cs.length
  · obtain ⟨a, e, y⟩ := x.2 i cs[i] (by simp [hi])
    rw [e, List.getElem?_eq_getElem hi]
    simp only [Option.map_some, gOf_is y]
  · have hv : vs.length = cs.length := x.1
    have e1 : vs[i]? = none := List.getElem?_eq_none (by omega)
    have e2 : cs[i]? = none := List.getElem?_eq_none (by omega)
    rw [e1, e2]; rfl
theorem CompsAt.of_mem {M : Addr → Obj → Prop} {vs : List Value} {cs : List Cm} (x : CompsAt M vs cs) {v : Value} (hv : v ∈ vs) : ∃ a c, v = .ref a ∧ c ∈ cs ∧ CompAt M a c := by
  obtain ⟨i, hi, rfl⟩ := List.mem_iff_getElem.mp hv
  have hi' : i < cs.length := by have := x.1; omega
  obtain ⟨a, e, y⟩ := x.2 i cs[i] (by simp [hi'])
  rw [List.getElem?_eq_getElem hi] at e
  exact ⟨a, _, Option.some.inj e, List.getElem_mem hi', y⟩

theorem get_here {prog : Program} {w : World} {A : Around} {E : Value → Shared → Prop} {s : Shared} {K : Frag} {x C : Addr} {ox : Obj} {es : List DictEntry} {n : Nat} {name : Str} {v : Value}
    {expr : Bool} {Q : Value → Shared → Prop} {attr : Option Value} (X : K.In s.heap) (I : InstAt s.heap x ox C (some (dictOf es n))) (hg : plainGet K C name = true) (hh : hasDictIn K C = true)
    (ha : findIn K (.ref C) name = some attr) (hn : noGet K attr = true) (hl : getL name es = some (some v)) (hv : handedIn v = true) (h : Q v { s with toks := s.toks + 1 }) :
    wpAny (model prog w) A (getAttr (.ref x) name expr) Q E s :=
  get_value X I (plainGet_of hg).1 (findObj_own hh ha hn hl) hv h
/-- an item of a list at a place that lies in it -/
theorem my_item {prog : Program} {w : World} {A : Around} {E : Value → Shared → Prop} {s : Shared} {value slice : PySem.Expr} {l : Addr} {vs : List Value} {e : Nat} {i : Nat} {u : Tok} {v : Value} {Q : Value → Shared → Prop}
    (hl : s.heap.get? l = some (PySem.W.listOf vs.toArray e)) (hhi : i < 1000) (hx : vs[i]? = some v) (h : Q v s)
    (hs : subscripted slice false (.ref l) (.int (i : Int) u) = operate [.ref l, .int (i : Int) u] (getItem (.ref l) (.int (i : Int) u)) := by with_unfolding_all rfl) :
    wpAny (model prog w) A (subscriptTail value slice (.ref l) (.int (i : Int) u)) Q E s :=
  have hl' : s.heap.IsList l vs.toArray := ⟨_, hl, rfl, _, rfl⟩
  tail_any hl'.typeIs slot_list_getitem.lookup (wpAny_getItem_list hl' (by omega) (by omega) (by simpa using hx) h) hs
abbrev tupOf (vs : List Value) : Obj := { cls := .type "tuple", data := .seq vs.toArray }
end Mine
end
-- Loop
section
open PySem PySem.W PySem.Calls PyProof.Rows
namespace Mine
section
variable {prog : Program} {w : World} {A : Around} {E : Value → Shared → Prop} {s : Shared} {env : Env} {b : Heap} {m : Str → Option Value} {nz : List (Addr × Obj)} {x : Str} {body : List Stmt} {Q : Flow → Shared → Prop}

/-- the end of a turn: the iterator's own object stands apart, the rest holds the invariant -/
def TurnEnd (b : Heap) (L I : Addr) (io : Obj) (J : (Str → Option Value) → List (Addr × Obj) → Prop) (s₁ s₂ : Shared) : Prop :=
  ∃ h' tk m' nz', s₂ = { s₁ with heap := h', toks := tk } ∧ Fr b L h' m' ∧ News b L h' ((I, io) :: nz') ∧ (∀ p ∈ nz', p.1 ≠ I) ∧ J m' nz'
def TurnPost (b : Heap) (L I : Addr) (io : Obj) (J : (Str → Option Value) → List (Addr × Obj) → Prop) (s₁ : Shared) (Q : Flow → Shared → Prop) (f : Flow) (s₂ : Shared) : Prop :=
  match f with
  | .ret v => Q (.ret v) s₂
  | .brk => Q .next s₂
  | _ => TurnEnd b L I io J s₁ s₂

theorem loop_core {I : Addr} {fp : List Addr} {n : Nat} {P : Nat → Value → Prop} {St : Nat → Heap → Prop} (J : Nat → (Str → Option Value) → List (Addr × Obj) → Prop)
    (W : Walks prog w A I fp [I] n P St) (hL : env.locals ∉ fp) (hI : b.get? I = none) (hfp : ∀ y ∈ fp, y ≠ I → ∃ o, b.get? y = some o) (hIfp : I ∈ fp)
    (hlive : ∀ i h, St i h → ∃ o, h.get? I = some o) (hn : ∀ q ∈ nz, q.1 ≠ I) (hst : St 0 s.heap) (F : Fr b env.locals s.heap m) (N : News b env.locals s.heap nz) (h0 : J 0 m nz)
    (turn : ∀ i v m₁ nz₁ h tk io, i < n → P i v → J i m₁ nz₁ → (∀ q ∈ nz₁, q.1 ≠ I) → Fr b env.locals h (fun y => if y = x then some v else m₁ y) → News b env.locals h ((I, io) :: nz₁) →
      wpAny (model prog w) A (execs body env) (TurnPost b env.locals I io (J (i + 1)) { s with heap := h, toks := tk } Q) E { s with heap := h, toks := tk })
    (done : ∀ m₁ nz₁ h tk, J n m₁ nz₁ → Fr b env.locals h m₁ → News b env.locals h nz₁ → Q .next { s with heap := h, toks := tk }) :
    LoopAtV prog w A b env x body Q E (.ref I) s := by
  refine ⟨I, fp, [I], n, P, St, m, nz, J, rfl, W, hL, ?_, ?_, hst, F, N, h0, ?_, ?_⟩
  · intro y hy; rw [List.mem_singleton] at hy; subst hy; exact hI
  · intro q hq h; exact hn q hq (List.mem_singleton.mp h)
  · rintro i v m₁ nz₁ s₁ own ⟨h, tk, rfl⟩ hi hP hJ hoff hown hown2 hall hst₁ F₁ N₁
    obtain ⟨io, hio⟩ := hlive _ _ hst₁
    have hmem : (I, io) ∈ own := hall I hIfp hI io hio
    have honly : ∀ p ∈ own, p = (I, io) := by
      intro p hp
      have hpI : p.1 = I := by
        refine Classical.byContradiction fun hne => ?_
        obtain ⟨o, ho⟩ := hfp p.1 (hown p hp) hne
        have := (N₁ p (List.mem_append_left _ hp)).2.2
        rw [ho] at this; cases this
      obtain ⟨a, o⟩ := p
      dsimp only at hpI
      subst hpI
      have := hown2 _ hp
      dsimp only at this hio
      rw [this] at hio
      cases hio; rfl
    have hap : ∀ q ∈ nz₁, q.1 ≠ I := fun q hq e => hoff q hq (List.mem_singleton.mpr e)
    have N₂ : News b env.locals h ((I, io) :: nz₁) := by
      intro p hp
      rcases List.mem_cons.mp hp with rfl | hp
      · exact N₁ _ (List.mem_append_left _ hmem)
      · exact N₁ _ (List.mem_append_right _ hp)
    refine wpAny_mono (turn i v m₁ nz₁ h tk io hi hP hJ hap F₁ N₂) (fun f s₂ p => ?_) fun _ _ e => e
    have fin : TurnEnd b env.locals I io (J (i + 1)) { s with heap := h, toks := tk } s₂ → LoopStepU b env.locals [I] own (J (i + 1)) { s with heap := h, toks := tk } .next s₂ := by
      rintro ⟨h', tk', m', nz', e, F', N', ha, hj⟩
      refine ⟨rfl, h', tk', m', nz', e, F', ?_, fun q hq hm => ha q hq (List.mem_singleton.mp hm), hj⟩
      intro p hp
      rcases List.mem_append.mp hp with hp | hp
      · rw [honly p hp]; exact N' _ (.head _)
      · exact N' _ (.tail _ hp)
    cases f with
    | ret v => exact .ret p
    | brk => exact .brk p
    | next => exact .next (fin p)
    | cont => exact .cont (fin p)
  · intro h' tk m' nz' F' N' _ hJ
    exact done m' nz' h' tk hJ F' N'

theorem loop_list {l : Addr} {vs : List Value} {e : Nat} (J : Nat → (Str → Option Value) → List (Addr × Obj) → Prop) (hh : A.handled = none)
    (hl : b.get? l = some (PySem.W.listOf vs.toArray e)) (F : Fr b env.locals s.heap m) (N : News b env.locals s.heap nz) (h0 : J 0 m nz)
    (turn : ∀ i v m₁ nz₁ h tk I io, vs[i]? = some v → J i m₁ nz₁ → (∀ q ∈ nz₁, q.1 ≠ I) → Fr b env.locals h (fun y => if y = x then some v else m₁ y) → News b env.locals h ((I, io) :: nz₁) →
      wpAny (model prog w) A (execs body env) (TurnPost b env.locals I io (J (i + 1)) { s with heap := h, toks := tk } Q) E { s with heap := h, toks := tk })
    (done : ∀ m₁ nz₁ h tk, J vs.length m₁ nz₁ → Fr b env.locals h m₁ → News b env.locals h nz₁ → Q .next { s with heap := h, toks := tk }) :
    wpAny (model prog w) A (pyIter (.ref l)) (fun it s₂ => LoopAtV prog w A b env x body Q E it s₂) E s := by
  have hls : s.heap.IsList l vs.toArray := ⟨_, F.keep _ _ hl, rfl, _, rfl⟩
  have hlt : l < b.objs.size := Heap.lt_size hl
  have hne : l ≠ s.heap.objs.size := Nat.ne_of_lt (Nat.lt_trans (Nat.lt_of_lt_of_le hlt F.above) F.ns.lt)
  refine wpAny_pyIter_list hls ?_
  have W := Walks.list (prog := prog) (w := w) hh s.heap.objs.size l hne vs.toArray
  have F2 : Fr b env.locals (s.heap.push { cls := .type "list_iterator", data := .fields #[.ref l, .int 0 0] }) m := F.push _
  refine loop_core (s := { s with heap := s.heap.push { cls := .type "list_iterator", data := .fields #[.ref l, .int 0 0] } }) J W ?_ ?_ ?_ (by simp) ?_ ?_ ⟨⟨_, Heap.get?_push_size _ rfl, rfl, rfl⟩, hls.at fun o e => Heap.get?_push_of_some _ e⟩ F2 (fun p hp => ⟨Heap.get?_push_of_some _ (N p hp).1, (N p hp).2⟩) h0 ?_ ?_
  · intro hm
    rcases List.mem_cons.mp hm with e | hm
    · exact absurd F.ns.lt (e ▸ Nat.lt_irrefl _)
    · exact absurd (Nat.lt_of_lt_of_le hlt F.above) ((List.mem_singleton.mp hm) ▸ Nat.lt_irrefl _)
  · cases q : b.get? s.heap.objs.size with
    | none => rfl
    | some o => exact absurd (Heap.lt_size (F.keep _ _ q)) (Nat.lt_irrefl _)
  · intro y hy hyI
    rcases List.mem_cons.mp hy with rfl | hy
    · exact absurd rfl hyI
    · rw [List.mem_singleton] at hy; subst hy; exact ⟨_, hl⟩
  · rintro i h ⟨⟨o, ho, _⟩, _⟩; exact ⟨o, ho⟩
  · intro q hq e
    exact absurd (Heap.lt_size (N q hq).1) (e ▸ Nat.lt_irrefl _)
  · intro i v m₁ nz₁ h tk io hi hP hJ ha F₁ N₁
    exact turn i v m₁ nz₁ h tk _ io (by simpa using hP) hJ ha F₁ N₁
  · intro m₁ nz₁ h tk hJ F₁ N₁
    exact done m₁ nz₁ h tk (by simpa using hJ) F₁ N₁

theorem small_range {N : Int} (h0 : 0 ≤ N) (h1 : N < 100000) : Builtin.Range.small 0 N 1 = true ∧ Builtin.Range.rangeSize 0 N 1 = N := by
  have e : Builtin.Range.rangeSize 0 N 1 = N := by
    unfold Builtin.Range.rangeSize
    simp
    omega
  refine ⟨?_, e⟩
  unfold Builtin.Range.small
  rw [e]
  unfold Builtin.Range.rangeFitsLong
  simp
  omega

theorem loop_range {N : Int} {t : Tok} (J : Nat → (Str → Option Value) → List (Addr × Obj) → Prop) (hh : A.handled = none) (hN0 : 0 ≤ N) (hN1 : N < 100000)
    (F : Fr b env.locals s.heap m) (Nw : News b env.locals s.heap nz) (h0 : J 0 m nz)
    (turn : ∀ (i : Nat) t m₁ nz₁ h tk I io, (i : Int) < N → J i m₁ nz₁ → (∀ q ∈ nz₁, q.1 ≠ I) → Fr b env.locals h (fun y => if y = x then some (.int (i : Int) t) else m₁ y) → News b env.locals h ((I, io) :: nz₁) →
      wpAny (model prog w) A (execs body env) (TurnPost b env.locals I io (J (i + 1)) { s with heap := h, toks := tk } Q) E { s with heap := h, toks := tk })
    (done : ∀ m₁ nz₁ h tk, J N.toNat m₁ nz₁ → Fr b env.locals h m₁ → News b env.locals h nz₁ → Q .next { s with heap := h, toks := tk }) :
    wpAny (model prog w) A (call (.type "range") [.int N t]) (fun xv s₁ => wpAny (model prog w) A (pyIter xv) (fun it s₂ => LoopAtV prog w A b env x body Q E it s₂) E s₁) E s := by
  obtain ⟨hs, hz⟩ := small_range hN0 hN1
  refine range1_rows F Nw fun h' tk t₁ u₁ v₁ hR F' N' _ => ?_
  refine wpAny_pyIter_range hR hs ?_
  rw [hz]
  have e0 : N = ((N.toNat : Nat) : Int) := by omega
  have W := Walks.range (prog := prog) (w := w) hh h'.objs.size 0 1 N.toNat
  have F2 : Fr b env.locals (h'.push { cls := .type "range_iterator", data := .fields #[rawInt 0, rawInt N, rawInt 1] }) m := F'.push _
  refine loop_core (s := { heap := h'.push { cls := .type "range_iterator", data := .fields #[rawInt 0, rawInt N, rawInt 1] }, gens := s.gens, drawn := s.drawn, toks := tk, os := s.os }) J W ?_ ?_ ?_ (by simp) ?_ ?_ ?_ F2 (fun p hp => ⟨Heap.get?_push_of_some _ (N' p hp).1, (N' p hp).2⟩) h0 ?_ ?_
  · intro hm
    exact absurd F'.ns.lt ((List.mem_singleton.mp hm) ▸ Nat.lt_irrefl _)
  · cases q : b.get? h'.objs.size with
    | none => rfl
    | some o => exact absurd (Heap.lt_size (F'.keep _ _ q)) (Nat.lt_irrefl _)
  · intro y hy hyI
    exact absurd (List.mem_singleton.mp hy) hyI
  · intro i h ho; exact ⟨_, ho⟩
  · intro q hq e
    exact absurd (Heap.lt_size (N' q hq).1) (e ▸ Nat.lt_irrefl _)
  · show IsRangeIter _ _ _ _ _
    unfold IsRangeIter
    rw [Heap.get?_push_size _ rfl]
    have e3 : ((N.toNat : Nat) : Int) - ((0 : Nat) : Int) = N := by omega
    rw [e3]
    rfl
  · rintro i v m₁ nz₁ h tk io hi ⟨t, rfl⟩ hJ ha F₁ N₁
    have e : (0 : Int) + (i : Int) * 1 = (i : Int) := by omega
    rw [e] at F₁
    exact turn i t m₁ nz₁ h tk _ io (by omega) hJ ha F₁ N₁
  · intro m₁ nz₁ h tk hJ F₁ N₁
    exact done m₁ nz₁ h tk hJ F₁ N₁
end
end Mine
end
-- Make
section
open PySem PySem.W PySem.Calls PyProof.Rows
namespace Mine
def made (h h' : Heap) : Addr → Obj → Prop := fun a o => h'.get? a = some o ∧ h.get? a = none
theorem made.live {h h' : Heap} {a : Addr} {o : Obj} (x : made h h' a o) : live h' a o := x.1
theorem fresh_ge {h : Heap} {a : Addr} (x : h.objs.size ≤ a) : h.get? a = none := by
  cases q : h.get? a with
  | none => rfl
  | some o => exact absurd (Heap.lt_size q) (Nat.not_lt.mpr x)
theorem Room.make {A : Around} {d : Nat} {C : Addr} {rest : List Value} {kw : List (Str × Value)} (r : Room A (d + 1)) : Room (A.under (.builtin "type.__call__" ⟨.ref C :: rest, kw⟩)) d := by
  refine ⟨r.handled, ?_, ?_⟩
  · have := r.depth
    have e : (A.under (.builtin "type.__call__" ⟨.ref C :: rest, kw⟩)).depth = A.depth + 1 := by rfl
    rw [e]; omega
  · have := r.units
    have e : (A.under (.builtin "type.__call__" ⟨.ref C :: rest, kw⟩)).units = A.units + 1 := by rfl
    rw [e]; omega
section
variable {prog : Program} {w : World} {A : Around} {s : Shared} {R : Result → Shared → Prop} {K : Frag} {C fI : Addr} {rest : List Value}
abbrev madeHeap (h : Heap) (C : Addr) : Heap := (h.push emptyDict).push (instObj C h.objs.size)
theorem make_S (X : K.In s.heap) (hm : makesIn K C = true) (hi : findIn K (.ref C) "__init__" = some (some (.ref fI))) (hf : isFn K (.ref fI) = true)
    (h : codeAny (model prog w) (A.under (.builtin "type.__call__" ⟨.ref C :: rest, []⟩)) (.call (.ref fI) ⟨.ref (s.heap.objs.size + 1) :: rest, []⟩) (InitBack (s.heap.objs.size + 1) R) { s with heap := madeHeap s.heap C }) :
    codeAny (model prog w) A (.call (.ref C) ⟨rest, []⟩) R s := by
  obtain ⟨hh, g, d, t, os⟩ := s
  exact make_core (makes_of X hm) (looks_findIn X hi) (fun self => bind_fn X self (beq_iff_eq.mp hf)) (.inl rfl) h
theorem mh_x (h : Heap) (C : Addr) : (madeHeap h C).get? (h.objs.size + 1) = some (instObj C h.objs.size) := by
  have := Heap.get?_push_size (h := h.push emptyDict) (o := instObj C h.objs.size) rfl
  rwa [Heap.size_push] at this
theorem mh_dx (h : Heap) (C : Addr) : (madeHeap h C).get? h.objs.size = some (dictOf [] 0) := Heap.get?_push_of_some _ (Heap.get?_push_size _ rfl)
theorem mh_stay (h : Heap) (C : Addr) : Stay h (hideAll (madeHeap h C) [h.objs.size + 1, h.objs.size]) := fun a o e => by
  have hlt := Heap.lt_size e
  refine hideAll_get _ (Heap.get?_push_of_some _ (Heap.get?_push_of_some _ e)) ?_
  intro hm
  rcases List.mem_cons.mp hm with q | hm
  · rw [q] at hlt; exact absurd hlt (Nat.not_lt.mpr (Nat.le_succ _))
  · rw [List.mem_singleton] at hm; rw [hm] at hlt; exact absurd hlt (Nat.lt_irrefl _)
end
noncomputable def Knows (m : Str → Option Value) : List (Str × Value) → Prop
  | [] => True
  | (n, v) :: r => m n = some v ∧ Knows m r
/-- the same frame, what is known of its map written out -/
def withKn (kn : List (Str × Value)) (m : Str → Option Value) : Str → Option Value := fun y => match kn.lookup y with | some v => some v | none => m y
theorem knows_lookup {m : Str → Option Value} : ∀ {kn : List (Str × Value)}, Knows m kn → ∀ {y : Str} {v : Value}, kn.lookup y = some v → m y = some v
  | [], _, _, _, e => by cases e
  | (n, u) :: r, ⟨a, b⟩, y, v, e => by
    rw [List.lookup_cons] at e
    split at e
    · rename_i q
      cases e
      rw [beq_iff_eq.mp q]; exact a
    · exact knows_lookup b e
theorem withKn_eq {m : Str → Option Value} {kn : List (Str × Value)} (k : Knows m kn) : withKn kn m = m := by
  funext y
  unfold withKn
  cases q : kn.lookup y with
  | none => rfl
  | some v => exact (knows_lookup k q).symm
theorem fr_kn {b h : Heap} {L : Addr} {m : Str → Option Value} (F : Fr b L h m) (kn : List (Str × Value)) (k : Knows m kn) : Fr b L h (withKn kn m) := by rw [withKn_eq k]; exact F
theorem knows_put {m : Str → Option Value} {x : Str} {v : Value} : ∀ {kn : List (Str × Value)}, Knows m kn → (kn.all fun p => decide (p.1 ≠ x)) = true → Knows (fun y => if y = x then some v else m y) kn
  | [], _, _ => trivial
  | (n, u) :: r, ⟨a, c⟩, e => by
    rw [List.all_cons, Bool.and_eq_true] at e
    exact ⟨(if_neg (of_decide_eq_true e.1 : n ≠ x)).trans a, knows_put c e.2⟩
/-- the frame at a turn's start -/
theorem fr_turn {b h : Heap} {L : Addr} {m : Str → Option Value} {x : Str} {v : Value} (F : Fr b L h (fun y => if y = x then some v else m y)) (kn : List (Str × Value)) (k : Knows m kn)
    (e : (kn.all fun p => decide (p.1 ≠ x)) = true) : Fr b L h (withKn ((x, v) :: kn) (fun y => if y = x then some v else m y)) :=
  fr_kn F _ ⟨if_pos rfl, knows_put k e⟩
theorem news_app {b h h' : Heap} {L : Addr} {m : Str → Option Value} {nz mk : List (Addr × Obj)} (F : Fr b L h m) (N : News b L h nz) (st : Stay h h') (hm : ∀ p ∈ mk, made h h' p.1 p.2) : News b L h' (nz ++ mk) := by
  intro p hp
  rcases List.mem_append.mp hp with hp | hp
  · exact ⟨st _ _ (N p hp).1, (N p hp).2⟩
  · refine ⟨(hm p hp).1, ?_, ?_⟩
    · intro e
      obtain ⟨o, _, _, ho, _⟩ := F.ns
      have := (hm p hp).2
      rw [e, ho] at this; cases this
    · cases q : b.get? p.1 with
      | none => rfl
      | some o => have := (hm p hp).2; rw [F.keep _ _ q] at this; cases this
/-- all that was made between two heaps, as a list -/
noncomputable def madeList (h h' : Heap) : List (Addr × Obj) := (List.range h'.objs.size).filterMap fun a => match h'.get? a, h.get? a with | some o, none => some (a, o) | _, _ => none
theorem mem_madeList {h h' : Heap} {a : Addr} {o : Obj} : (a, o) ∈ madeList h h' ↔ made h h' a o := by
  unfold madeList made
  rw [List.mem_filterMap]
  constructor
  · rintro ⟨c, _, e⟩
    split at e
    · rename_i o' e1 e2
      cases e
      exact ⟨e1, e2⟩
    · cases e
  · rintro ⟨e1, e2⟩
    refine ⟨a, List.mem_range.mpr (Heap.lt_size e1), ?_⟩
    rw [e1, e2]
theorem news_made {b h h' : Heap} {L : Addr} {m : Str → Option Value} {nz : List (Addr × Obj)} (F : Fr b L h m) (N : News b L h nz) (st : Stay h h') : News b L h' (nz ++ madeList h h') :=
  news_app F N st fun p hp => mem_madeList.mp hp
theorem news_mut {b h h' : Heap} {L d : Addr} {o o' : Obj} {nz nz' : List (Addr × Obj)} (N : News b L h nz) (hs : ∀ a o, a ≠ d → h.get? a = some o → h'.get? a = some o) (hd : (d, o) ∈ nz) (ho : h'.get? d = some o')
    (sub : ∀ p ∈ nz', p = (d, o') ∨ (p ∈ nz ∧ p.1 ≠ d)) : News b L h' nz' := by
  intro p hp
  rcases sub p hp with rfl | ⟨q, hne⟩
  · exact ⟨ho, (N _ hd).2⟩
  · exact ⟨hs _ _ hne (N _ q).1, (N _ q).2⟩
theorem fr_mut {b h h' : Heap} {L d : Addr} {m : Str → Option Value} {o : Obj} {nz : List (Addr × Obj)} (F : Fr b L h m) (N : News b L h nz) (hs : ∀ a o, a ≠ d → h.get? a = some o → h'.get? a = some o) (hd : (d, o) ∈ nz) : Fr b L h' m := by
  obtain ⟨oL, a1, a2, hoL, a3⟩ := F.ns
  have D := N _ hd
  refine ⟨⟨oL, a1, a2, hs _ _ (Ne.symm D.2.1) hoL, a3⟩, fun x y e => hs _ _ ?_ (F.keep x y e), F.above⟩
  rintro rfl
  have := D.2.2
  rw [e] at this; cases this
theorem CompsAt.snoc {M : Addr → Obj → Prop} {us : List Value} {cs : List Cm} {x : Addr} {c : Cm} (h : CompsAt M us cs) (y : CompAt M x c) : CompsAt M (us ++ [.ref x]) (cs ++ [c]) := by
  refine ⟨by simp [h.1], fun i d e => ?_⟩
  have hl := h.1
  by_cases hi : i < cs.length
  · rw [List.getElem?_append_left hi] at e
    obtain ⟨a, e1, z⟩ := h.2 i d e
    exact ⟨a, by rw [List.getElem?_append_left (by omega)]; exact e1, z⟩
  · rw [List.getElem?_append_right (by omega)] at e
    have h0 : i - cs.length = 0 := by
      have := (List.getElem?_eq_some_iff.mp e).1
      simp at this; omega
    rw [h0] at e
    simp at e
    subst e
    refine ⟨x, ?_, y⟩
    rw [List.getElem?_append_right (by omega)]
    have : i - us.length = 0 := by omega
    rw [this]; rfl
theorem sameBut_of {d : Addr} {h h' : Heap} (hs : Heap.SameBut d h h') : ∀ a o, a ≠ d → h.get? a = some o → h'.get? a = some o := fun a o n e => (hs.2 a n).trans e
theorem take_succ {α : Type} {l : List α} {i : Nat} (h : i < l.length) : l.take (i + 1) = l.take i ++ [l[i]] := by simp
def crop (f : Fm) (x y a d : Int) : Fm := { f with ht := min (d * (mxD f.cs * 2)) (f.ht - y * (mxD f.cs * 2)), wd := min (a * (mxA f.cs * 2)) (f.wd - x * (mxA f.cs * 2)) }
theorem news_cons {b h h' : Heap} {L : Addr} {m : Str → Option Value} {nz : List (Addr × Obj)} {a : Addr} {o : Obj} (F : Fr b L h m) (N : News b L h nz) (st : Stay h h') (hm : h.get? a = none) (ha : h'.get? a = some o) : News b L h' ((a, o) :: nz) := by
  have := news_app (mk := [(a, o)]) F N st (fun p hp => by rw [List.mem_singleton] at hp; subst hp; exact ⟨ha, hm⟩)
  intro p hp
  refine this p ?_
  rcases List.mem_cons.mp hp with rfl | hp
  · exact List.mem_append_right _ (.head _)
  · exact List.mem_append_left _ hp
theorem made_trans {a b c : Heap} (h : Stay b c) {x : Addr} {o : Obj} (y : made a b x o) : made a c x o := ⟨h _ _ y.1, y.2⟩
theorem made_later {a b c : Heap} (h : Stay a b) {x : Addr} {o : Obj} (y : made b c x o) : made a c x o := ⟨y.1, by
  cases q : a.get? x with
  | none => rfl
  | some v => have := y.2; rw [h _ _ q] at this; cases this⟩
end Mine
end
-- S1
section
open PySem PySem.W PySem.Calls PyProof.Rows
namespace Mine
theorem rs_S1 : True := by
  w_top off
  trivial
theorem kf_load : (fun (_ : OpenLaw) (_ : Params → Frag) => True) PySem.Challenge.rw_nt0546_01 hd.heap_39 := by
  k_fill; trivial

local macro_rules | `(tactic| k_inst) => `(tactic| first
  | (refine' inst_base ?F ?h1 ?h2; (case F => k_asm); (case h1 => assumption); (case h2 => assumption))
  | (refine' InstAt.of_news ?N ?h1 ?h2; (case N => k_asm); (case h1 => assumption); (case h2 => assumption)))
local macro_rules | `(tactic| walk_at "binaryOp FloorDiv int int") => `(tactic| ((with_reducible refine floordiv_int ?kb ?_ (Or.inl (PyProof.noPylong_small ?kp))); (case kb => omega); (case kp => omega)))
local macro_rules | `(tactic| ktr_rel) => `(tactic| first
  | (intro q hq; cases hq; done) | assumption | exact TopRead.nolimit (by assumption) | k_is | exact Room.lim (by assumption) | exact BindsTo.of_eq rfl | exact locs rfl | decide)
local macro_rules | `(tactic| ktr_unf) => `(tactic| repeat' (first
  | (k_unfold; (try dsimp only))
  | ((fail_if_success (with_reducible show wpAny _ _ (exec (Stmt.For _ _ _ _ _) _) _ _ _)); (fail_if_success (with_reducible show wpAny _ _ (eval (Expr.ListComp _ _ _ _) _) _ _ _)); first | walk1 | (dsimp only; walk1))
  | fail "no step"))

section
variable {prog : Program} {w : World} {A : Around} {s : Shared} {R : Result → Shared → Prop} {p : Program} {loose : List Str} {mg mb : Str → Option Value}
set_option maxHeartbeats 4000000 in
theorem parts_spec {a b : Int} {ta tb : Tok} (X : (hd.heap_39 w.params).In s.heap) (T : TopRead p loose mg mb s.heap) (rm : Room A 1) (hb : 0 < b) (hb2 : b < 1000)
    (h : ∀ h' tk t, Stay s.heap h' → R (.ok (.ret (.int (Int.fdiv (a + b - 1) b) t))) { s with heap := h', toks := tk }) :
    codeAny (model prog w) A (.call (.ref 53) ⟨[.int a ta, .int b tb], []⟩) R s := by
  obtain ⟨ah, ad, af, ag, au⟩ := A
  obtain rfl : ah = none := rm.handled
  refine' call_B (news := []) [(Str.ofString "many", .int a ta), (Str.ofString "size", .int b tb)] (Stay.refl _) (Nat.le_refl _) ?hn ?X ?lim ?ho ?hcd ?room ?bind ?loc ?_ ?c2 ?c3 ?c4 ?c5
  case X => exact X
  case ho => k_is
  case hcd => k_is
  case lim => exact T.nolimit
  case room => exact rm.lim
  case bind => exact BindsTo.of_eq rfl
  case loc => exact locs rfl
  case hn => intro q hq; cases hq
  case c2 => rfl
  case c3 => rfl
  case c4 => rfl
  case c5 => decide
  intro h₁ F N; (try dsimp only); k_fold
  ktr_unf
  exact h _ _ _ F.keep
set_option maxHeartbeats 4000000 in
theorem mostA_spec {x : Addr} {f : Fm} (X : (hd.heap_39 w.params).In s.heap) (T : TopRead p loose mg mb s.heap) (rm : Room A 1) (hf : FrameAt (live s.heap) x f) (ok : f.Ok)
    (h : ∀ h' tk t, Stay s.heap h' → R (.ok (.ret (.int (mxA f.cs) t))) { s with heap := h', toks := tk }) :
    codeAny (model prog w) A (.call (.ref 93) ⟨[.ref x], []⟩) R s := by
  obtain ⟨dx, h1, t1, u1, h2, t2, u2, h3, t3, u3, h4, t4, u4, h5, t5, h6, t6, u6, l, vs, e, hx, hdx, hl, hcs⟩ := hf
  obtain ⟨ah, ad, af, ag, au⟩ := A
  obtain rfl : ah = none := rm.handled
  refine' call_B (news := []) [(Str.ofString "self", .ref x)] (Stay.refl _) (Nat.le_refl _) ?hn ?X ?lim ?ho ?hcd ?room ?bind ?loc ?_ ?c2 ?c3 ?c4 ?c5
  case X => exact X
  case ho => k_is
  case hcd => k_is
  case lim => exact T.nolimit
  case room => exact rm.lim
  case bind => exact BindsTo.of_eq rfl
  case loc => exact locs rfl
  case hn => intro q hq; cases hq
  case c2 => rfl
  case c3 => rfl
  case c4 => rfl
  case c5 => decide
  intro h₁ F N; (try dsimp only); k_fold
  ktr_unf
  k_fold
  refine wpAny_ListComp_walk (fun _ => true) (fun v y => ∃ t, y = Value.int (gOf s.heap (·.ac) v) t) (by decide) (by decide) rfl (by decide) rfl ?_
  k_fold
  ktr_unf
  have hlen := hcs.1
  have hl3 := ok.c1
  have hl9 : h₁.IsList l vs.toArray := ⟨_, F.keep _ _ hl, rfl, _, rfl⟩
  refine' comp_src (vs := vs) ?cF ?cN ?cA ?cl ?cz _ ?_ ?_
  case cF => exact F
  case cN => exact N
  case cA => rfl
  case cl => exact hl9
  case cz => rw [sizeLine_eq]; omega
  · intro C v s₃ m₃ E' hv hn hm hk
    obtain ⟨a, c, rfl, hc, y⟩ := hcs.of_mem hv
    rw [gOf_is y]
    obtain ⟨da, i1, j1, k1, i2, j2, k2, i3, j3, k3, i4, j4, k4, ha, hda⟩ := y
    refine attr_block hn hm rfl rfl ?_
    have X3 : (hd.heap_39 w.params).In s₃.heap := (X.keeps F.keep).keeps hk
    refine' get_here X3 ⟨hk _ _ (F.keep _ _ ha), rfl, rfl, hk _ _ (F.keep _ _ hda)⟩ ?g1 ?g2 ?g3 ?g4 ?g5 ?g6 ?_
    case g1 => k_is
    case g2 => k_is
    case g3 => k_is
    case g4 => k_is
    case g5 => k_get
    case g6 => rfl
    exact ⟨⟨_, rfl⟩, _, _, rfl, fun _ _ e => e⟩
  · intro D h' tk' ys e' F' N' hI hs
    rw [gOf_map hcs] at hI
    ktr_unf
    refine kso_max F' N' (kso_isList N' (.head _) rfl) hI (by have := ok.c0; simp only [List.length_map]; omega) rfl ?_
    intro h2' M t tk2 F2 N2 hM hmx
    have eM := mxA_is (fun c hc => by rcases (ok.cs c hc).a with q | q <;> omega) hM hmx
    subst eM
    ktr_unf
    exact h _ _ _ F2.keep
set_option maxHeartbeats 4000000 in
theorem mostD_spec {x : Addr} {f : Fm} (X : (hd.heap_39 w.params).In s.heap) (T : TopRead p loose mg mb s.heap) (rm : Room A 1) (hf : FrameAt (live s.heap) x f) (ok : f.Ok)
    (h : ∀ h' tk t, Stay s.heap h' → R (.ok (.ret (.int (mxD f.cs) t))) { s with heap := h', toks := tk }) :
    codeAny (model prog w) A (.call (.ref 98) ⟨[.ref x], []⟩) R s := by
  obtain ⟨dx, h1, t1, u1, h2, t2, u2, h3, t3, u3, h4, t4, u4, h5, t5, h6, t6, u6, l, vs, e, hx, hdx, hl, hcs⟩ := hf
  obtain ⟨ah, ad, af, ag, au⟩ := A
  obtain rfl : ah = none := rm.handled
  refine' call_B (news := []) [(Str.ofString "self", .ref x)] (Stay.refl _) (Nat.le_refl _) ?hn ?X ?lim ?ho ?hcd ?room ?bind ?loc ?_ ?c2 ?c3 ?c4 ?c5
  case X => exact X
  case ho => k_is
  case hcd => k_is
  case lim => exact T.nolimit
  case room => exact rm.lim
  case bind => exact BindsTo.of_eq rfl
  case loc => exact locs rfl
  case hn => intro q hq; cases hq
  case c2 => rfl
  case c3 => rfl
  case c4 => rfl
  case c5 => decide
  intro h₁ F N; (try dsimp only); k_fold
  ktr_unf
  k_fold
  refine wpAny_ListComp_walk (fun _ => true) (fun v y => ∃ t, y = Value.int (gOf s.heap (·.dn) v) t) (by decide) (by decide) rfl (by decide) rfl ?_
  k_fold
  ktr_unf
  have hlen := hcs.1
  have hl3 := ok.c1
  have hl9 : h₁.IsList l vs.toArray := ⟨_, F.keep _ _ hl, rfl, _, rfl⟩
  refine' comp_src (vs := vs) ?cF ?cN ?cA ?cl ?cz _ ?_ ?_
  case cF => exact F
  case cN => exact N
  case cA => rfl
  case cl => exact hl9
  case cz => rw [sizeLine_eq]; omega
  · intro C v s₃ m₃ E' hv hn hm hk
    obtain ⟨a, c, rfl, hc, y⟩ := hcs.of_mem hv
    rw [gOf_is y]
    obtain ⟨da, i1, j1, k1, i2, j2, k2, i3, j3, k3, i4, j4, k4, ha, hda⟩ := y
    refine attr_block hn hm rfl rfl ?_
    have X3 : (hd.heap_39 w.params).In s₃.heap := (X.keeps F.keep).keeps hk
    refine' get_here X3 ⟨hk _ _ (F.keep _ _ ha), rfl, rfl, hk _ _ (F.keep _ _ hda)⟩ ?g1 ?g2 ?g3 ?g4 ?g5 ?g6 ?_
    case g1 => k_is
    case g2 => k_is
    case g3 => k_is
    case g4 => k_is
    case g5 => k_get
    case g6 => rfl
    exact ⟨⟨_, rfl⟩, _, _, rfl, fun _ _ e => e⟩
  · intro D h' tk' ys e' F' N' hI hs
    rw [gOf_map hcs] at hI
    ktr_unf
    refine kso_max F' N' (kso_isList N' (.head _) rfl) hI (by have := ok.c0; simp only [List.length_map]; omega) rfl ?_
    intro h2' M t tk2 F2 N2 hM hmx
    have eM := mxD_is (fun c hc => by rcases (ok.cs c hc).d with q | q <;> omega) hM hmx
    subst eM
    ktr_unf
    exact h _ _ _ F2.keep
end
end Mine
end
-- S2
section
open PySem PySem.W PySem.Calls PyProof.Rows
namespace Mine
theorem rs_S2 : True := by
  w_top off
  trivial

local macro_rules | `(tactic| k_inst) => `(tactic| first
  | (refine' inst_base ?F ?h1 ?h2; (case F => k_asm); (case h1 => assumption); (case h2 => assumption))
  | (refine' InstAt.of_news ?N ?h1 ?h2; (case N => k_asm); (case h1 => assumption); (case h2 => assumption)))
local macro_rules | `(tactic| walk_at "binaryOp FloorDiv int int") => `(tactic| ((with_reducible refine floordiv_int ?kb ?_ (Or.inl (PyProof.noPylong_small ?kp))); (case kb => omega); (case kp => omega)))
local macro_rules | `(tactic| walk_at "binaryOp Mult int int") => `(tactic| ((with_reducible refine mul_int ?_ (mulok_r ?k1 ?k2)); (case k1 => omega); (case k2 => omega)))
local macro_rules | `(tactic| ktr_unf) => `(tactic| repeat' (first
  | (k_unfold; (try dsimp only))
  | (with_reducible refine wpAny_execs_cons ?_)
  | ((fail_if_success (with_reducible show wpAny _ _ (exec (Stmt.For _ _ _ _ _) _) _ _ _)); (fail_if_success (with_reducible show wpAny _ _ (eval (Expr.ListComp _ _ _ _) _) _ _ _)); (fail_if_success (with_reducible show wpAny _ _ (pyIter _) _ _ _)); (fail_if_success (with_reducible show wpAny _ _ (call (Value.type "range") _) _ _ _)); (fail_if_success (with_reducible show wpAny _ _ (call (Value.builtin "list.append") _) _ _ _)); (fail_if_success (with_reducible show wpAny _ _ (setItem _ _ _) _ _ _)); (fail_if_success (with_reducible show wpAny _ _ (call (Value.type "list") _) _ _ _)); first | walk1 | (dsimp only; walk1))
  | fail "no step"))
local macro_rules | `(tactic| walk_at "call ref") => `(tactic| ((rename Fr _ _ _ _ => kF9); (rename News _ _ _ _ => kN9); (refine call_of_code ?_); (refine' parts_spec (Frag.In.keeps (by assumption) (Fr.keep kF9)) (TopRead.keeps (by assumption) (Fr.keep kF9)) (Room.deeper (Room.le (by assumption) (by decide)) _) ?hb ?hb2 ?_); (case hb => omega); (case hb2 => omega); intro h' tk' t' st'; (have kF' := fr_stay kF9 st'); (have kN' := news_stay kN9 st'); (clear kF9 kN9); (try dsimp only)))
local macro_rules | `(tactic| walk_at "call ref") => `(tactic| ((rename Fr _ _ _ _ => kF9); (rename News _ _ _ _ => kN9); (refine call_of_code ?_); (refine' mostA_spec (Frag.In.keeps (by assumption) (Fr.keep kF9)) (TopRead.keeps (by assumption) (Fr.keep kF9)) (Room.deeper (Room.le (by assumption) (by decide)) _) ?hf ?ok ?_); (case hf => exact FrameAt.mono (by assumption) (fun _ _ e => Fr.keep kF9 _ _ e)); (case ok => assumption); intro h' tk' t' st'; (have kF' := fr_stay kF9 st'); (have kN' := news_stay kN9 st'); (clear kF9 kN9); (try dsimp only)))
local macro_rules | `(tactic| walk_at "call ref") => `(tactic| ((rename Fr _ _ _ _ => kF9); (rename News _ _ _ _ => kN9); (refine call_of_code ?_); (refine' mostD_spec (Frag.In.keeps (by assumption) (Fr.keep kF9)) (TopRead.keeps (by assumption) (Fr.keep kF9)) (Room.deeper (Room.le (by assumption) (by decide)) _) ?hf ?ok ?_); (case hf => exact FrameAt.mono (by assumption) (fun _ _ e => Fr.keep kF9 _ _ e)); (case ok => assumption); intro h' tk' t' st'; (have kF' := fr_stay kF9 st'); (have kN' := news_stay kN9 st'); (clear kF9 kN9); (try dsimp only)))
section
variable {prog : Program} {w : World} {A : Around} {s : Shared} {R : Result → Shared → Prop} {p : Program} {loose : List Str} {mg mb : Str → Option Value}
set_option maxHeartbeats 1000000 in
theorem mcA_spec {x : Addr} {f : Fm} (X : (hd.heap_39 w.params).In s.heap) (T : TopRead p loose mg mb s.heap) (rm : Room A 3) (hf : FrameAt (live s.heap) x f) (ok : f.Ok)
    (h : ∀ h' tk t, Stay s.heap h' → R (.ok (.ret (.int (mcA f) t))) { s with heap := h', toks := tk }) :
    codeAny (model prog w) A (.call (.ref 105) ⟨[.ref x], []⟩) R s := by
  obtain ⟨dx, h1, t1, u1, h2, t2, u2, h3, t3, u3, h4, t4, u4, h5, t5, h6, t6, u6, l, vs, e, hx, hdx, hl, hcs⟩ := id hf
  have q1 : 1 ≤ mxA f.cs := by rcases ok.mA with q | q <;> omega
  have q2 : mxA f.cs ≤ 2 := by rcases ok.mA with q | q <;> omega
  obtain ⟨ah, ad, af, ag, au⟩ := A
  obtain rfl : ah = none := rm.handled
  refine' call_B (news := []) [(Str.ofString "self", .ref x)] (Stay.refl _) (Nat.le_refl _) ?hn ?X ?lim ?ho ?hcd ?room ?bind ?loc ?_ ?c2 ?c3 ?c4 ?c5
  case X => exact X
  case ho => k_is
  case hcd => k_is
  case lim => exact (T).nolimit
  case room => exact rm.lim
  case bind => exact BindsTo.of_eq rfl
  case loc => exact locs rfl
  case hn => intro q hq; cases hq
  case c2 => rfl
  case c3 => rfl
  case c4 => rfl
  case c5 => decide
  intro h₁ F N; (try dsimp only); k_fold
  ktr_unf
  exact h _ _ _ (Fr.keep (by assumption))
set_option maxHeartbeats 1000000 in
theorem mcD_spec {x : Addr} {f : Fm} (X : (hd.heap_39 w.params).In s.heap) (T : TopRead p loose mg mb s.heap) (rm : Room A 3) (hf : FrameAt (live s.heap) x f) (ok : f.Ok)
    (h : ∀ h' tk t, Stay s.heap h' → R (.ok (.ret (.int (mcD f) t))) { s with heap := h', toks := tk }) :
    codeAny (model prog w) A (.call (.ref 112) ⟨[.ref x], []⟩) R s := by
  obtain ⟨dx, h1, t1, u1, h2, t2, u2, h3, t3, u3, h4, t4, u4, h5, t5, h6, t6, u6, l, vs, e, hx, hdx, hl, hcs⟩ := id hf
  have q1 : 1 ≤ mxD f.cs := by rcases ok.mD with q | q <;> omega
  have q2 : mxD f.cs ≤ 2 := by rcases ok.mD with q | q <;> omega
  obtain ⟨ah, ad, af, ag, au⟩ := A
  obtain rfl : ah = none := rm.handled
  refine' call_B (news := []) [(Str.ofString "self", .ref x)] (Stay.refl _) (Nat.le_refl _) ?hn ?X ?lim ?ho ?hcd ?room ?bind ?loc ?_ ?c2 ?c3 ?c4 ?c5
  case X => exact X
  case ho => k_is
  case hcd => k_is
  case lim => exact (T).nolimit
  case room => exact rm.lim
  case bind => exact BindsTo.of_eq rfl
  case loc => exact locs rfl
  case hn => intro q hq; cases hq
  case c2 => rfl
  case c3 => rfl
  case c4 => rfl
  case c5 => decide
  intro h₁ F N; (try dsimp only); k_fold
  ktr_unf
  exact h _ _ _ (Fr.keep (by assumption))
end
end Mine
end
-- S3
section
open PySem PySem.W PySem.Calls PyProof.Rows
namespace Mine
theorem rs_S3 : True := by
  w_top off
  trivial

local macro_rules | `(tactic| k_inst) => `(tactic| first
  | (refine' inst_base ?F ?h1 ?h2; (case F => k_asm); (case h1 => assumption); (case h2 => assumption))
  | (refine' InstAt.of_news ?N ?h1 ?h2; (case N => k_asm); (case h1 => assumption); (case h2 => assumption)))
local macro_rules | `(tactic| walk_at "binaryOp FloorDiv int int") => `(tactic| ((with_reducible refine floordiv_int ?kb ?_ (Or.inl (PyProof.noPylong_small ?kp))); (case kb => omega); (case kp => omega)))
local macro_rules | `(tactic| walk_at "binaryOp Mult int int") => `(tactic| ((with_reducible refine mul_int ?_ (mulok_r ?k1 ?k2)); (case k1 => omega); (case k2 => omega)))
local macro_rules | `(tactic| ktr_unf) => `(tactic| repeat' (first
  | (k_unfold; (try dsimp only))
  | (with_reducible refine wpAny_execs_cons ?_)
  | ((fail_if_success (with_reducible show wpAny _ _ (exec (Stmt.For _ _ _ _ _) _) _ _ _)); (fail_if_success (with_reducible show wpAny _ _ (eval (Expr.ListComp _ _ _ _) _) _ _ _)); (fail_if_success (with_reducible show wpAny _ _ (pyIter _) _ _ _)); (fail_if_success (with_reducible show wpAny _ _ (call (Value.type "range") _) _ _ _)); (fail_if_success (with_reducible show wpAny _ _ (call (Value.builtin "list.append") _) _ _ _)); (fail_if_success (with_reducible show wpAny _ _ (setItem _ _ _) _ _ _)); (fail_if_success (with_reducible show wpAny _ _ (call (Value.type "list") _) _ _ _)); first | walk1 | (dsimp only; walk1))
  | fail "no step"))
local macro_rules | `(tactic| walk_at "call ref") => `(tactic| ((rename Fr _ _ _ _ => kF9); (rename News _ _ _ _ => kN9); (refine call_of_code ?_); (refine' parts_spec (Frag.In.keeps (by assumption) (Fr.keep kF9)) (TopRead.keeps (by assumption) (Fr.keep kF9)) (Room.deeper (Room.le (by assumption) (by decide)) _) ?hb ?hb2 ?_); (case hb => omega); (case hb2 => omega); intro h' tk' t' st'; (have kF' := fr_stay kF9 st'); (have kN' := news_stay kN9 st'); (clear kF9 kN9); (try dsimp only)))
local macro_rules | `(tactic| walk_at "call ref") => `(tactic| ((rename Fr _ _ _ _ => kF9); (rename News _ _ _ _ => kN9); (refine call_of_code ?_); (refine' mostA_spec (Frag.In.keeps (by assumption) (Fr.keep kF9)) (TopRead.keeps (by assumption) (Fr.keep kF9)) (Room.deeper (Room.le (by assumption) (by decide)) _) ?hf ?ok ?_); (case hf => exact FrameAt.mono (by assumption) (fun _ _ e => Fr.keep kF9 _ _ e)); (case ok => assumption); intro h' tk' t' st'; (have kF' := fr_stay kF9 st'); (have kN' := news_stay kN9 st'); (clear kF9 kN9); (try dsimp only)))
local macro_rules | `(tactic| walk_at "call ref") => `(tactic| ((rename Fr _ _ _ _ => kF9); (rename News _ _ _ _ => kN9); (refine call_of_code ?_); (refine' mostD_spec (Frag.In.keeps (by assumption) (Fr.keep kF9)) (TopRead.keeps (by assumption) (Fr.keep kF9)) (Room.deeper (Room.le (by assumption) (by decide)) _) ?hf ?ok ?_); (case hf => exact FrameAt.mono (by assumption) (fun _ _ e => Fr.keep kF9 _ _ e)); (case ok => assumption); intro h' tk' t' st'; (have kF' := fr_stay kF9 st'); (have kN' := news_stay kN9 st'); (clear kF9 kN9); (try dsimp only)))
local macro_rules | `(tactic| walk_at "call ref") => `(tactic| ((rename Fr _ _ _ _ => kF9); (rename News _ _ _ _ => kN9); (refine call_of_code ?_); (refine' mcA_spec (Frag.In.keeps (by assumption) (Fr.keep kF9)) (TopRead.keeps (by assumption) (Fr.keep kF9)) (Room.deeper (Room.le (by assumption) (by decide)) _) ?hf ?ok ?_); (case hf => exact FrameAt.mono (by assumption) (fun _ _ e => Fr.keep kF9 _ _ e)); (case ok => assumption); intro h' tk' t' st'; (have kF' := fr_stay kF9 st'); (have kN' := news_stay kN9 st'); (clear kF9 kN9); (try dsimp only)))
local macro_rules | `(tactic| walk_at "call ref") => `(tactic| ((rename Fr _ _ _ _ => kF9); (rename News _ _ _ _ => kN9); (refine call_of_code ?_); (refine' mcD_spec (Frag.In.keeps (by assumption) (Fr.keep kF9)) (TopRead.keeps (by assumption) (Fr.keep kF9)) (Room.deeper (Room.le (by assumption) (by decide)) _) ?hf ?ok ?_); (case hf => exact FrameAt.mono (by assumption) (fun _ _ e => Fr.keep kF9 _ _ e)); (case ok => assumption); intro h' tk' t' st'; (have kF' := fr_stay kF9 st'); (have kN' := news_stay kN9 st'); (clear kF9 kN9); (try dsimp only)))
local macro_rules | `(tactic| walk_at "subscriptTail Attribute Name Name ref int") => `(tactic| ((with_reducible show wpAny _ _ (subscriptTail _ _ (Value.ref _) (Value.int _ _)) _ _ _); (refine' my_item ?kl ?kh ?kx ?_ ?ks); (case kl => first | exact Fr.keep (by assumption) _ _ (by assumption) | exact (News.get (by assumption) (by k_mem))); (case kx => assumption); (case kh => omega); (case ks => with_unfolding_all rfl)))
local macro_rules | `(tactic| walk_at "subscriptTail Subscript Attribute Name Name ref int") => `(tactic| ((with_reducible show wpAny _ _ (subscriptTail _ _ (Value.ref _) (Value.int _ _)) _ _ _); (refine' my_item ?kl ?kh ?kx ?_ ?ks); (case kl => first | exact Fr.keep (by assumption) _ _ (by assumption) | exact (News.get (by assumption) (by k_mem))); (case kx => assumption); (case kh => omega); (case ks => with_unfolding_all rfl)))
local macro_rules | `(tactic| walk_at "subscriptTail Subscript Subscript Name Name ref int") => `(tactic| ((with_reducible show wpAny _ _ (subscriptTail _ _ (Value.ref _) (Value.int _ _)) _ _ _); (refine' my_item ?kl ?kh ?kx ?_ ?ks); (case kl => first | exact Fr.keep (by assumption) _ _ (by assumption) | exact (News.get (by assumption) (by k_mem))); (case kx => assumption); (case kh => omega); (case ks => with_unfolding_all rfl)))
local macro_rules | `(tactic| walk_at "subscriptTail") => `(tactic| ((with_reducible show wpAny _ _ (subscriptTail _ _ (Value.ref _) (Value.int _ _)) _ _ _); (refine' my_item ?kl ?kh ?kx ?_ ?ks); (case kl => first | exact Fr.keep (by assumption) _ _ (by assumption) | exact (News.get (by assumption) (by k_mem))); (case kx => assumption); (case kh => omega); (case ks => with_unfolding_all rfl)))
section
variable {prog : Program} {w : World} {A : Around} {s : Shared} {R : Result → Shared → Prop} {p : Program} {loose : List Str} {mg mb : Str → Option Value}
set_option maxHeartbeats 1000000 in
theorem unit_spec {x : Addr} {f : Fm} (X : (hd.heap_39 w.params).In s.heap) (T : TopRead p loose mg mb s.heap) (rm : Room A 3) (hf : FrameAt (live s.heap) x f) (ok : f.Ok)
    (h : ∀ h' tk a t t', Stay s.heap h' → s.heap.get? a = none → h'.get? a = some (tupOf [.int (mxA f.cs * 2) t, .int (mxD f.cs * 2) t']) → R (.ok (.ret (.ref a))) { s with heap := h', toks := tk }) :
    codeAny (model prog w) A (.call (.ref 180) ⟨[.ref x], []⟩) R s := by
  obtain ⟨dx, h1, t1, u1, h2, t2, u2, h3, t3, u3, h4, t4, u4, h5, t5, h6, t6, u6, l, vs, e, hx, hdx, hl, hcs⟩ := id hf
  have q1 : 1 ≤ mxA f.cs := by rcases ok.mA with q | q <;> omega
  have q2 : mxA f.cs ≤ 2 := by rcases ok.mA with q | q <;> omega
  have q3 : 1 ≤ mxD f.cs := by rcases ok.mD with q | q <;> omega
  have q4 : mxD f.cs ≤ 2 := by rcases ok.mD with q | q <;> omega
  obtain ⟨ah, ad, af, ag, au⟩ := A
  obtain rfl : ah = none := rm.handled
  refine' call_B (news := []) [(Str.ofString "frame", .ref x)] (Stay.refl _) (Nat.le_refl _) ?hn ?X ?lim ?ho ?hcd ?room ?bind ?loc ?_ ?c2 ?c3 ?c4 ?c5
  case X => exact X
  case ho => k_is
  case hcd => k_is
  case lim => exact (T).nolimit
  case room => exact rm.lim
  case bind => exact BindsTo.of_eq rfl
  case loc => exact locs rfl
  case hn => intro q hq; cases hq
  case c2 => rfl
  case c3 => rfl
  case c4 => rfl
  case c5 => decide
  intro h₁ F N; (try dsimp only); k_fold
  ktr_unf
  rename Fr _ _ _ _ => F9
  rename News _ _ _ _ => N9
  exact h _ _ _ _ _ F9.keep (N9 _ (.head _)).2.2 (N9 _ (.head _)).1
set_option maxHeartbeats 1000000 in
theorem padded_spec {x : Addr} {f : Fm} {i : Nat} {tp : Tok} {c : Cm} (X : (hd.heap_39 w.params).In s.heap) (T : TopRead p loose mg mb s.heap) (rm : Room A 4) (hf : FrameAt (live s.heap) x f) (ok : f.Ok)
    (hc : f.cs[i]? = some c)
    (h : ∀ h' tk a t t', Stay s.heap h' → s.heap.get? a = none → h'.get? a = some (tupOf [.int (mcA f * c.ac) t, .int (mcD f * c.dn) t']) → R (.ok (.ret (.ref a))) { s with heap := h', toks := tk }) :
    codeAny (model prog w) A (.call (.ref 133) ⟨[.ref x, .int (i : Int) tp], []⟩) R s := by
  obtain ⟨dx, h1, t1, u1, h2, t2, u2, h3, t3, u3, h4, t4, u4, h5, t5, h6, t6, u6, l, vs, e, hx, hdx, hl, hcs⟩ := id hf
  obtain ⟨ca, hv, hca⟩ := hcs.2 i c hc
  obtain ⟨da, i1, j1, k1, i2, j2, k2, i3, j3, k3, i4, j4, k4, ha, hda⟩ := id hca
  have hi3 : i < 3 := by have := (List.getElem?_eq_some_iff.mp hc).1; have := ok.c1; omega
  have okc := ok.cs c (List.mem_of_getElem? hc)
  have q1 : 1 ≤ c.ac := by rcases okc.a with q | q <;> omega
  have q2 : c.ac ≤ 2 := by rcases okc.a with q | q <;> omega
  have q3 : 1 ≤ c.dn := by rcases okc.d with q | q <;> omega
  have q4 : c.dn ≤ 2 := by rcases okc.d with q | q <;> omega
  obtain ⟨ah, ad, af, ag, au⟩ := A
  obtain rfl : ah = none := rm.handled
  refine' call_B (news := []) [(Str.ofString "self", .ref x), (Str.ofString "place", .int (i : Int) tp)] (Stay.refl _) (Nat.le_refl _) ?hn ?X ?lim ?ho ?hcd ?room ?bind ?loc ?_ ?c2 ?c3 ?c4 ?c5
  case X => exact X
  case ho => k_is
  case hcd => k_is
  case lim => exact (T).nolimit
  case room => exact rm.lim
  case bind => exact BindsTo.of_eq rfl
  case loc => exact locs rfl
  case hn => intro q hq; cases hq
  case c2 => rfl
  case c3 => rfl
  case c4 => rfl
  case c5 => decide
  intro h₁ F N; (try dsimp only); k_fold
  ktr_unf
  rename Fr _ _ _ _ => F9
  rename News _ _ _ _ => N9
  exact h _ _ _ _ _ F9.keep (N9 _ (.head _)).2.2 (N9 _ (.head _)).1
end
end Mine
end
-- S4
section
open PySem PySem.W PySem.Calls PyProof.Rows
namespace Mine
theorem rs_S4 : True := by
  w_top off
  trivial

local macro_rules | `(tactic| k_inst) => `(tactic| first
  | (refine' inst_base ?F ?h1 ?h2; (case F => k_asm); (case h1 => assumption); (case h2 => assumption))
  | (refine' InstAt.of_news ?N ?h1 ?h2; (case N => k_asm); (case h1 => assumption); (case h2 => assumption)))
local macro_rules | `(tactic| walk_at "binaryOp FloorDiv int int") => `(tactic| ((with_reducible refine floordiv_int ?kb ?_ (Or.inl (PyProof.noPylong_small ?kp))); (case kb => omega); (case kp => omega)))
local macro_rules | `(tactic| walk_at "binaryOp Mult int int") => `(tactic| ((with_reducible refine mul_int ?_ (mulok_r ?k1 ?k2)); (case k1 => omega); (case k2 => omega)))
local macro_rules | `(tactic| ktr_unf) => `(tactic| repeat' (first
  | (k_unfold; (try dsimp only))
  | (with_reducible refine wpAny_execs_cons ?_)
  | ((fail_if_success (with_reducible show wpAny _ _ (exec (Stmt.For _ _ _ _ _) _) _ _ _)); (fail_if_success (with_reducible show wpAny _ _ (eval (Expr.ListComp _ _ _ _) _) _ _ _)); (fail_if_success (with_reducible show wpAny _ _ (pyIter _) _ _ _)); (fail_if_success (with_reducible show wpAny _ _ (call (Value.type "range") _) _ _ _)); (fail_if_success (with_reducible show wpAny _ _ (call (Value.builtin "list.append") _) _ _ _)); (fail_if_success (with_reducible show wpAny _ _ (setItem _ _ _) _ _ _)); (fail_if_success (with_reducible show wpAny _ _ (call (Value.type "list") _) _ _ _)); first | walk1 | (dsimp only; walk1))
  | fail "no step"))
section
variable {prog : Program} {w : World} {A : Around} {s : Shared} {R : Result → Shared → Prop} {p : Program} {loose : List Str} {mg mb : Str → Option Value}
set_option maxHeartbeats 1000000 in
theorem comp_init {x dx : Addr} {c : Cm} {t1 t2 t3 t4 : Tok} (hx : s.heap.get? x = some (instObj 70 dx)) (hdx : s.heap.get? dx = some (dictOf [] 0)) (hlt0 : dx < x)
    (X : (hd.heap_39 w.params).In (hideAll s.heap [x, dx])) (T : TopRead p loose mg mb (hideAll s.heap [x, dx])) (rm : Room A 1)
    (h : ∀ h' tk, Stay (hideAll s.heap [x, dx]) h' → CompAt (fun a o => h'.get? a = some o ∧ (a = x ∨ a = dx)) x c → R (.ok (.ret .none)) { s with heap := h', toks := tk }) :
    codeAny (model prog w) A (.call (.ref 67) ⟨[.ref x, .int c.id t1, .int c.ac t2, .int c.dn t3, .int c.qu t4], []⟩) R s := by
  have hlt := ltN hlt0
  obtain ⟨ah, ad, af, ag, au⟩ := A
  obtain rfl : ah = none := rm.handled
  refine' call_B (news := [(x, instObj 70 dx), (dx, dictOf [] 0)]) [(Str.ofString "self", .ref x), (Str.ofString "ident", .int c.id t1), (Str.ofString "across", .int c.ac t2), (Str.ofString "down", .int c.dn t3), (Str.ofString "quant", .int c.qu t4)] (fun _ _ e => of_hideAll _ e) (Nat.le_of_eq (hideAll_size _ _)) ?hn ?X ?lim ?ho ?hcd ?room ?bind ?loc ?_ ?c2 ?c3 ?c4 ?c5
  case X => exact X
  case ho => k_is
  case hcd => k_is
  case lim => exact (T).nolimit
  case room => exact rm.lim
  case bind => exact BindsTo.of_eq rfl
  case loc => exact locs rfl
  case hn => 
    intro q hq
    rcases List.mem_cons.mp hq with rfl | hq
    · exact ⟨hx, hideAll_none _ (.head _)⟩
    · rw [List.mem_singleton] at hq; subst hq; exact ⟨hdx, hideAll_none _ (.tail _ (.head _))⟩
  case c2 => rfl
  case c3 => rfl
  case c4 => rfl
  case c5 => decide
  intro h₁ F N; (try dsimp only); k_fold
  ktr_unf
  rename Fr _ _ _ _ => F9
  rename News _ _ _ _ => N9
  exact h _ _ F9.keep ⟨dx, _, _, _, _, _, _, _, _, _, _, _, _, ⟨(N9 _ (.head _)).1, .inl rfl⟩, ⟨(N9 _ (.tail _ (.head _))).1, .inr rfl⟩⟩
theorem made_of {h h' : Heap} {C : Addr} {a : Addr} {o : Obj} (y : h'.get? a = some o ∧ (a = h.objs.size + 1 ∨ a = h.objs.size)) : made h h' a o := by
  refine ⟨y.1, fresh_ge ?_⟩
  rcases y.2 with q | q
  · rw [q]; exact Nat.le_succ _
  · rw [q]; exact Nat.le_refl _
set_option maxHeartbeats 1000000 in
theorem comp_new {c : Cm} {t1 t2 t3 t4 : Tok} (X : (hd.heap_39 w.params).In s.heap) (T : TopRead p loose mg mb s.heap) (rm : Room A 2)
    (h : ∀ h' tk x, Stay s.heap h' → CompAt (made s.heap h') x c → R (.ok (.ret (.ref x))) { s with heap := h', toks := tk }) :
    codeAny (model prog w) A (.call (.ref 70) ⟨[.int c.id t1, .int c.ac t2, .int c.dn t3, .int c.qu t4], []⟩) R s := by
  refine' make_S X ?h1 ?h2 ?h3 ?_
  case h1 => k_is
  case h2 => k_is
  case h3 => k_is
  refine comp_init (mh_x _ _) (mh_dx _ _) (Nat.lt_succ_self _) (X.keeps (mh_stay _ _)) (T.keeps (mh_stay _ _)) rm.make fun h' tk st hc => ?_
  exact ⟨rfl, h h' tk _ ((mh_stay _ _).trans st) (hc.mono fun a o y => made_of (C := 70) y)⟩
set_option maxHeartbeats 1000000 in
theorem frame_init {x dx l : Addr} {kd : Str} {pr ht wd : Int} {t1 t2 t3 t4 t6 : Tok} (hx : s.heap.get? x = some (instObj 136 dx)) (hdx : s.heap.get? dx = some (dictOf [] 0)) (hlt0 : dx < x)
    (X : (hd.heap_39 w.params).In (hideAll s.heap [x, dx])) (T : TopRead p loose mg mb (hideAll s.heap [x, dx])) (rm : Room A 1)
    (h : ∀ h' tk, Stay (hideAll s.heap [x, dx]) h' → (∃ h1 u1 h2 u2 h3 u3 h4 u4 h5 u5 h6 u6, h'.get? x = some (instObj 136 dx) ∧ h'.get? dx = some (dictOf [⟨h1, .str (Str.ofString "kind") u1, .str kd t1⟩, ⟨h2, .str (Str.ofString "precision") u2, .int pr t2⟩,
      ⟨h3, .str (Str.ofString "height") u3, .int ht t3⟩, ⟨h4, .str (Str.ofString "width") u4, .int wd t4⟩,
      ⟨h5, .str (Str.ofString "components") u5, .ref l⟩, ⟨h6, .str (Str.ofString "n") u6, .int 2 t6⟩] 6)) → R (.ok (.ret .none)) { s with heap := h', toks := tk }) :
    codeAny (model prog w) A (.call (.ref 88) ⟨[.ref x, .str kd t1, .int pr t2, .int ht t3, .int wd t4, .ref l, .int 2 t6], []⟩) R s := by
  have hlt := ltN hlt0
  obtain ⟨ah, ad, af, ag, au⟩ := A
  obtain rfl : ah = none := rm.handled
  refine' call_B (news := [(x, instObj 136 dx), (dx, dictOf [] 0)]) [(Str.ofString "self", .ref x), (Str.ofString "kind", .str kd t1), (Str.ofString "precision", .int pr t2), (Str.ofString "height", .int ht t3), (Str.ofString "width", .int wd t4), (Str.ofString "components", .ref l), (Str.ofString "n", .int 2 t6)] (fun _ _ e => of_hideAll _ e) (Nat.le_of_eq (hideAll_size _ _)) ?hn ?X ?lim ?ho ?hcd ?room ?bind ?loc ?_ ?c2 ?c3 ?c4 ?c5
  case X => exact X
  case ho => k_is
  case hcd => k_is
  case lim => exact (T).nolimit
  case room => exact rm.lim
  case bind => exact BindsTo.of_eq rfl
  case loc => exact locs rfl
  case hn => 
    intro q hq
    rcases List.mem_cons.mp hq with rfl | hq
    · exact ⟨hx, hideAll_none _ (.head _)⟩
    · rw [List.mem_singleton] at hq; subst hq; exact ⟨hdx, hideAll_none _ (.tail _ (.head _))⟩
  case c2 => rfl
  case c3 => rfl
  case c4 => rfl
  case c5 => decide
  intro h₁ F N; (try dsimp only); k_fold
  ktr_unf
  rename Fr _ _ _ _ => F9
  rename News _ _ _ _ => N9
  exact h _ _ F9.keep ⟨_, _, _, _, _, _, _, _, _, _, _, _, (N9 _ (.head _)).1, (N9 _ (.tail _ (.head _))).1⟩
set_option maxHeartbeats 1000000 in
theorem frame_new {l : Addr} {f : Fm} {vs : List Value} {e : Nat} {t1 t2 t3 t4 t6 : Tok} {M : Addr → Obj → Prop} (X : (hd.heap_39 w.params).In s.heap) (T : TopRead p loose mg mb s.heap) (rm : Room A 2)
    (hM : ∀ a o, M a o → s.heap.get? a = some o) (hl : M l (PySem.W.listOf vs.toArray e)) (hcs : CompsAt M vs f.cs)
    (h : ∀ h' tk x, Stay s.heap h' → FrameAt (fun a o => made s.heap h' a o ∨ M a o) x f → R (.ok (.ret (.ref x))) { s with heap := h', toks := tk }) :
    codeAny (model prog w) A (.call (.ref 136) ⟨[.str f.kind t1, .int f.prec t2, .int f.ht t3, .int f.wd t4, .ref l, .int 2 t6], []⟩) R s := by
  refine' make_S X ?h1 ?h2 ?h3 ?_
  case h1 => k_is
  case h2 => k_is
  case h3 => k_is
  refine frame_init (mh_x _ _) (mh_dx _ _) (Nat.lt_succ_self _) (X.keeps (mh_stay _ _)) (T.keeps (mh_stay _ _)) rm.make fun h' tk st hc => ?_
  obtain ⟨h1, u1, h2, u2, h3, u3, h4, u4, h5, u5, h6, u6, a, b⟩ := hc
  refine ⟨rfl, h h' tk _ ((mh_stay _ _).trans st) ⟨_, h1, u1, _, h2, u2, _, h3, u3, _, h4, u4, _, h5, u5, h6, u6, _, l, vs, e, .inl (made_of (C := 136) ⟨a, .inl rfl⟩), .inl (made_of (C := 136) ⟨b, .inr rfl⟩), .inr hl, hcs.mono fun a o y => .inr y⟩⟩
end
end Mine
end
-- S5
section
open PySem PySem.W PySem.Calls PyProof.Rows
namespace Mine
theorem rs_S5 : True := by
  w_top off
  trivial

local macro_rules | `(tactic| k_inst) => `(tactic| first
  | (refine' inst_base ?F ?h1 ?h2; (case F => k_asm); (case h1 => assumption); (case h2 => assumption))
  | (refine' InstAt.of_news ?N ?h1 ?h2; (case N => k_asm); (case h1 => assumption); (case h2 => assumption)))
local macro_rules | `(tactic| walk_at "binaryOp FloorDiv int int") => `(tactic| ((with_reducible refine floordiv_int ?kb ?_ (Or.inl (PyProof.noPylong_small ?kp))); (case kb => omega); (case kp => omega)))
local macro_rules | `(tactic| walk_at "binaryOp Mult int int") => `(tactic| ((with_reducible refine mul_int ?_ (mulok_r ?k1 ?k2)); (case k1 => omega); (case k2 => omega)))
local macro_rules | `(tactic| ktr_unf) => `(tactic| repeat' (first
  | (k_unfold; (try dsimp only))
  | (with_reducible refine wpAny_execs_cons ?_)
  | ((fail_if_success (with_reducible show wpAny _ _ (exec (Stmt.For _ _ _ _ _) _) _ _ _)); (fail_if_success (with_reducible show wpAny _ _ (eval (Expr.ListComp _ _ _ _) _) _ _ _)); (fail_if_success (with_reducible show wpAny _ _ (pyIter _) _ _ _)); (fail_if_success (with_reducible show wpAny _ _ (call (Value.type "range") _) _ _ _)); (fail_if_success (with_reducible show wpAny _ _ (call (Value.builtin "list.append") _) _ _ _)); (fail_if_success (with_reducible show wpAny _ _ (setItem _ _ _) _ _ _)); (fail_if_success (with_reducible show wpAny _ _ (call (Value.type "list") _) _ _ _)); first | walk1 | (dsimp only; walk1))
  | fail "no step"))
local macro_rules | `(tactic| walk_at "subscriptTail Attribute Name Name ref int") => `(tactic| ((with_reducible show wpAny _ _ (subscriptTail _ _ (Value.ref _) (Value.int _ _)) _ _ _); (refine' my_item ?kl ?kh ?kx ?_ ?ks); (case kl => first | exact Fr.keep (by assumption) _ _ (by assumption) | exact (News.get (by assumption) (by k_mem))); (case kx => assumption); (case kh => omega); (case ks => with_unfolding_all rfl)))
local macro_rules | `(tactic| walk_at "subscriptTail Subscript Attribute Name Name ref int") => `(tactic| ((with_reducible show wpAny _ _ (subscriptTail _ _ (Value.ref _) (Value.int _ _)) _ _ _); (refine' my_item ?kl ?kh ?kx ?_ ?ks); (case kl => first | exact Fr.keep (by assumption) _ _ (by assumption) | exact (News.get (by assumption) (by k_mem))); (case kx => assumption); (case kh => omega); (case ks => with_unfolding_all rfl)))
local macro_rules | `(tactic| walk_at "subscriptTail Subscript Subscript Name Name ref int") => `(tactic| ((with_reducible show wpAny _ _ (subscriptTail _ _ (Value.ref _) (Value.int _ _)) _ _ _); (refine' my_item ?kl ?kh ?kx ?_ ?ks); (case kl => first | exact Fr.keep (by assumption) _ _ (by assumption) | exact (News.get (by assumption) (by k_mem))); (case kx => assumption); (case kh => omega); (case ks => with_unfolding_all rfl)))
local macro_rules | `(tactic| walk_at "subscriptTail") => `(tactic| ((with_reducible show wpAny _ _ (subscriptTail _ _ (Value.ref _) (Value.int _ _)) _ _ _); (refine' my_item ?kl ?kh ?kx ?_ ?ks); (case kl => first | exact Fr.keep (by assumption) _ _ (by assumption) | exact (News.get (by assumption) (by k_mem))); (case kx => assumption); (case kh => omega); (case ks => with_unfolding_all rfl)))
local macro_rules | `(tactic| walk_at "call ref") => `(tactic| ((rename Fr _ _ _ _ => kF9); (rename News _ _ _ _ => kN9); (refine call_of_code ?_); (refine' comp_new (c := ⟨_, _, _, _⟩) (Frag.In.keeps (by assumption) (Fr.keep kF9)) (TopRead.keeps (by assumption) (Fr.keep kF9)) (Room.deeper (Room.le (by assumption) (by decide)) _) ?_); intro h' tk' x' st' hc'; (have kF' := fr_stay kF9 st'); (have kN' := news_made kF9 kN9 st'); (clear kF9 kN9); (try dsimp only)))
section
variable {prog : Program} {w : World} {A : Around} {s : Shared} {R : Result → Shared → Prop} {p : Program} {loose : List Str} {mg mb : Str → Option Value}
set_option maxHeartbeats 1000000 in
theorem copied_spec {x : Addr} {f : Fm} (X : (hd.heap_39 w.params).In s.heap) (T : TopRead p loose mg mb s.heap) (rm : Room A 4) (hf : FrameAt (live s.heap) x f) (ok : f.Ok)
    (h : ∀ h' tk l vs e, Stay s.heap h' → made s.heap h' l (PySem.W.listOf vs.toArray e) → CompsAt (made s.heap h') vs f.cs → R (.ok (.ret (.ref l))) { s with heap := h', toks := tk }) :
    codeAny (model prog w) A (.call (.ref 187) ⟨[.ref x], []⟩) R s := by
  obtain ⟨dx, h1, t1, u1, h2, t2, u2, h3, t3, u3, h4, t4, u4, h5, t5, h6, t6, u6, l, vs, e, hx, hdx, hl, hcs⟩ := id hf
  obtain ⟨ah, ad, af, ag, au⟩ := A
  obtain rfl : ah = none := rm.handled
  refine' call_B (news := []) [(Str.ofString "frame", .ref x)] (Stay.refl _) (Nat.le_refl _) ?hn ?X ?lim ?ho ?hcd ?room ?bind ?loc ?_ ?c2 ?c3 ?c4 ?c5
  case X => exact X
  case ho => k_is
  case hcd => k_is
  case lim => exact (T).nolimit
  case room => exact rm.lim
  case bind => exact BindsTo.of_eq rfl
  case loc => exact locs rfl
  case hn => intro q hq; cases hq
  case c2 => rfl
  case c3 => rfl
  case c4 => rfl
  case c5 => decide
  intro h₁ F N; (try dsimp only); k_fold
  ktr_unf
  rename_i fl h2a l1 h2 F2 N2
  k_fold
  refine For_invV s.heap rfl rfl ?_ (by intro _; rfl) (by passes_own)
  ktr_unf
  refine' loop_list (vs := vs) (fun i m nz => ∃ us e' rest, nz = (fl, PySem.W.listOf us.toArray e') :: rest ∧ (∀ q ∈ rest, q.1 ≠ fl) ∧ CompsAt (fun a o => (a, o) ∈ rest) us (f.cs.take i) ∧ Knows m [(Str.ofString "found", .ref fl)]) rfl hl ?F ?N ?h0 ?turn ?done
  case F => exact F2
  case N => exact N2
  case h0 => exact ⟨[], 0, [], rfl, (fun q hq => nomatch hq), ⟨rfl, fun i c e => by simp at e⟩, rfl, trivial⟩
  case turn =>
    intro i v m₁ nz₁ h3 tk I io hv hJ ha F₁ N₁
    obtain ⟨us, e', rest, rfl, hap, hcs', hk⟩ := hJ
    have F3 := fr_turn F₁ _ hk rfl
    clear F₁
    have hi : i < f.cs.length := by have := (List.getElem?_eq_some_iff.mp hv).1; have := hcs.1; omega
    obtain ⟨ca, hv2, hca⟩ := hcs.2 i f.cs[i] (by simp [hi])
    rw [hv] at hv2
    cases hv2
    have htk := take_succ hi
    generalize f.cs[i] = c at hca htk
    obtain ⟨da, i1, j1, k1, i2, j2, k2, i3, j3, k3, i4, j4, k4, hax, hda⟩ := id hca
    have hfl3 := (N₁ (fl, PySem.W.listOf us.toArray e') (.tail _ (.head _))).1
    have hI3 := (N₁ (I, io) (.head _)).1
    (try k_fold)
    ktr_unf
    rename_i h4 tk4 x4 st4 hc4 F4 N4
    have hfl := N4 (fl, PySem.W.listOf us.toArray e') (.tail _ (.head _))
    have hul := hcs'.1
    have hc3 := ok.c1
    refine append_at hfl.1 (fun h5 hs5 ho5 => ?_) (by rw [sizeLine_eq]; simp only [List.size_toArray]; rw [hul, List.length_take]; omega)
    have hs6 := sameBut_of hs5
    have F5 := fr_mut F4 N4 hs6 (.tail _ (.head _))
    have hmd : ∀ q ∈ madeList h3 h4, q.1 ≠ fl ∧ q.1 ≠ I := by
      intro q hq
      have hm := (mem_madeList.mp hq).2
      refine ⟨?_, ?_⟩ <;> (intro hz; rw [hz] at hm)
      · rw [hfl3] at hm; cases hm
      · rw [hI3] at hm; cases hm
    have N5 : News s.heap s.heap.objs.size h5 ((I, io) :: (fl, PySem.W.listOf (us.toArray.push (.ref x4)) (e' + 1)) :: (rest ++ madeList h3 h4)) := by
      refine news_mut N4 hs6 (.tail _ (.head _)) ho5 fun q hq => ?_
      rcases List.mem_cons.mp hq with rfl | hq
      · exact .inr ⟨.head _, Ne.symm (ha _ (.head _))⟩
      rcases List.mem_cons.mp hq with rfl | hq
      · exact .inl rfl
      refine .inr ⟨.tail _ (.tail _ hq), ?_⟩
      rcases List.mem_append.mp hq with hq | hq
      · exact hap q hq
      · exact (hmd q hq).1
    ktr_unf
    refine ⟨h5, _, _, _, rfl, F5, N5, ?_, us ++ [.ref x4], e' + 1, rest ++ madeList h3 h4, by rw [List.push_toArray], ?_, ?_, rfl, trivial⟩
    · intro q hq
      rcases List.mem_cons.mp hq with rfl | hq
      · exact ha (fl, PySem.W.listOf us.toArray e') (.head _)
      rcases List.mem_append.mp hq with hq | hq
      · exact ha _ (.tail _ hq)
      · exact (hmd q hq).2
    · intro q hq
      rcases List.mem_append.mp hq with hq | hq
      · exact hap q hq
      · exact (hmd q hq).1
    · rw [htk]
      exact (hcs'.mono fun a o y => List.mem_append_left _ y).snoc (hc4.mono fun a o y => List.mem_append_right _ (mem_madeList.mpr y))
  case done =>
    rintro m₁ nz₁ h3 tk ⟨us, e', rest, rfl, hap, hcs', hk⟩ F₁ N₁
    have F3 := fr_kn F₁ _ hk
    clear F₁
    rw [hcs.1, List.take_length] at hcs'
    ktr_unf
    exact h _ _ _ us e' F3.keep ⟨(N₁ _ (.head _)).1, (N₁ _ (.head _)).2.2⟩ (hcs'.mono fun a o y => ⟨(N₁ _ (.tail _ y)).1, (N₁ _ (.tail _ y)).2.2⟩)
end
end Mine
end
-- S6
section
open PySem PySem.W PySem.Calls PyProof.Rows
namespace Mine
theorem rs_S6 : True := by
  w_top off
  trivial

local macro_rules | `(tactic| k_inst) => `(tactic| first
  | (refine' inst_base ?F ?h1 ?h2; (case F => k_asm); (case h1 => assumption); (case h2 => assumption))
  | (refine' InstAt.of_news ?N ?h1 ?h2; (case N => k_asm); (case h1 => assumption); (case h2 => assumption)))
local macro_rules | `(tactic| walk_at "binaryOp FloorDiv int int") => `(tactic| ((with_reducible refine floordiv_int ?kb ?_ (Or.inl (PyProof.noPylong_small ?kp))); (case kb => omega); (case kp => omega)))
local macro_rules | `(tactic| walk_at "binaryOp Mult int int") => `(tactic| ((with_reducible refine mul_int ?_ (mulok_r ?k1 ?k2)); (case k1 => omega); (case k2 => omega)))
local macro_rules | `(tactic| ktr_unf) => `(tactic| repeat' (first
  | (k_unfold; (try dsimp only))
  | (with_reducible refine wpAny_execs_cons ?_)
  | ((fail_if_success (with_reducible show wpAny _ _ (exec (Stmt.For _ _ _ _ _) _) _ _ _)); (fail_if_success (with_reducible show wpAny _ _ (eval (Expr.ListComp _ _ _ _) _) _ _ _)); (fail_if_success (with_reducible show wpAny _ _ (pyIter _) _ _ _)); (fail_if_success (with_reducible show wpAny _ _ (call (Value.type "range") _) _ _ _)); (fail_if_success (with_reducible show wpAny _ _ (call (Value.builtin "list.append") _) _ _ _)); (fail_if_success (with_reducible show wpAny _ _ (setItem _ _ _) _ _ _)); (fail_if_success (with_reducible show wpAny _ _ (call (Value.type "list") _) _ _ _)); first | walk1 | (dsimp only; walk1))
  | fail "no step"))
local macro_rules | `(tactic| walk_at "subscriptTail Attribute Name Name ref int") => `(tactic| ((with_reducible show wpAny _ _ (subscriptTail _ _ (Value.ref _) (Value.int _ _)) _ _ _); (refine' my_item ?kl ?kh ?kx ?_ ?ks); (case kl => first | exact Fr.keep (by assumption) _ _ (by assumption) | exact (News.get (by assumption) (by k_mem))); (case kx => assumption); (case kh => omega); (case ks => with_unfolding_all rfl)))
local macro_rules | `(tactic| walk_at "subscriptTail Subscript Attribute Name Name ref int") => `(tactic| ((with_reducible show wpAny _ _ (subscriptTail _ _ (Value.ref _) (Value.int _ _)) _ _ _); (refine' my_item ?kl ?kh ?kx ?_ ?ks); (case kl => first | exact Fr.keep (by assumption) _ _ (by assumption) | exact (News.get (by assumption) (by k_mem))); (case kx => assumption); (case kh => omega); (case ks => with_unfolding_all rfl)))
local macro_rules | `(tactic| walk_at "subscriptTail Subscript Subscript Name Name ref int") => `(tactic| ((with_reducible show wpAny _ _ (subscriptTail _ _ (Value.ref _) (Value.int _ _)) _ _ _); (refine' my_item ?kl ?kh ?kx ?_ ?ks); (case kl => first | exact Fr.keep (by assumption) _ _ (by assumption) | exact (News.get (by assumption) (by k_mem))); (case kx => assumption); (case kh => omega); (case ks => with_unfolding_all rfl)))
local macro_rules | `(tactic| walk_at "subscriptTail") => `(tactic| ((with_reducible show wpAny _ _ (subscriptTail _ _ (Value.ref _) (Value.int _ _)) _ _ _); (refine' my_item ?kl ?kh ?kx ?_ ?ks); (case kl => first | exact Fr.keep (by assumption) _ _ (by assumption) | exact (News.get (by assumption) (by k_mem))); (case kx => assumption); (case kh => omega); (case ks => with_unfolding_all rfl)))
local macro_rules | `(tactic| walk_at "call ref") => `(tactic| ((rename Fr _ _ _ _ => kF9); (rename News _ _ _ _ => kN9); (refine call_of_code ?_); (refine' mcA_spec (Frag.In.keeps (by assumption) (Fr.keep kF9)) (TopRead.keeps (by assumption) (Fr.keep kF9)) (Room.deeper (Room.le (by assumption) (by decide)) _) ?hf ?ok ?_); (case hf => exact FrameAt.mono (by assumption) (fun _ _ e => Fr.keep kF9 _ _ e)); (case ok => assumption); intro h' tk' t' st'; (have kF' := fr_stay kF9 st'); (have kN' := news_stay kN9 st'); (clear kF9 kN9); (try dsimp only)))
local macro_rules | `(tactic| walk_at "call ref") => `(tactic| ((rename Fr _ _ _ _ => kF9); (rename News _ _ _ _ => kN9); (refine call_of_code ?_); (refine' mcD_spec (Frag.In.keeps (by assumption) (Fr.keep kF9)) (TopRead.keeps (by assumption) (Fr.keep kF9)) (Room.deeper (Room.le (by assumption) (by decide)) _) ?hf ?ok ?_); (case hf => exact FrameAt.mono (by assumption) (fun _ _ e => Fr.keep kF9 _ _ e)); (case ok => assumption); intro h' tk' t' st'; (have kF' := fr_stay kF9 st'); (have kN' := news_stay kN9 st'); (clear kF9 kN9); (try dsimp only)))
local macro_rules | `(tactic| walk_at "call ref") => `(tactic| ((rename Fr _ _ _ _ => kF9); (rename News _ _ _ _ => kN9); (refine call_of_code ?_); (refine' unit_spec (Frag.In.keeps (by assumption) (Fr.keep kF9)) (TopRead.keeps (by assumption) (Fr.keep kF9)) (Room.deeper (Room.le (by assumption) (by decide)) _) ?hf ?ok ?_); (case hf => exact FrameAt.mono (by assumption) (fun _ _ e => Fr.keep kF9 _ _ e)); (case ok => assumption); intro h' tk' a' t' t2' st' fr' up'; (have kF' := fr_stay kF9 st'); (have kN' := news_cons kF9 kN9 st' fr' up'); (try clear kF9); (try clear kN9); (try dsimp only)))
local macro_rules | `(tactic| walk_at "call ref") => `(tactic| ((rename Fr _ _ _ _ => kF9); (rename News _ _ _ _ => kN9); (refine call_of_code ?_); (refine' copied_spec (Frag.In.keeps (by assumption) (Fr.keep kF9)) (TopRead.keeps (by assumption) (Fr.keep kF9)) (Room.deeper (Room.le (by assumption) (by decide)) _) ?hf ?ok ?_); (case hf => exact FrameAt.mono (by assumption) (fun _ _ e => Fr.keep kF9 _ _ e)); (case ok => assumption); intro h' tk' l' vs' e' st' md' cs'; (have kF' := fr_stay kF9 st'); (have kN' := news_made kF9 kN9 st'); (have sb' := Fr.keep kF9); (try clear kF9); (try clear kN9); (try dsimp only)))
section
variable {prog : Program} {w : World} {A : Around} {s : Shared} {R : Result → Shared → Prop} {p : Program} {loose : List Str} {mg mb : Str → Option Value}
set_option maxHeartbeats 1000000 in
theorem cropf_spec {x : Addr} {f : Fm} {cx cy ca cd : Int} {tx ty ta td : Tok} (X : (hd.heap_39 w.params).In s.heap) (T : TopRead p loose mg mb s.heap) (rm : Room A 5) (hf : FrameAt (live s.heap) x f) (ok : f.Ok)
    (x0 : 0 ≤ cx) (x1 : cx < mcA f) (y0 : 0 ≤ cy) (y1 : cy < mcD f) (a0 : 1 ≤ ca) (a1 : ca < 1000) (d0 : 1 ≤ cd) (d1 : cd < 1000)
    (h : ∀ h' tk lx, Stay s.heap h' → FrameAt (made s.heap h') lx (crop f cx cy ca cd) → R (.ok (.ret (.ref lx))) { s with heap := h', toks := tk }) :
    codeAny (model prog w) A (.call (.ref 194) ⟨[.ref x, .int cx tx, .int cy ty, .int ca ta, .int cd td], []⟩) R s := by
  obtain ⟨dx, h1, t1, u1, h2, t2, u2, h3, t3, u3, h4, t4, u4, h5, t5, h6, t6, u6, l, vs, e, hx, hdx, hl, hcs⟩ := id hf
  have q1 : 1 ≤ mxA f.cs := by rcases ok.mA with q | q <;> omega
  have q2 : mxA f.cs ≤ 2 := by rcases ok.mA with q | q <;> omega
  have q3 : 1 ≤ mxD f.cs := by rcases ok.mD with q | q <;> omega
  have q4 : mxD f.cs ≤ 2 := by rcases ok.mD with q | q <;> omega
  obtain ⟨ah, ad, af, ag, au⟩ := A
  obtain rfl : ah = none := rm.handled
  refine' call_B (news := []) [(Str.ofString "frame", .ref x), (Str.ofString "x", .int cx tx), (Str.ofString "y", .int cy ty), (Str.ofString "across", .int ca ta), (Str.ofString "down", .int cd td)] (Stay.refl _) (Nat.le_refl _) ?hn ?X ?lim ?ho ?hcd ?room ?bind ?loc ?_ ?c2 ?c3 ?c4 ?c5
  case X => exact X
  case ho => k_is
  case hcd => k_is
  case lim => exact (T).nolimit
  case room => exact rm.lim
  case bind => exact BindsTo.of_eq rfl
  case loc => exact locs rfl
  case hn => intro q hq; cases hq
  case c2 => rfl
  case c3 => rfl
  case c4 => rfl
  case c5 => decide
  intro h₁ F N; (try dsimp only); k_fold
  ktr_unf
  rename_i h3 h4 tk4 l4 vs4 e4 st4 md4 cs4 F4 N4 F3k
  have e1 : ∀ a b : Int, (if b < a then b else a) = min a b := fun a b => by split <;> omega
  rw [e1, e1]
  refine call_of_code ?_
  refine frame_new (f := crop f cx cy ca cd) (M := made h3 h4) (X.keeps F4.keep) (T.keeps F4.keep) ((rm.le (by decide)).deeper _) (fun a o y => y.1) md4 cs4 ?_
  intro h5 tk5 x5 st5 hf5
  have F5 := fr_stay F4 st5
  ktr_unf
  refine h _ _ _ F5.keep (hf5.mono fun a o y => ?_)
  rcases y with y | y
  · exact made_later F4.keep y
  · exact made_trans st5 (made_later (F3k) y)
end
end Mine
end
-- GridDef
section
open PySem PySem.W PySem.Calls PyProof.Rows
namespace Mine
/-- the addresses of a grid's parts -/
structure Sk where
  x : Addr
  dx : Addr
  l : Addr
  P : Nat → Addr
  Rw : Nat → Nat → Addr
def PW (f : Fm) (i : Nat) : Nat := match f.cs[i]? with | some c => (mcA f * c.ac).toNat | none => 0
def PH (f : Fm) (i : Nat) : Nat := match f.cs[i]? with | some c => (mcD f * c.dn).toNat | none => 0
def refs (n : Nat) (g : Nat → Addr) : List Value := (List.range n).map fun i => Value.ref (g i)
theorem refs_get {n i : Nat} {g : Nat → Addr} (h : i < n) : (refs n g)[i]? = some (Value.ref (g i)) := by simp [refs, h]
theorem refs_len (n : Nat) (g : Nat → Addr) : (refs n g).length = n := by simp [refs]
theorem PW_le {f : Fm} (o : f.Ok) (i : Nat) : PW f i ≤ 14 := by
  unfold PW
  split
  · rename_i c hc
    have := o.mcA
    rcases (o.cs c (List.mem_of_getElem? hc)).a with q | q <;> rw [q] <;> omega
  · omega
theorem PH_le {f : Fm} (o : f.Ok) (i : Nat) : PH f i ≤ 10 := by
  unfold PH
  split
  · rename_i c hc
    have := o.mcD
    rcases (o.cs c (List.mem_of_getElem? hc)).d with q | q <;> rw [q] <;> omega
  · omega
def Sk.isRow (sk : Sk) (f : Fm) (a : Addr) : Prop := ∃ i j, i < f.cs.length ∧ j < PH f i ∧ a = sk.Rw i j

def SkelAt (M : Addr → Obj → Prop) (f : Fm) (sk : Sk) : Prop :=
  (∃ h1 t1 u1 h2 t2, M sk.x (instObj 169 sk.dx) ∧ M sk.dx (dictOf [⟨h1, .str (Str.ofString "many") t1, .int 4 u1⟩, ⟨h2, .str (Str.ofString "planes") t2, .ref sk.l⟩] 2)) ∧
  (∃ e, M sk.l (PySem.W.listOf (refs f.cs.length sk.P).toArray e)) ∧
  ∀ i, i < f.cs.length → ∃ e, M (sk.P i) (PySem.W.listOf (refs (PH f i) (sk.Rw i)).toArray e)
theorem SkelAt.mono {M M' : Addr → Obj → Prop} {f : Fm} {sk : Sk} (h : SkelAt M f sk) (k : ∀ a o, M a o → M' a o) : SkelAt M' f sk := by
  obtain ⟨⟨h1, t1, u1, h2, t2, a, b⟩, ⟨e, c⟩, d⟩ := h
  exact ⟨⟨h1, t1, u1, h2, t2, k _ _ a, k _ _ b⟩, ⟨e, k _ _ c⟩, fun i hi => let ⟨e', q⟩ := d i hi; ⟨e', k _ _ q⟩⟩

def IntsObj (M : Addr → Obj → Prop) (b : Addr) (ns : List Int) : Prop := ∃ (us : List Value) (e : Nat), M b (PySem.W.listOf us.toArray e) ∧ IntsAre us ns ∧ us.length ≤ 1000
def CellAt (M : Addr → Obj → Prop) (v : Value) : Option (List Int) → Prop
  | none => v = .none
  | some ns => ∃ b, v = .ref b ∧ IntsObj M b ns
theorem CellAt.mono {M M' : Addr → Obj → Prop} {v : Value} {c : Option (List Int)} (h : CellAt M v c) (k : ∀ a o, M a o → M' a o) : CellAt M' v c := by
  cases c with
  | none => exact h
  | some ns => obtain ⟨b, e, us, ep, x, y⟩ := h; exact ⟨b, e, us, ep, k _ _ x, y⟩
def RowAt (M Mc : Addr → Obj → Prop) (r : Addr) (n : Nat) (c : Nat → Option (List Int)) : Prop :=
  ∃ (vs : List Value) (e : Nat), M r (PySem.W.listOf vs.toArray e) ∧ vs.length = n ∧ ∀ k, k < n → ∃ v : Value, vs[k]? = some v ∧ CellAt Mc v (c k)
theorem RowAt.mono {M M' Mc Mc' : Addr → Obj → Prop} {r : Addr} {n : Nat} {c : Nat → Option (List Int)} (h : RowAt M Mc r n c) (k : ∀ o, M r o → M' r o) (kc : ∀ a o, Mc a o → Mc' a o) : RowAt M' Mc' r n c := by
  obtain ⟨vs, e, x, y, z⟩ := h
  exact ⟨vs, e, k _ x, y, fun i hi => let ⟨v, p, q⟩ := z i hi; ⟨v, p, q.mono kc⟩⟩
/-- a grid whose every block is drawn -/
def GridAt (M : Addr → Obj → Prop) (x : Addr) (f : Fm) (cell : Nat → Nat → Nat → List Int) : Prop :=
  ∃ sk : Sk, sk.x = x ∧ SkelAt M f sk ∧ ∀ i j, i < f.cs.length → j < PH f i → RowAt M M (sk.Rw i j) (PW f i) fun k => some (cell i j k)
theorem GridAt.mono {M M' : Addr → Obj → Prop} {x : Addr} {f : Fm} {cell : Nat → Nat → Nat → List Int} (h : GridAt M x f cell) (k : ∀ a o, M a o → M' a o) : GridAt M' x f cell := by
  obtain ⟨sk, e, a, b⟩ := h
  exact ⟨sk, e, a.mono k, fun i j hi hj => (b i j hi hj).mono (fun o => k _ o) k⟩
/-- a grid that is being filled: its rows stand apart from all else -/
def notRow (M : Addr → Obj → Prop) (f : Fm) (sk : Sk) : Addr → Obj → Prop := fun a o => M a o ∧ ¬ sk.isRow f a
structure Fill (M : Addr → Obj → Prop) (f : Fm) (sk : Sk) (cell : Nat → Nat → Nat → Option (List Int)) : Prop where
  skel : SkelAt (notRow M f sk) f sk
  inj : ∀ i j i' j', i < f.cs.length → j < PH f i → i' < f.cs.length → j' < PH f i' → sk.Rw i j = sk.Rw i' j' → i = i' ∧ j = j'
  rows : ∀ i j, i < f.cs.length → j < PH f i → RowAt M (notRow M f sk) (sk.Rw i j) (PW f i) fun k => cell i j k
theorem Fill.mono {M M' : Addr → Obj → Prop} {f : Fm} {sk : Sk} {cell : Nat → Nat → Nat → Option (List Int)} (h : Fill M f sk cell) (k : ∀ a o, M a o → M' a o) : Fill M' f sk cell :=
  ⟨h.skel.mono fun a o y => ⟨k _ _ y.1, y.2⟩, h.inj, fun i j hi hj => (h.rows i j hi hj).mono (fun o => k _ o) fun a o y => ⟨k _ _ y.1, y.2⟩⟩
theorem Fill.grid {M : Addr → Obj → Prop} {f : Fm} {sk : Sk} {cell : Nat → Nat → Nat → Option (List Int)} {g : Nat → Nat → Nat → List Int} (h : Fill M f sk cell)
    (hc : ∀ i j k, i < f.cs.length → j < PH f i → k < PW f i → cell i j k = some (g i j k)) : GridAt M sk.x f g := by
  refine ⟨sk, rfl, h.skel.mono fun a o y => y.1, fun i j hi hj => ?_⟩
  obtain ⟨vs, e, x, y, z⟩ := h.rows i j hi hj
  refine ⟨vs, e, x, y, fun k hk => ?_⟩
  obtain ⟨v, p, q⟩ := z k hk
  dsimp only at q
  rw [hc i j k hi hj hk] at q
  exact ⟨v, p, q.mono fun a o y => y.1⟩
def updC (cell : Nat → Nat → Nat → Option (List Int)) (i j k : Nat) (c : Option (List Int)) : Nat → Nat → Nat → Option (List Int) := fun i' j' k' => if i' = i ∧ j' = j ∧ k' = k then c else cell i' j' k'
/-- one block put -/
theorem Fill.put {M M' : Addr → Obj → Prop} {f : Fm} {sk : Sk} {cell : Nat → Nat → Nat → Option (List Int)} {i j k : Nat} {vs : List Value} {e e' : Nat} {b : Addr} {ns : List Int} (h : Fill M f sk cell)
    (fn : ∀ a o o', M a o → M a o' → o = o') (hi : i < f.cs.length) (hj : j < PH f i) (hk : k < PW f i) (hr : M (sk.Rw i j) (PySem.W.listOf vs.toArray e))
    (keep : ∀ a o, a ≠ sk.Rw i j → M a o → M' a o) (hr' : M' (sk.Rw i j) (PySem.W.listOf (vs.set k (.ref b)).toArray e')) (hb : IntsObj (notRow M' f sk) b ns) :
    Fill M' f sk (updC cell i j k (some ns)) := by
  have kn : ∀ a o, notRow M f sk a o → notRow M' f sk a o := fun a o y => ⟨keep a o (fun q => y.2 ⟨i, j, hi, hj, q⟩) y.1, y.2⟩
  refine ⟨h.skel.mono kn, h.inj, fun i' j' hi' hj' => ?_⟩
  by_cases hq : sk.Rw i' j' = sk.Rw i j
  · obtain ⟨rfl, rfl⟩ := h.inj i' j' i j hi' hj' hi hj hq
    obtain ⟨vs', e2, x, y, z⟩ := h.rows i' j' hi hj
    have ev := fn _ _ _ hr x
    simp only [PySem.W.listOf, Obj.mk.injEq, Data.seq.injEq, true_and, and_true] at ev
    have ev2 : vs = vs' := by simpa using ev.1
    subst ev2
    refine ⟨_, e', hr', by simpa using y, fun k' hk' => ?_⟩
    by_cases hkk : k' = k
    · subst hkk
      refine ⟨.ref b, by simp [y, hk'], ?_⟩
      have e9 : updC cell i' j' k' (some ns) i' j' k' = some ns := if_pos ⟨rfl, rfl, rfl⟩
      show CellAt _ _ (updC cell i' j' k' (some ns) i' j' k')
      rw [e9]
      exact ⟨b, rfl, hb⟩
    · obtain ⟨v, p, q⟩ := z k' hk'
      refine ⟨v, by rw [List.getElem?_set_ne (Ne.symm hkk)]; exact p, ?_⟩
      have e9 : updC cell i' j' k (some ns) i' j' k' = cell i' j' k' := if_neg (fun w => hkk w.2.2)
      show CellAt _ _ (updC cell i' j' k (some ns) i' j' k')
      rw [e9]
      exact q.mono kn
  · refine ((h.rows i' j' hi' hj').mono (fun o => keep _ o hq) kn) |> fun r => ?_
    obtain ⟨vs', e2, x, y, z⟩ := r
    refine ⟨vs', e2, x, y, fun k' hk' => ?_⟩
    obtain ⟨v, p, q⟩ := z k' hk'
    have e9 : updC cell i j k (some ns) i' j' k' = cell i' j' k' := if_neg (by rintro ⟨rfl, rfl, _⟩; exact hq rfl)
    refine ⟨v, p, ?_⟩
    show CellAt _ _ (updC cell i j k (some ns) i' j' k')
    rw [e9]
    exact q
theorem set_turn {vs : List Value} {e k : Nat} {v : Value} : Obj.mapSeq (·.setIfInBounds k v) (PySem.W.listOf vs.toArray e) = PySem.W.listOf (vs.set k v).toArray e := by
  unfold Obj.mapSeq PySem.W.listOf
  simp
theorem store_at {prog : Program} {w : World} {A : Around} {E : Value → Shared → Prop} {s : Shared} {l : Addr} {vs : List Value} {e k : Nat} {t : Tok} {v : Value} {Q : Unit → Shared → Prop} (ho : s.heap.get? l = some (PySem.W.listOf vs.toArray e)) (hk : k < vs.length) (hk2 : k < 1000)
    (hQ : ∀ h', Heap.SameBut l s.heap h' → h'.get? l = some (PySem.W.listOf (vs.set k v).toArray e) → Q () { s with heap := h' }) : wpAny (model prog w) A (setItem (.ref l) (.int (k : Int) t) v) Q E s := by
  refine ki_setAt ho (by omega) (by omega) (by simp; exact hk) (hQ _ (Heap.SameBut.update ..) ?_)
  have e9 : Obj.mapSeq (fun x => x.setIfInBounds ((k : Int).toNat) v) (PySem.W.listOf vs.toArray e) = PySem.W.listOf (vs.set k v).toArray e := by
    rw [Int.toNat_natCast]; exact set_turn
  have := Heap.get?_update_self (Obj.mapSeq fun x => x.setIfInBounds ((k : Int).toNat) v) ho (by rw [e9]; rfl)
  rw [this, e9]
end Mine
end
-- S7
section
open PySem PySem.W PySem.Calls PyProof.Rows
namespace Mine
theorem rs_S7 : True := by
  w_top off
  trivial

local macro_rules | `(tactic| k_inst) => `(tactic| first
  | (refine' inst_base ?F ?h1 ?h2; (case F => k_asm); (case h1 => assumption); (case h2 => assumption))
  | (refine' InstAt.of_news ?N ?h1 ?h2; (case N => k_asm); (case h1 => assumption); (case h2 => assumption)))
local macro_rules | `(tactic| walk_at "binaryOp FloorDiv int int") => `(tactic| ((with_reducible refine floordiv_int ?kb ?_ (Or.inl (PyProof.noPylong_small ?kp))); (case kb => omega); (case kp => omega)))
local macro_rules | `(tactic| walk_at "binaryOp Mult int int") => `(tactic| ((with_reducible refine mul_int ?_ (mulok_r ?k1 ?k2)); (case k1 => omega); (case k2 => omega)))
local macro_rules | `(tactic| ktr_unf) => `(tactic| repeat' (first
  | (k_unfold; (try dsimp only))
  | (with_reducible refine wpAny_execs_cons ?_)
  | ((fail_if_success (with_reducible show wpAny _ _ (exec (Stmt.For _ _ _ _ _) _) _ _ _)); (fail_if_success (with_reducible show wpAny _ _ (eval (Expr.ListComp _ _ _ _) _) _ _ _)); (fail_if_success (with_reducible show wpAny _ _ (pyIter _) _ _ _)); (fail_if_success (with_reducible show wpAny _ _ (call (Value.type "range") _) _ _ _)); (fail_if_success (with_reducible show wpAny _ _ (call (Value.builtin "list.append") _) _ _ _)); (fail_if_success (with_reducible show wpAny _ _ (setItem _ _ _) _ _ _)); (fail_if_success (with_reducible show wpAny _ _ (call (Value.type "list") _) _ _ _)); first | walk1 | (dsimp only; walk1))
  | fail "no step"))
local macro_rules | `(tactic| walk_at "subscriptTail Attribute Name Name ref int") => `(tactic| ((with_reducible show wpAny _ _ (subscriptTail _ _ (Value.ref _) (Value.int _ _)) _ _ _); (refine' my_item ?kl ?kh ?kx ?_ ?ks); (case kl => first | exact Fr.keep (by assumption) _ _ (by assumption) | exact (News.get (by assumption) (by k_mem))); (case kx => assumption); (case kh => omega); (case ks => with_unfolding_all rfl)))
local macro_rules | `(tactic| walk_at "subscriptTail Subscript Attribute Name Name ref int") => `(tactic| ((with_reducible show wpAny _ _ (subscriptTail _ _ (Value.ref _) (Value.int _ _)) _ _ _); (refine' my_item ?kl ?kh ?kx ?_ ?ks); (case kl => first | exact Fr.keep (by assumption) _ _ (by assumption) | exact (News.get (by assumption) (by k_mem))); (case kx => assumption); (case kh => omega); (case ks => with_unfolding_all rfl)))
local macro_rules | `(tactic| walk_at "subscriptTail Subscript Subscript Name Name ref int") => `(tactic| ((with_reducible show wpAny _ _ (subscriptTail _ _ (Value.ref _) (Value.int _ _)) _ _ _); (refine' my_item ?kl ?kh ?kx ?_ ?ks); (case kl => first | exact Fr.keep (by assumption) _ _ (by assumption) | exact (News.get (by assumption) (by k_mem))); (case kx => assumption); (case kh => omega); (case ks => with_unfolding_all rfl)))
local macro_rules | `(tactic| walk_at "subscriptTail") => `(tactic| ((with_reducible show wpAny _ _ (subscriptTail _ _ (Value.ref _) (Value.int _ _)) _ _ _); (refine' my_item ?kl ?kh ?kx ?_ ?ks); (case kl => first | exact Fr.keep (by assumption) _ _ (by assumption) | exact (News.get (by assumption) (by k_mem))); (case kx => assumption); (case kh => omega); (case ks => with_unfolding_all rfl)))
section
variable {prog : Program} {w : World} {A : Around} {s : Shared} {R : Result → Shared → Prop} {p : Program} {loose : List Str} {mg mb : Str → Option Value}
set_option maxHeartbeats 1000000 in
theorem get_spec {f : Fm} {sk : Sk} {i j k : Nat} {vs : List Value} {e : Nat} {b : Addr} {ti tj tk : Tok} (X : (hd.heap_39 w.params).In s.heap) (T : TopRead p loose mg mb s.heap) (rm : Room A 1) (ok : f.Ok)
    (hs : SkelAt (live s.heap) f sk) (hi : i < f.cs.length) (hj : j < PH f i) (hk : k < PW f i) (hr : s.heap.get? (sk.Rw i j) = some (PySem.W.listOf vs.toArray e)) (hv : vs[k]? = some (.ref b))
    (h : ∀ h' tk, Stay s.heap h' → R (.ok (.ret (.ref b))) { s with heap := h', toks := tk }) :
    codeAny (model prog w) A (.call (.ref 159) ⟨[.ref sk.x, .int (i : Int) ti, .int (k : Int) tk, .int (j : Int) tj], []⟩) R s := by
  obtain ⟨⟨h1, t1, u1, h2, t2, hx, hdx⟩, ⟨e1, hl⟩, hP⟩ := hs
  obtain ⟨e2, hp⟩ := hP i hi
  have g1 : (refs f.cs.length sk.P)[i]? = some (.ref (sk.P i)) := refs_get hi
  have g2 : (refs (PH f i) (sk.Rw i))[j]? = some (.ref (sk.Rw i j)) := refs_get hj
  have b1 := ok.c1
  have b2 := PH_le ok i
  have b3 := PW_le ok i
  obtain ⟨ah, ad, af, ag, au⟩ := A
  obtain rfl : ah = none := rm.handled
  refine' call_B (news := []) [(Str.ofString "self", .ref sk.x), (Str.ofString "place", .int (i : Int) ti), (Str.ofString "x", .int (k : Int) tk), (Str.ofString "y", .int (j : Int) tj)] (Stay.refl _) (Nat.le_refl _) ?hn ?X ?lim ?ho ?hcd ?room ?bind ?loc ?_ ?c2 ?c3 ?c4 ?c5
  case X => exact X
  case ho => k_is
  case hcd => k_is
  case lim => exact (T).nolimit
  case room => exact rm.lim
  case bind => exact BindsTo.of_eq rfl
  case loc => exact locs rfl
  case hn => intro q hq; cases hq
  case c2 => rfl
  case c3 => rfl
  case c4 => rfl
  case c5 => decide
  intro h₁ F N; (try dsimp only); k_fold
  ktr_unf
  exact h _ _ (Fr.keep (by assumption))
set_option maxHeartbeats 1000000 in
theorem put_spec {f : Fm} {sk : Sk} {i j k : Nat} {vs us : List Value} {e e3 : Nat} {lr : Addr} {ti tj tk : Tok} (X : (hd.heap_39 w.params).In (hideAll s.heap [sk.Rw i j])) (T : TopRead p loose mg mb (hideAll s.heap [sk.Rw i j])) (rm : Room A 1) (ok : f.Ok)
    (hs : SkelAt (live (hideAll s.heap [sk.Rw i j])) f sk) (hi : i < f.cs.length) (hj : j < PH f i) (hk : k < PW f i) (hr : s.heap.get? (sk.Rw i j) = some (PySem.W.listOf vs.toArray e)) (hvs : vs.length = PW f i)
    (hlr : (hideAll s.heap [sk.Rw i j]).get? lr = some (PySem.W.listOf us.toArray e3)) (hus : us.length ≤ 1000)
    (h : ∀ h' tk b c, Stay (hideAll s.heap [sk.Rw i j]) h' → s.heap.get? b = none → h'.get? b = some (PySem.W.listOf us.toArray c) → h'.get? (sk.Rw i j) = some (PySem.W.listOf (vs.set k (.ref b)).toArray e) → R (.ok (.ret .none)) { s with heap := h', toks := tk }) :
    codeAny (model prog w) A (.call (.ref 166) ⟨[.ref sk.x, .int (i : Int) ti, .int (k : Int) tk, .int (j : Int) tj, .ref lr], []⟩) R s := by
  obtain ⟨⟨h1, t1, u1, h2, t2, hx, hdx⟩, ⟨e1, hl⟩, hP⟩ := hs
  obtain ⟨e2, hp⟩ := hP i hi
  have g1 : (refs f.cs.length sk.P)[i]? = some (.ref (sk.P i)) := refs_get hi
  have g2 : (refs (PH f i) (sk.Rw i))[j]? = some (.ref (sk.Rw i j)) := refs_get hj
  have b1 := ok.c1
  have b2 := PH_le ok i
  have b3 := PW_le ok i
  obtain ⟨ah, ad, af, ag, au⟩ := A
  obtain rfl : ah = none := rm.handled
  refine' call_B (news := [(sk.Rw i j, PySem.W.listOf vs.toArray e)]) [(Str.ofString "self", .ref sk.x), (Str.ofString "place", .int (i : Int) ti), (Str.ofString "x", .int (k : Int) tk), (Str.ofString "y", .int (j : Int) tj), (Str.ofString "row", .ref lr)] (fun _ _ e => of_hideAll _ e) (Nat.le_of_eq (hideAll_size _ _)) ?hn ?X ?lim ?ho ?hcd ?room ?bind ?loc ?_ ?c2 ?c3 ?c4 ?c5
  case X => exact X
  case ho => k_is
  case hcd => k_is
  case lim => exact (T).nolimit
  case room => exact rm.lim
  case bind => exact BindsTo.of_eq rfl
  case loc => exact locs rfl
  case hn => 
    intro q hq
    rw [List.mem_singleton] at hq; subst hq; exact ⟨hr, hideAll_none _ (.head _)⟩
  case c2 => rfl
  case c3 => rfl
  case c4 => rfl
  case c5 => decide
  intro h₁ F N; (try dsimp only); k_fold
  ktr_unf
  refine list_copyK F N (items := us.toArray) ⟨_, F.keep _ _ hlr, rfl, _, rfl⟩ (fun D c h3 F3 N3 l3 => ?_) (by rw [sizeLine_eq]; simp; omega)
  clear F N
  ktr_unf
  have hr3 := (N3 _ (.tail _ (.head _))).1
  refine store_at hr3 (by rw [hvs]; exact hk) (by omega) fun h4 hs4 ho4 => ?_
  have hs5 := sameBut_of hs4
  have F4 := fr_mut F3 N3 hs5 (.tail _ (.head _))
  have hD := N3 _ (.head _)
  have hne : D ≠ sk.Rw i j := fun q => absurd (l3 _ (.head _)) (by rw [q]; exact Nat.lt_irrefl _)
  have hDn : s.heap.get? D = none := by
    cases q : s.heap.get? D with
    | none => rfl
    | some o => have := hideAll_get [sk.Rw i j] q (by simpa using hne); rw [hD.2.2] at this; cases this
  ktr_unf
  exact h _ _ D c F4.keep hDn (hs5 _ _ hne hD.1) ho4
end
end Mine
end
-- CallC
section
open PySem PySem.W PySem.Calls PyProof.Rows
namespace Mine
/-- as call_B, for a def that keeps a name in a cell -/
theorem call_C {prog : Program} {w : World} {A : Around} {s : Shared} {a : Addr} {K : Frag} {b : Heap} {news : List (Addr × Obj)}
    {R : Result → Shared → Prop} {name qual : Str} {params : Arguments} {body : List Stmt} {scope : Scope} {dV kV doc pm cdv ct oc : Value} {an od : Option Addr} {osl : Array (Option Value)} {args : Args} (binds : List (Str × Value))
    (kb : Stay b s.heap) (sz : b.objs.size ≤ s.heap.objs.size) (hn : ∀ p ∈ news, s.heap.get? p.1 = some p.2 ∧ b.get? p.1 = none)
    (X : K.In b) (hlim : b.NoLimit)
    (ho : K.lookup a = some ⟨oc, od, .func (fnOf name qual params body scope dV kV doc pm an cdv ct), osl⟩) (hcd : codeIn K cdv qual = true) (hroom : A.depth < recursionLimit)
    (hbind : BindsTo s (fnOf name qual params body scope dV kV doc pm an cdv ct) args binds)
    (hkind : (binds.all fun y => scope.names.lookup y.1 == some .local || scope.names.lookup y.1 == some .cell) = true)
    (hnd : ((cellsFrom 0 scope.names []).map (·.1)).Nodup)
    (h : ∀ h₁ tk cells, Fr b s.heap.objs.size h₁ (bindL (envOfC qual scope s.heap.objs.size a cdv).kindOf binds fun _ => none) → News b s.heap.objs.size h₁ (cells ++ news) →
      CellsAre (bindC (envOfC qual scope s.heap.objs.size a cdv).kindOf binds fun _ => none) (cellsFrom (s.heap.objs.size + 1) scope.names []) cells → (∀ p ∈ news, p.1 < s.heap.objs.size) →
      wpAny (model prog w) (A.deeper (envOfC qual scope s.heap.objs.size a cdv)) (execs body (envOfC qual scope s.heap.objs.size a cdv))
        (fun fl s' => R (.ok (.ret (match fl with | .ret v => v | _ => .none))) s')
        (fun _ _ => False)
        { s with heap := h₁, toks := tk })
    (hco : scope.isCoroutine = false := by rfl) (hgen : scope.isGenerator = false := by rfl) (hk : scope.kind = .function := by rfl) : codeAny (model prog w) A (.call (.ref a) args) R s := by
  refine codeAny_call_function hroom (kb _ _ (X _ _ ho)) rfl hco hgen rfl (codeRec_of (X.keeps kb) hcd) (hbind _ _ _ _ ?_)
  refine wpAny_newFunctionEnv_cells hk (kindsX hkind _) fun env' he s' x => ?_
  subst he
  refine ⟨(hlim.keeps kb).keeps x.toInCall.keep, codeAny_func ?_⟩
  obtain ⟨h₁, tk, rfl, _⟩ := x.done
  have hk₁ := x.toInCall.keep
  obtain ⟨cells, NC, Y⟩ := Cl.news (h₀ := s.heap) (Nat.le_refl _) fun n c hm => ⟨x.cell n c (lookup_of_mem_nodup (cellsFrom_names scope.names 0 (s.heap.objs.size + 1) [] [] rfl ▸ hnd) hm), x.above n c hm⟩
  refine wpAny_mono (h h₁ tk cells ⟨x.toInCall.ns, fun c o e => hk₁ c o (kb _ _ e), sz⟩ (fun p hp => ?_) Y (fun p hp => Heap.lt_size (hn p hp).1)) (fun fl s' hl => hl) (fun _ _ y => y.elim)
  rcases List.mem_append.mp hp with hp | hp
  · refine ⟨(NC p hp).1, (NC p hp).2.1, ?_⟩
    cases q : b.get? p.1 with
    | none => rfl
    | some o => have := kb _ _ q; rw [(NC p hp).2.2] at this; cases this
  · exact ⟨hk₁ _ _ (hn p hp).1, Nat.ne_of_lt (Heap.lt_size (hn p hp).1), (hn p hp).2⟩
end Mine
end
-- GridInit
section
open PySem PySem.W PySem.Calls PyProof.Rows
namespace Mine
abbrev rowObj (n e : Nat) : Obj := PySem.W.listOf (List.replicate n Value.none).toArray e
/-- i planes of a grid, made and not yet drawn -/
structure Built (f : Fm) (i : Nat) (P : Nat → Addr) (Rw : Nat → Nat → Addr) (rest : List (Addr × Obj)) (x dx : Addr) : Prop where
  planes : ∀ a, a < i → ∃ e, (P a, PySem.W.listOf (refs (PH f a) (Rw a)).toArray e) ∈ rest
  rows : ∀ a j, a < i → j < PH f a → ∃ e, (Rw a j, rowObj (PW f a) e) ∈ rest
  inj : ∀ a j a' j', a < i → j < PH f a → a' < i → j' < PH f a' → Rw a j = Rw a' j' → a = a' ∧ j = j'
  off : ∀ a j, a < i → j < PH f a → Rw a j ≠ x ∧ Rw a j ≠ dx ∧ ∀ a', a' < i → Rw a j ≠ P a'
theorem Built.zero (f : Fm) (P : Nat → Addr) (Rw : Nat → Nat → Addr) (rest : List (Addr × Obj)) (x dx : Addr) : Built f 0 P Rw rest x dx :=
  ⟨fun a h => absurd h (Nat.not_lt_zero _), fun a j h => absurd h (Nat.not_lt_zero _), fun a j a' j' h => absurd h (Nat.not_lt_zero _), fun a j h => absurd h (Nat.not_lt_zero _)⟩
def upP (P : Nat → Addr) (i : Nat) (D : Addr) : Nat → Addr := fun a => if a = i then D else P a
def upR (Rw : Nat → Nat → Addr) (i : Nat) (r : Nat → Addr) : Nat → Nat → Addr := fun a => if a = i then r else Rw a
theorem Built.succ {f : Fm} {i : Nat} {P : Nat → Addr} {Rw : Nat → Nat → Addr} {rest rest' : List (Addr × Obj)} {x dx D : Addr} {r : Nat → Addr} {e : Nat} (h : Built f i P Rw rest x dx)
    (sub : ∀ p ∈ rest, p ∈ rest') (hD : (D, PySem.W.listOf (refs (PH f i) r).toArray e) ∈ rest') (hr : ∀ j, j < PH f i → ∃ e, (r j, rowObj (PW f i) e) ∈ rest')
    (rinj : ∀ j j', j < PH f i → j' < PH f i → r j = r j' → j = j') (fresh : ∀ p ∈ rest, (∀ j, j < PH f i → p.1 ≠ r j) ∧ p.1 ≠ D) (rx : ∀ j, j < PH f i → r j ≠ x ∧ r j ≠ dx ∧ r j ≠ D) :
    Built f (i + 1) (upP P i D) (upR Rw i r) rest' x dx := by
  have eP : ∀ a, a ≠ i → upP P i D a = P a := fun a h => if_neg h
  have eR : ∀ a, a ≠ i → upR Rw i r a = Rw a := fun a h => if_neg h
  have eP1 : upP P i D i = D := if_pos rfl
  have eR1 : upR Rw i r i = r := if_pos rfl
  have old : ∀ a j, a < i → j < PH f a → ∀ j', j' < PH f i → Rw a j ≠ r j' := fun a j ha hj j' hj' => by
    obtain ⟨e, m⟩ := h.rows a j ha hj
    exact (fresh _ m).1 j' hj'
  refine ⟨fun a ha => ?_, fun a j ha hj => ?_, fun a j a' j' ha hj ha' hj' q => ?_, fun a j ha hj => ?_⟩
  · by_cases hi : a = i
    · subst hi; rw [eP1, eR1]; exact ⟨e, hD⟩
    · rw [eP a hi, eR a hi]; obtain ⟨e, m⟩ := h.planes a (by omega); exact ⟨e, sub _ m⟩
  · by_cases hi : a = i
    · subst hi; rw [eR1]; exact hr j hj
    · rw [eR a hi]; obtain ⟨e, m⟩ := h.rows a j (by omega) hj; exact ⟨e, sub _ m⟩
  · by_cases hi : a = i
    · subst hi
      by_cases hi' : a' = a
      · subst hi'; rw [eR1] at q; exact ⟨rfl, rinj j j' hj hj' q⟩
      · rw [eR1, eR a' hi'] at q; exact absurd q.symm (old a' j' (by omega) hj' j hj)
    · by_cases hi' : a' = i
      · subst hi'; rw [eR1, eR a hi] at q; exact absurd q (old a j (by omega) hj j' hj')
      · rw [eR a hi, eR a' hi'] at q; exact h.inj a j a' j' (by omega) hj (by omega) hj' q
  · by_cases hi : a = i
    · subst hi
      rw [eR1]
      refine ⟨(rx j hj).1, (rx j hj).2.1, fun a' ha' => ?_⟩
      by_cases hi' : a' = a
      · subst hi'; rw [eP1]; exact (rx j hj).2.2
      · rw [eP a' hi']; obtain ⟨e, m⟩ := h.planes a' (by omega); exact fun z => (fresh _ m).1 j hj z.symm
    · rw [eR a hi]
      have := h.off a j (by omega) hj
      refine ⟨this.1, this.2.1, fun a' ha' => ?_⟩
      by_cases hi' : a' = i
      · subst hi'; rw [eP1]; obtain ⟨e, m⟩ := h.rows a j (by omega) hj; exact (fresh _ m).2
      · rw [eP a' hi']; exact this.2.2 a' (by omega)
theorem refs_up {i : Nat} {P : Nat → Addr} {D : Addr} : refs i P ++ [Value.ref D] = refs (i + 1) (upP P i D) := by
  unfold refs
  rw [List.range_succ, List.map_append]
  congr 1
  · apply List.map_congr_left
    intro a ha
    rw [List.mem_range] at ha
    unfold upP
    rw [if_neg (by omega)]
  · simp [upP]
theorem Built.fill {f : Fm} {P : Nat → Addr} {Rw : Nat → Nat → Addr} {rest : List (Addr × Obj)} {x dx l : Addr} {M : Addr → Obj → Prop} (h : Built f f.cs.length P Rw rest x dx) (hM : ∀ p ∈ rest, M p.1 p.2)
    (hl : ∀ p ∈ rest, p.1 ≠ l) (hx : ∃ h1 t1 u1 h2 t2, (x, instObj 169 dx) ∈ rest ∧ (dx, dictOf [⟨h1, .str (Str.ofString "many") t1, .int 4 u1⟩, ⟨h2, .str (Str.ofString "planes") t2, .ref l⟩] 2) ∈ rest)
    (hlm : ∃ e, M l (PySem.W.listOf (refs f.cs.length P).toArray e)) : Fill M f ⟨x, dx, l, P, Rw⟩ fun _ _ _ => none := by
  obtain ⟨h1, t1, u1, h2, t2, m1, m2⟩ := hx
  refine ⟨⟨⟨h1, t1, u1, h2, t2, ⟨hM _ m1, ?_⟩, ⟨hM _ m2, ?_⟩⟩, ?_, ?_⟩, h.inj, ?_⟩
  · rintro ⟨a, j, ha, hj, q⟩; exact (h.off a j ha hj).1 q.symm
  · rintro ⟨a, j, ha, hj, q⟩; exact (h.off a j ha hj).2.1 q.symm
  · obtain ⟨e, q⟩ := hlm
    refine ⟨e, q, ?_⟩
    rintro ⟨a, j, ha, hj, z⟩
    obtain ⟨e, m⟩ := h.rows a j ha hj
    exact hl _ m z.symm
  · intro i hi
    obtain ⟨e, m⟩ := h.planes i hi
    refine ⟨e, hM _ m, ?_⟩
    rintro ⟨a, j, ha, hj, z⟩
    exact (h.off a j ha hj).2.2 i hi z.symm
  · intro i j hi hj
    obtain ⟨e, m⟩ := h.rows i j hi hj
    exact ⟨_, e, hM _ m, by simp, fun k hk => ⟨.none, by simp [hk], rfl⟩⟩

section
variable {prog : Program} {w : World} {A : Around} {h₀ : Heap} {L : Addr} {m : Str → Option Value} {env : Env} {elt : Expr} {x : Str} {scope : Scope} {cl : List (Str × Addr)} {s : Shared}
open LCg
theorem comp_ind {S : List (Addr × Obj) → Prop} {P : Nat → Value → Prop} {Fin : List Value → List (Addr × Obj) → Prop} (n : Nat) (Inv : Nat → List Value → List (Addr × Obj) → Prop)
    (step : ∀ i ys news, i < n → Inv i ys news → ∀ v I oI C oC D m₂ h tk (E' : Value → Shared → Prop), P i v → NsObj oC m₂ → m₂ x = some v → Fr h₀ L h m → News h₀ L h ((I, oI) :: (C, oC) :: (D, lst ys) :: news) → Off3 I C D news → ((@Ne Nat I C) ∧ (@Ne Nat I D) ∧ (@Ne Nat C D)) →
      wpAny (model prog w) A (eval elt (compEnvC scope cl C env)) (CompEnd h₀ L m { s with heap := h, toks := tk } I oI C oC D (lst ys) S (fun y news' => Inv (i + 1) (ys ++ [y]) news')) E' { s with heap := h, toks := tk })
    (fin : ∀ ys news, Inv n ys news → Fin ys news) : ∀ k i ys news, i + k = n → Inv i ys news → CompRest prog w A h₀ L m env elt x scope cl s S P Fin k i ys news
  | 0, i, ys, news, e, hi => by
    have : i = n := by omega
    subst this
    exact fin ys news hi
  | k + 1, i, ys, news, e, hi => by
    refine CompRest.succ fun v I oI C oC D m₂ h tk E' hP a b F N o d => ?_
    refine wpAny_mono (step i ys news (by omega) hi v I oI C oC D m₂ h tk E' hP a b F N o d) (fun y s₂ z => ?_) fun _ _ z => z
    obtain ⟨h', tk', news', e', F', N', o', hS, r⟩ := z
    exact ⟨h', tk', news', e', F', N', o', hS, comp_ind n Inv step fin k (i + 1) (ys ++ [y]) news' (by omega) r⟩
end
theorem my_len {prog : Program} {w : World} {A : Around} {E : Value → Shared → Prop} {s : Shared} {l : Addr} {vs : List Value} {e n : Nat} {Q : Value → Shared → Prop} (hl : s.heap.get? l = some (PySem.W.listOf vs.toArray e)) (hn : vs.length = n) (h3 : n < 1000)
    (h : Q (.int (n : Int) (s.toks + 1)) { s with toks := s.toks + 1 + 1 }) : wpAny (model prog w) A (call (.builtin "len") [.ref l]) Q E s := by
  have hl' : s.heap.IsList l vs.toArray := ⟨_, hl, rfl, _, rfl⟩
  refine Calls.call_len_list hl' (by rw [List.size_toArray]; omega) ?_
  rw [List.size_toArray, hn]
  exact h
end Mine
end
-- EltRows
section
open PySem PySem.W PySem.Calls PyProof.Rows
namespace Mine
theorem rep_arr {v : Value} (n : Nat) : List.foldl (fun x1 x2 => x1 ++ x2) #[] (List.replicate n #[v]) = (List.replicate n v).toArray := by
  have key : ∀ n (acc : Array Value), List.foldl (fun x1 x2 => x1 ++ x2) acc (List.replicate n #[v]) = acc ++ (List.replicate n v).toArray := by
    intro n
    induction n with
    | zero => intro acc; simp
    | succ k ih =>
      intro acc
      rw [List.replicate_succ, List.foldl_cons, ih]
      apply Array.toList_inj.mp
      simp [List.replicate_succ]
  rw [key]; simp
section
variable {prog : Program} {w : World} {A : Around} {E : Value → Shared → Prop} {s : Shared} {h₀ : Heap} {L C cA : Addr} {m : Str → Option Value} {env : Env} {news : List (Addr × Obj)} {scope : Scope} {cl : List (Str × Addr)}
theorem elt_rows {p1 p2 p3 p4 : Pos} {k0 : Nat} {oc : Obj} {n : Nat} {t : Tok} {Q : Value → Shared → Prop} (F : Fr h₀ L s.heap m) (N : News h₀ L s.heap news) (hc : cl.lookup (Str.ofString "across") = some cA) (hm : (cA, oc) ∈ news)
    (hd : oc.data = .cell (some (.int (n : Int) t))) (hn : n ≤ 1000)
    (hk : (compEnvC scope cl C env).scope.kind = .function) (hx : (compEnvC scope cl C env).kindOf (Str.ofString "across") = some .cell)
    (h : ∀ r h' tk, Fr h₀ L h' m → News h₀ L h' ((r, rowObj n 0) :: news) → (∀ p ∈ news, p.1 < r) → Q (.ref r) { s with heap := h', toks := tk }) :
    wpAny (model prog w) A (eval (.BinOp (.List [.Constant .none k0 p1] p2) .Mult (.Name (Str.ofString "across") p3) p4) (compEnvC scope cl C env)) Q E s := by
  refine wpAny_BinOp ?_
  refine List_ ?_
  refine spliced_more ?_
  refine wpAny_Constant_none ?_
  refine spliced_none ?_
  refine newList_K F N (fun l1 h1 F1 N1 lt1 => ?_) (by rw [sizeLine_eq]; simp)
  refine wpAny_Name (wpAny_loadName_cell hk hx hc ⟨oc, N1.get (.tail _ hm), hd⟩ ?_) (by decide)
  refine mul_list F1 N1 (N1 _ (.head _)).1 (by omega) (by omega) (by simp; omega) (fun h2 F2 N2 => ?_)
  have e : (List.foldl (fun x1 x2 => x1 ++ x2) #[] (List.replicate (if [Value.none].toArray.isEmpty = true then 0 else (n : Int).toNat) [Value.none].toArray)) = (List.replicate n Value.none).toArray := by
    rw [if_neg (by decide), Int.toNat_natCast]; exact rep_arr n
  rw [e] at N2
  refine h _ _ _ F2 (fun p hp => ?_) (fun p hp => Heap.lt_size (N1 p (.tail _ hp)).1)
  rcases List.mem_cons.mp hp with rfl | hp
  · exact N2 _ (.head _)
  · exact N2 _ (.tail _ (.tail _ hp))
end
theorem off1_mem {D : Addr} : ∀ {l : List (Addr × Obj)}, LCg.Off1 D l → ∀ p ∈ l, p.1 ≠ D
  | [], _, _, h => nomatch h
  | _ :: _, x, p, h => by
    rcases List.mem_cons.mp h with rfl | h
    · exact x.1
    · exact off1_mem x.2 p h
end Mine
end
-- S8
section
open PySem PySem.W PySem.Calls PyProof.Rows
namespace Mine
theorem rs_S8 : True := by
  w_top off
  trivial

local macro_rules | `(tactic| k_inst) => `(tactic| first
  | (refine' inst_base ?F ?h1 ?h2; (case F => k_asm); (case h1 => assumption); (case h2 => assumption))
  | (refine' InstAt.of_news ?N ?h1 ?h2; (case N => k_asm); (case h1 => assumption); (case h2 => assumption)))
local macro_rules | `(tactic| walk_at "binaryOp FloorDiv int int") => `(tactic| ((with_reducible refine floordiv_int ?kb ?_ (Or.inl (PyProof.noPylong_small ?kp))); (case kb => omega); (case kp => omega)))
local macro_rules | `(tactic| walk_at "binaryOp Mult int int") => `(tactic| ((with_reducible refine mul_int ?_ (mulok_r ?k1 ?k2)); (case k1 => omega); (case k2 => omega)))
local macro_rules | `(tactic| ktr_unf) => `(tactic| repeat' (first
  | (k_unfold; (try dsimp only))
  | (with_reducible refine wpAny_execs_cons ?_)
  | ((fail_if_success (with_reducible show wpAny _ _ (exec (Stmt.For _ _ _ _ _) _) _ _ _)); (fail_if_success (with_reducible show wpAny _ _ (eval (Expr.ListComp _ _ _ _) _) _ _ _)); (fail_if_success (with_reducible show wpAny _ _ (pyIter _) _ _ _)); (fail_if_success (with_reducible show wpAny _ _ (call (Value.type "range") _) _ _ _)); (fail_if_success (with_reducible show wpAny _ _ (call (Value.builtin "list.append") _) _ _ _)); (fail_if_success (with_reducible show wpAny _ _ (setItem _ _ _) _ _ _)); (fail_if_success (with_reducible show wpAny _ _ (call (Value.type "list") _) _ _ _)); (fail_if_success (with_reducible show wpAny _ _ (storeName _ (PySem.Str.ofString "across") _) _ _ _)); first | walk1 | (dsimp only; walk1))
  | fail "no step"))
local macro_rules | `(tactic| walk_at "subscriptTail Attribute Name Name ref int") => `(tactic| ((with_reducible show wpAny _ _ (subscriptTail _ _ (Value.ref _) (Value.int _ _)) _ _ _); (refine' my_item ?kl ?kh ?kx ?_ ?ks); (case kl => first | exact Fr.keep (by assumption) _ _ (by assumption) | exact (News.get (by assumption) (by k_mem))); (case kx => assumption); (case kh => omega); (case ks => with_unfolding_all rfl)))
local macro_rules | `(tactic| walk_at "subscriptTail Subscript Attribute Name Name ref int") => `(tactic| ((with_reducible show wpAny _ _ (subscriptTail _ _ (Value.ref _) (Value.int _ _)) _ _ _); (refine' my_item ?kl ?kh ?kx ?_ ?ks); (case kl => first | exact Fr.keep (by assumption) _ _ (by assumption) | exact (News.get (by assumption) (by k_mem))); (case kx => assumption); (case kh => omega); (case ks => with_unfolding_all rfl)))
local macro_rules | `(tactic| walk_at "subscriptTail Subscript Subscript Name Name ref int") => `(tactic| ((with_reducible show wpAny _ _ (subscriptTail _ _ (Value.ref _) (Value.int _ _)) _ _ _); (refine' my_item ?kl ?kh ?kx ?_ ?ks); (case kl => first | exact Fr.keep (by assumption) _ _ (by assumption) | exact (News.get (by assumption) (by k_mem))); (case kx => assumption); (case kh => omega); (case ks => with_unfolding_all rfl)))
local macro_rules | `(tactic| walk_at "subscriptTail") => `(tactic| ((with_reducible show wpAny _ _ (subscriptTail _ _ (Value.ref _) (Value.int _ _)) _ _ _); (refine' my_item ?kl ?kh ?kx ?_ ?ks); (case kl => first | exact Fr.keep (by assumption) _ _ (by assumption) | exact (News.get (by assumption) (by k_mem))); (case kx => assumption); (case kh => omega); (case ks => with_unfolding_all rfl)))
local macro_rules | `(tactic| walk_at "call builtin:len") => `(tactic| ((with_reducible show wpAny _ _ (call (Value.builtin "len") [Value.ref _]) _ _ _); (refine' my_len ?kl ?kn ?kh ?_); (case kl => first | exact Fr.keep (by assumption) _ _ (by assumption) | exact (News.get (by assumption) (by k_mem))); (case kn => assumption); (case kh => omega)))
local macro_rules | `(tactic| k_mem) => `(tactic| assumption)
local macro_rules | `(tactic| walk_at "call ref") => `(tactic| ((rename Fr _ _ _ _ => kF9); (rename News _ _ _ _ => kN9); (refine call_of_code ?_); (refine' padded_spec (Frag.In.keeps (by assumption) (Fr.keep kF9)) (TopRead.keeps (by assumption) (Fr.keep kF9)) (Room.deeper (Room.le (by assumption) (by decide)) _) ?hf ?ok ?hc ?_); (case hf => exact FrameAt.mono (by assumption) (fun _ _ e => Fr.keep kF9 _ _ e)); (case ok => assumption); (case hc => assumption); intro h' tk' a' t' t2' st' fr' up'; (have kF' := fr_stay kF9 st'); (have kN' := news_cons kF9 kN9 st' fr' up'); (try clear kF9); (try clear kN9); (try dsimp only)))
section
variable {prog : Program} {w : World} {A : Around} {s : Shared} {R : Result → Shared → Prop} {p : Program} {loose : List Str} {mg mb : Str → Option Value}
set_option maxHeartbeats 1000000 in
theorem grid_init {x dx fx : Addr} {f : Fm} (hx0 : s.heap.get? x = some (instObj 169 dx)) (hdx0 : s.heap.get? dx = some (dictOf [] 0)) (hlt0 : dx < x)
    (X : (hd.heap_39 w.params).In (hideAll s.heap [x, dx])) (T : TopRead p loose mg mb (hideAll s.heap [x, dx])) (rm : Room A 6) (hf : FrameAt (live (hideAll s.heap [x, dx])) fx f) (ok : f.Ok)
    (h : ∀ h' tk sk, sk.x = x → sk.dx = dx → Stay (hideAll s.heap [x, dx]) h' → Fill (fun a o => h'.get? a = some o ∧ (hideAll s.heap [x, dx]).get? a = none) f sk (fun _ _ _ => none) → R (.ok (.ret .none)) { s with heap := h', toks := tk }) :
    codeAny (model prog w) A (.call (.ref 152) ⟨[.ref x, .ref fx], []⟩) R s := by
  have hlt := ltN hlt0
  obtain ⟨fdx, h1, t1, u1, h2, t2, u2, h3, t3, u3, h4, t4, u4, h5, t5, h6, t6, u6, fl, vs, e, hx, hdx, hl, hcs⟩ := id hf
  have b1 := ok.c1
  have hlen := hcs.1
  obtain ⟨ah, ad, af, ag, au⟩ := A
  obtain rfl : ah = none := rm.handled
  refine' call_C (news := [(x, instObj 169 dx), (dx, dictOf [] 0)]) [(Str.ofString "self", .ref x), (Str.ofString "frame", .ref fx)] (fun _ _ e => of_hideAll _ e) (Nat.le_of_eq (hideAll_size _ _)) ?hn ?X ?lim ?ho ?hcd ?room ?bind ?kind ?nd ?_ ?c2 ?c3 ?c4
  case X => exact X
  case ho => k_is
  case hcd => k_is
  case lim => exact (T).nolimit
  case room => exact rm.lim
  case bind => exact BindsTo.of_eq rfl
  case kind => rfl
  case nd => decide +kernel
  case hn => 
    intro q hq
    rcases List.mem_cons.mp hq with rfl | hq
    · exact ⟨hx0, hideAll_none _ (.head _)⟩
    · rw [List.mem_singleton] at hq; subst hq; exact ⟨hdx0, hideAll_none _ (.tail _ (.head _))⟩
  case c2 => rfl
  case c3 => rfl
  case c4 => rfl
  intro h₁ tk0 cells F N Y l1; (try dsimp only); k_cells Y; (try simp only [List.cons_append, List.nil_append] at N); (try k_fold)
  rename_i oc hoc
  have hxs := ltN (l1 (x, instObj 169 dx) (.head _))
  have hdxs := ltN (l1 (dx, dictOf [] 0) (.tail _ (.head _)))
  dsimp only at hxs hdxs
  have F0 := fr_kn F [(Str.ofString "self", .ref x), (Str.ofString "frame", .ref fx)] ⟨rfl, rfl, trivial⟩
  clear F l1
  ktr_unf
  rename_i h2a pl h2b l1 h2 F2 N2
  obtain ⟨rest0, N3, hr0, ha0⟩ : ∃ rest0, News (hideAll s.heap [x, dx]) s.heap.objs.size h2 ((pl, PySem.W.listOf #[] 0) :: (s.heap.objs.size + 1, oc) :: rest0) ∧
      (∃ h1 t1 u1 h2 t2, (x, instObj 169 dx) ∈ rest0 ∧ (dx, dictOf [⟨h1, .str (Str.ofString "many") t1, .int 4 u1⟩, ⟨h2, .str (Str.ofString "planes") t2, .ref pl⟩] 2) ∈ rest0) ∧
      (∀ q ∈ rest0, q.1 ≠ pl ∧ q.1 ≠ s.heap.objs.size + 1) := by
    refine ⟨_, N2, ⟨_, _, _, _, _, .head _, .tail _ (.head _)⟩, ?_⟩
    intro q hq
    rcases List.mem_cons.mp hq with rfl | hq
    · exact ⟨neN (by dsimp only; omega), neN (by dsimp only; omega)⟩
    · rw [List.mem_singleton] at hq; subst hq; exact ⟨neN (by dsimp only; omega), neN (by dsimp only; omega)⟩
  clear N2
  k_fold
  refine For_invV (hideAll s.heap [x, dx]) rfl rfl ?_ (by intro _; rfl) (by passes_own)
  ktr_unf
  refine' loop_range (fun i m nz => Knows m [(Str.ofString "self", .ref x), (Str.ofString "frame", .ref fx)] ∧ ∃ P Rw rest e oc' vc, nz = (pl, PySem.W.listOf (refs i P).toArray e) :: (s.heap.objs.size + 1, oc') :: rest ∧ Obj.data oc' = .cell vc ∧
      (∀ q ∈ rest, q.1 ≠ pl ∧ q.1 ≠ s.heap.objs.size + 1) ∧
      (∃ h1 t1 u1 h2 t2, (x, instObj 169 dx) ∈ rest ∧ (dx, dictOf [⟨h1, .str (Str.ofString "many") t1, .int 4 u1⟩, ⟨h2, .str (Str.ofString "planes") t2, .ref pl⟩] 2) ∈ rest) ∧ Built f i P Rw rest x dx) rfl ?r0 ?r1 ?F ?N ?h0 ?turn ?done
  case r0 => omega
  case r1 => omega
  case F => exact F2
  case N => exact N3
  case h0 => exact ⟨⟨rfl, rfl, trivial⟩, fun _ => 0, fun _ _ => 0, rest0, 0, oc, _, rfl, hoc, ha0, hr0, Built.zero ..⟩
  case turn =>
    intro i t m₁ nz₁ h3 tk I io hi hJ ha F₁ N₁
    obtain ⟨hk, P, Rw, rest, e1, oc1, vc, rfl, hoc1, hap, ⟨g1, g2, g3, g4, g5, hx1, hdx1⟩, hB⟩ := hJ
    have F3 := fr_turn F₁ _ hk rfl
    clear F₁
    have hi' : i < f.cs.length := by omega
    have hc : f.cs[i]? = some f.cs[i] := by simp [hi']
    generalize f.cs[i] = c at hc
    have hc3 := (N₁ (s.heap.objs.size + 1, oc1) (.tail _ (.tail _ (.head _)))).1
    (try k_fold)
    ktr_unf
    rename_i h4 tk4 a4 ta4 td4 st4 fr4 up4 h5 F5 N5
    refine wpAny_storeName_cell rfl rfl (c := s.heap.objs.size + 1) rfl ⟨oc1, (N5 _ (.tail _ (.tail _ (.tail _ (.head _))))).1, hoc1⟩ fun h6 hv6 hs6 => ?_
    obtain ⟨oc2, ho2, hoc2⟩ := hv6
    have hs7 := sameBut_of hs6
    have F6 := fr_mut F5 N5 hs7 (.tail _ (.tail _ (.tail _ (.head _))))
    have hpc : pl ≠ s.heap.objs.size + 1 := neN (by omega)
    have N6 : News (hideAll s.heap [x, dx]) s.heap.objs.size h6 ((I, io) :: (pl, PySem.W.listOf (refs i P).toArray e1) :: (s.heap.objs.size + 1, oc2) :: rest) := by
      refine news_mut N5 hs7 (.tail _ (.tail _ (.tail _ (.head _)))) ho2 fun q hq => ?_
      rcases List.mem_cons.mp hq with rfl | hq
      · exact .inr ⟨.tail _ (.head _), Ne.symm (ha (s.heap.objs.size + 1, oc1) (.tail _ (.head _)))⟩
      rcases List.mem_cons.mp hq with rfl | hq
      · exact .inr ⟨.tail _ (.tail _ (.head _)), hpc⟩
      rcases List.mem_cons.mp hq with rfl | hq
      · exact .inl rfl
      · exact .inr ⟨.tail _ (.tail _ (.tail _ (.tail _ hq))), (hap q hq).2⟩
    clear F5 N5
    have hPH : ((PH f i : Nat) : Int) = mcD f * c.dn := by
      have q1 := ok.mcD
      unfold PH; rw [hc]
      rcases (ok.cs c (List.mem_of_getElem? hc)).d with q | q <;> simp only [q] <;> omega
    have hPW : ((PW f i : Nat) : Int) = mcA f * c.ac := by
      have q1 := ok.mcA
      unfold PW; rw [hc]
      rcases (ok.cs c (List.mem_of_getElem? hc)).a with q | q <;> simp only [q] <;> omega
    have hPHl := PH_le ok i
    have hPWl := PW_le ok i
    rw [← hPW] at hoc2
    rw [← hPH]
    ktr_unf
    rename_i h7 F7 N7
    k_fold
    refine LCg.ListComp_U (F₀ := F7) (cl := [(Str.ofString "across", s.heap.objs.size + 1)]) (by with_unfolding_all rfl) (by decide) (by rfl) (by decide) (by rfl) ?_
    (try k_fold)
    ktr_unf
    refine range1_rows F7 N7 fun h8 tk8 t8 u8 v8 hR F8 N8 _ => ?_
    obtain ⟨hsm, hsz⟩ := small_range (N := ((PH f i : Nat) : Int)) (by omega) (by omega)
    refine LCg.CompSrc.range rfl F8 N8 hR hsm hsz (by rw [sizeLine_eq]; omega) fun g => ?_
    refine comp_ind (PH f i) (fun i' ys news => ∃ r : Nat → Addr, ys = refs i' r ∧ (∀ q ∈ (I, io) :: (pl, PySem.W.listOf (refs i P).toArray e1) :: (s.heap.objs.size + 1, oc2) :: rest, q ∈ news) ∧
      (∀ j, j < i' → ∃ e, (r j, rowObj (PW f i) e) ∈ news) ∧ (∀ j, j < i' → ∀ q ∈ (I, io) :: (pl, PySem.W.listOf (refs i P).toArray e1) :: (s.heap.objs.size + 1, oc2) :: rest, q.1 ≠ r j) ∧
      (∀ j j', j < i' → j' < i' → r j = r j' → j = j')) ?step ?fin _ 0 [] _ (by omega) ⟨fun _ => 0, rfl, fun q hq => hq, fun j hj => absurd hj (Nat.not_lt_zero _), fun j hj => absurd hj (Nat.not_lt_zero _), fun j _ hj => absurd hj (Nat.not_lt_zero _)⟩
    case step =>
      rintro i' ys news hi2 ⟨r, hys, hsub, hrows, hoff, hinj⟩ v I2 oI C oC D m₂ h9 tk9 E' hP ho hm F9 N9 o9 d9
      have hcm : (s.heap.objs.size + 1, oc2) ∈ news := hsub _ (.tail _ (.tail _ (.head _)))
      refine elt_rows F9 N9 (cA := s.heap.objs.size + 1) (n := PW f i) rfl (.tail _ (.tail _ (.tail _ hcm))) hoc2 (by omega) rfl rfl (fun r2 h10 tk10 F10 N10 lt10 => ?_)
      have hne : ∀ q ∈ (I2, oI) :: (C, oC) :: (D, LCg.lst ys) :: news, q.1 ≠ r2 := fun q hq => Nat.ne_of_lt (lt10 q hq)
      refine ⟨h10, tk10, (r2, rowObj (PW f i) 0) :: news, rfl, F10, ?_, ⟨⟨Ne.symm (hne (I2, oI) (.head _)), Ne.symm (hne (C, oC) (.tail _ (.head _))), Ne.symm (hne (D, LCg.lst ys) (.tail _ (.tail _ (.head _))))⟩, o9⟩, trivial, upP r i' r2, ?_, fun q hq => .tail _ (hsub q hq), ?_, ?_, ?_⟩
      · intro q hq
        rcases List.mem_cons.mp hq with rfl | hq
        · exact N10 _ (.tail _ (.head _))
        rcases List.mem_cons.mp hq with rfl | hq
        · exact N10 _ (.tail _ (.tail _ (.head _)))
        rcases List.mem_cons.mp hq with rfl | hq
        · exact N10 _ (.tail _ (.tail _ (.tail _ (.head _))))
        rcases List.mem_cons.mp hq with rfl | hq
        · exact N10 _ (.head _)
        · exact N10 _ (.tail _ (.tail _ (.tail _ (.tail _ hq))))
      · rw [hys]; exact refs_up
      · intro j hj
        by_cases hji : j = i'
        · subst hji; exact ⟨0, by rw [show upP r j r2 j = r2 from if_pos rfl]; exact .head _⟩
        · rw [show upP r i' r2 j = r j from if_neg hji]
          obtain ⟨e, hm⟩ := hrows j (by omega)
          exact ⟨e, .tail _ hm⟩
      · intro j hj q hq
        by_cases hji : j = i'
        · subst hji; rw [show upP r j r2 j = r2 from if_pos rfl]; exact hne q (.tail _ (.tail _ (.tail _ (hsub q hq))))
        · rw [show upP r i' r2 j = r j from if_neg hji]; exact hoff j (by omega) q hq
      · intro j j' hj hj' q
        have old : ∀ a, a < i' → r a ≠ r2 := fun a ha => by
          obtain ⟨e, hm⟩ := hrows a ha
          exact hne _ (.tail _ (.tail _ (.tail _ hm)))
        by_cases hji : j = i'
        · by_cases hji' : j' = i'
          · omega
          · subst hji
            rw [show upP r j r2 j = r2 from if_pos rfl, show upP r j r2 j' = r j' from if_neg hji'] at q
            exact absurd q.symm (old j' (by omega))
        · by_cases hji' : j' = i'
          · subst hji'
            rw [show upP r j' r2 j' = r2 from if_pos rfl, show upP r j' r2 j = r j from if_neg hji] at q
            exact absurd q (old j (by omega))
          · rw [show upP r i' r2 j = r j from if_neg hji, show upP r i' r2 j' = r j' from if_neg hji'] at q
            exact hinj j j' (by omega) (by omega) q
    case fin =>
      rintro ys news ⟨r, hys, hsub, hrows, hoff, hinj⟩ D h9 tk9 F9 N9 o9
      k_unfold
      (try dsimp only)
      have om : ∀ q ∈ news, q.1 ≠ D := off1_mem o9
      have mI : (I, io) ∈ news := hsub _ (.head _)
      have mP : (pl, PySem.W.listOf (refs i P).toArray e1) ∈ news := hsub _ (.tail _ (.head _))
      have mC : (s.heap.objs.size + 1, oc2) ∈ news := hsub _ (.tail _ (.tail _ (.head _)))
      refine spliced_none ?_
      show wpAny _ _ (call (Value.builtin "list.append") [.ref pl, .ref D]) _ _ _
      refine append_at (N9 _ (.tail _ mP)).1 (fun h10 hs10 ho10 => ?_) (by rw [sizeLine_eq]; simp only [List.size_toArray, refs_len]; omega)
      have hs11 := sameBut_of hs10
      have F10 := fr_mut F9 N9 hs11 (.tail _ mP)
      have hpI : pl ≠ I := ha (pl, PySem.W.listOf (refs i P).toArray e1) (.head _)
      have hcI : s.heap.objs.size + 1 ≠ I := ha (s.heap.objs.size + 1, oc1) (.tail _ (.head _))
      have hfm : ∀ q : Addr × Obj, q ∈ ((D, LCg.lst ys) :: news).filter (fun q => decide (q.1 ≠ I) && decide (q.1 ≠ pl) && decide (q.1 ≠ s.heap.objs.size + 1)) ↔ q ∈ (D, LCg.lst ys) :: news ∧ q.1 ≠ I ∧ q.1 ≠ pl ∧ q.1 ≠ s.heap.objs.size + 1 := by
        intro q
        rw [List.mem_filter]
        simp only [Bool.and_eq_true, decide_eq_true_eq, and_assoc]
      generalize hrest' : ((D, LCg.lst ys) :: news).filter (fun q => decide (q.1 ≠ I) && decide (q.1 ≠ pl) && decide (q.1 ≠ s.heap.objs.size + 1)) = rest' at hfm
      have hsubr : ∀ q ∈ rest, q ∈ rest' := fun q hq => (hfm q).mpr ⟨.tail _ (hsub q (.tail _ (.tail _ (.tail _ hq)))), ha q (.tail _ (.tail _ hq)), (hap q hq).1, (hap q hq).2⟩
      have N10 : News (hideAll s.heap [x, dx]) s.heap.objs.size h10 ((I, io) :: (pl, PySem.W.listOf (refs (i + 1) (upP P i D)).toArray (e1 + 1)) :: (s.heap.objs.size + 1, oc2) :: rest') := by
        have ho11 : h10.get? pl = some (PySem.W.listOf (refs (i + 1) (upP P i D)).toArray (e1 + 1)) := by
          rw [← refs_up, ← List.push_toArray]; exact ho10
        refine news_mut N9 hs11 (.tail _ mP) ho11 fun q hq => ?_
        rcases List.mem_cons.mp hq with rfl | hq
        · exact .inr ⟨.tail _ mI, Ne.symm hpI⟩
        rcases List.mem_cons.mp hq with rfl | hq
        · exact .inl rfl
        rcases List.mem_cons.mp hq with rfl | hq
        · exact .inr ⟨.tail _ mC, Ne.symm hpc⟩
        · have := (hfm q).mp hq
          exact .inr ⟨this.1, this.2.2.1⟩
      refine wpAny_execs_nil ?_
      refine ⟨h10, _, _, _, rfl, F10, N10, ?_, ⟨rfl, rfl, trivial⟩, upP P i D, upR Rw i r, rest', e1 + 1, oc2, _, rfl, hoc2, fun q hq => ⟨((hfm q).mp hq).2.2.1, ((hfm q).mp hq).2.2.2⟩, ⟨g1, g2, g3, g4, g5, hsubr _ hx1, hsubr _ hdx1⟩, ?_⟩
      · intro q hq
        rcases List.mem_cons.mp hq with rfl | hq
        · exact hpI
        rcases List.mem_cons.mp hq with rfl | hq
        · exact hcI
        · exact ((hfm q).mp hq).2.1
      · refine hB.succ (D := D) (r := r) (e := ys.length) hsubr ?_ ?_ hinj ?_ ?_
        · refine (hfm _).mpr ⟨by rw [← hys]; exact .head _, Ne.symm (om _ mI), Ne.symm (om _ mP), Ne.symm (om _ mC)⟩
        · intro j hj
          obtain ⟨e, hm⟩ := hrows j hj
          exact ⟨e, (hfm _).mpr ⟨.tail _ hm, Ne.symm (hoff j hj _ (.head _)), Ne.symm (hoff j hj _ (.tail _ (.head _))), Ne.symm (hoff j hj _ (.tail _ (.tail _ (.head _))))⟩⟩
        · intro q hq
          have mq := hsub q (.tail _ (.tail _ (.tail _ hq)))
          exact ⟨fun j hj => hoff j hj q (.tail _ (.tail _ (.tail _ hq))), om q mq⟩
        · intro j hj
          obtain ⟨e, hm⟩ := hrows j hj
          exact ⟨Ne.symm (hoff j hj _ (.tail _ (.tail _ (.tail _ hx1)))), Ne.symm (hoff j hj _ (.tail _ (.tail _ (.tail _ hdx1)))), om _ hm⟩
  case done =>
    rintro m₁ nz₁ h3 tk ⟨hk, P, Rw, rest, e1, oc1, vc, rfl, hoc1, hap, hxr, hB⟩ F₁ N₁
    rw [Int.toNat_natCast] at hB N₁
    ktr_unf
    refine h _ _ ⟨x, dx, pl, P, Rw⟩ rfl rfl F₁.keep ?_
    refine hB.fill (fun p hp => ⟨(N₁ p (.tail _ (.tail _ hp))).1, (N₁ p (.tail _ (.tail _ hp))).2.2⟩) (fun p hp => (hap p hp).1) hxr ⟨e1, (N₁ _ (.head _)).1, (N₁ _ (.head _)).2.2⟩
set_option maxHeartbeats 1000000 in
theorem grid_new {fx : Addr} {f : Fm} (X : (hd.heap_39 w.params).In s.heap) (T : TopRead p loose mg mb s.heap) (rm : Room A 7) (hf : FrameAt (live s.heap) fx f) (ok : f.Ok)
    (h : ∀ h' tk sk, Stay s.heap h' → Fill (made s.heap h') f sk (fun _ _ _ => none) → R (.ok (.ret (.ref sk.x))) { s with heap := h', toks := tk }) :
    codeAny (model prog w) A (.call (.ref 169) ⟨[.ref fx], []⟩) R s := by
  refine' make_S X ?h1 ?h2 ?h3 ?_
  case h1 => k_is
  case h2 => k_is
  case h3 => k_is
  refine grid_init (mh_x _ _) (mh_dx _ _) (Nat.lt_succ_self _) (X.keeps (mh_stay _ _)) (T.keeps (mh_stay _ _)) rm.make (hf.mono fun a o y => mh_stay _ _ a o y) ok fun h' tk sk e1 e2 st hfl => ?_
  refine ⟨rfl, ?_⟩
  rw [← e1]
  refine h h' tk sk ((mh_stay _ _).trans st) (hfl.mono fun a o y => ⟨y.1, ?_⟩)
  cases q : s.heap.get? a with
  | none => rfl
  | some o' => have := mh_stay _ 169 a o' q; rw [y.2] at this; cases this
end
end Mine
end
-- CropLem
section
open PySem PySem.W PySem.Calls PyProof.Rows
namespace Mine
theorem mcA_crop {f : Fm} (o : f.Ok) {x y a d : Int} (x0 : 0 ≤ x) (x1 : x < mcA f) (a0 : 1 ≤ a) : mcA (crop f x y a d) = min a (mcA f - x) := by
  have h0 := o.w0; have h1 := o.w1
  have e : (crop f x y a d).cs = f.cs := rfl
  have e2 : (crop f x y a d).wd = min (a * (mxA f.cs * 2)) (f.wd - x * (mxA f.cs * 2)) := rfl
  unfold mcA at x1 ⊢
  rw [e, e2]
  have hq := o.mA
  generalize mxA f.cs = m at hq x1 ⊢
  rcases hq with rfl | rfl <;> simp only [Int.fdiv_eq_ediv_of_nonneg _ (by decide : (0 : Int) ≤ 2 * 1), Int.fdiv_eq_ediv_of_nonneg _ (by decide : (0 : Int) ≤ 2 * 2)] at x1 ⊢ <;> omega
theorem mcD_crop {f : Fm} (o : f.Ok) {x y a d : Int} (y0 : 0 ≤ y) (y1 : y < mcD f) (d0 : 1 ≤ d) : mcD (crop f x y a d) = min d (mcD f - y) := by
  have h0 := o.h0; have h1 := o.h1
  have e : (crop f x y a d).cs = f.cs := rfl
  have e2 : (crop f x y a d).ht = min (d * (mxD f.cs * 2)) (f.ht - y * (mxD f.cs * 2)) := rfl
  unfold mcD at y1 ⊢
  rw [e, e2]
  have hq := o.mD
  generalize mxD f.cs = m at hq y1 ⊢
  rcases hq with rfl | rfl <;> simp only [Int.fdiv_eq_ediv_of_nonneg _ (by decide : (0 : Int) ≤ 2 * 1), Int.fdiv_eq_ediv_of_nonneg _ (by decide : (0 : Int) ≤ 2 * 2)] at y1 ⊢ <;> omega
theorem crop_ok {f : Fm} (o : f.Ok) {x y a d : Int} (x0 : 0 ≤ x) (x1 : x < mcA f) (y0 : 0 ≤ y) (y1 : y < mcD f) (a0 : 1 ≤ a) (d0 : 1 ≤ d) : (crop f x y a d).Ok := by
  have h0 := o.w0; have h1 := o.w1; have h2 := o.h0; have h3 := o.h1
  have e2 : (crop f x y a d).wd = min (a * (mxA f.cs * 2)) (f.wd - x * (mxA f.cs * 2)) := rfl
  have e3 : (crop f x y a d).ht = min (d * (mxD f.cs * 2)) (f.ht - y * (mxD f.cs * 2)) := rfl
  unfold mcA at x1
  unfold mcD at y1
  have hq := o.mA
  have hr := o.mD
  have k1 : 1 ≤ (crop f x y a d).wd ∧ (crop f x y a d).wd ≤ 14 := by
    rw [e2]
    generalize mxA f.cs = m at hq x1 ⊢
    rcases hq with rfl | rfl <;> simp only [Int.fdiv_eq_ediv_of_nonneg _ (by decide : (0 : Int) ≤ 2 * 1), Int.fdiv_eq_ediv_of_nonneg _ (by decide : (0 : Int) ≤ 2 * 2)] at x1 ⊢ <;> omega
  have k2 : 1 ≤ (crop f x y a d).ht ∧ (crop f x y a d).ht ≤ 10 := by
    rw [e3]
    generalize mxD f.cs = m at hr y1 ⊢
    rcases hr with rfl | rfl <;> simp only [Int.fdiv_eq_ediv_of_nonneg _ (by decide : (0 : Int) ≤ 2 * 1), Int.fdiv_eq_ediv_of_nonneg _ (by decide : (0 : Int) ≤ 2 * 2)] at y1 ⊢ <;> omega
  exact ⟨k1.1, k1.2, k2.1, k2.2, o.c0, o.c1, o.cs, o.kd⟩
def oX (f : Fm) (x : Int) (i : Nat) : Nat := match f.cs[i]? with | some c => (x * c.ac).toNat | none => 0
def oY (f : Fm) (y : Int) (i : Nat) : Nat := match f.cs[i]? with | some c => (y * c.dn).toNat | none => 0
theorem oX_eq {f : Fm} {x : Int} {i : Nat} {c : Cm} (hc : f.cs[i]? = some c) (o : c.Ok) (x0 : 0 ≤ x) : ((oX f x i : Nat) : Int) = x * c.ac := by
  unfold oX; rw [hc]
  rcases o.a with q | q <;> simp only [q] <;> omega
theorem oY_eq {f : Fm} {y : Int} {i : Nat} {c : Cm} (hc : f.cs[i]? = some c) (o : c.Ok) (y0 : 0 ≤ y) : ((oY f y i : Nat) : Int) = y * c.dn := by
  unfold oY; rw [hc]
  rcases o.d with q | q <;> simp only [q] <;> omega
theorem PW_eq {f : Fm} (ok : f.Ok) {i : Nat} {c : Cm} (hc : f.cs[i]? = some c) : ((PW f i : Nat) : Int) = mcA f * c.ac := by
  have q1 := ok.mcA
  unfold PW; rw [hc]
  rcases (ok.cs c (List.mem_of_getElem? hc)).a with q | q <;> simp only [q] <;> omega
theorem PH_eq {f : Fm} (ok : f.Ok) {i : Nat} {c : Cm} (hc : f.cs[i]? = some c) : ((PH f i : Nat) : Int) = mcD f * c.dn := by
  have q1 := ok.mcD
  unfold PH; rw [hc]
  rcases (ok.cs c (List.mem_of_getElem? hc)).d with q | q <;> simp only [q] <;> omega
theorem in_crop {f : Fm} (o : f.Ok) {x y a d : Int} (x0 : 0 ≤ x) (x1 : x < mcA f) (y0 : 0 ≤ y) (y1 : y < mcD f) (a0 : 1 ≤ a) (d0 : 1 ≤ d) {i : Nat} {c : Cm} (hc : f.cs[i]? = some c) :
    oX f x i + PW (crop f x y a d) i ≤ PW f i ∧ oY f y i + PH (crop f x y a d) i ≤ PH f i := by
  have oc := o.cs c (List.mem_of_getElem? hc)
  have ok' := crop_ok o (d := d) (a := a) x0 x1 y0 y1 a0 d0
  have hc' : (crop f x y a d).cs[i]? = some c := hc
  have e1 := PW_eq o hc
  have e2 := PW_eq ok' hc'
  have e3 := PH_eq o hc
  have e4 := PH_eq ok' hc'
  have e5 := oX_eq hc oc x0
  have e6 := oY_eq hc oc y0
  rw [mcA_crop o x0 x1 a0] at e2
  rw [mcD_crop o y0 y1 d0] at e4
  constructor
  · have q := oc.a
    generalize c.ac = z at q e1 e2 e5
    rcases q with rfl | rfl <;> omega
  · have q := oc.d
    generalize c.dn = z at q e3 e4 e6
    rcases q with rfl | rfl <;> omega

/-- behind a put: the ledger anew -/
theorem after_put {b h h' : Heap} {L : Addr} {m : Str → Option Value} {its rest : List (Addr × Obj)} {f : Fm} {sk : Sk} {c : Nat → Nat → Nat → Option (List Int)} {i j k : Nat} {vs us : List Value} {ns : List Int} {e cc : Nat} {bb : Addr}
    (F : Fr b L h m) (N : News b L h (its ++ rest)) (hF : Fill (fun a o => (a, o) ∈ rest) f sk c) (hits : ∀ p ∈ its, ∀ q ∈ rest, p.1 ≠ q.1) (hi : i < f.cs.length) (hj : j < PH f i) (hk : k < PW f i)
    (hr : (sk.Rw i j, PySem.W.listOf vs.toArray e) ∈ rest) (hns : IntsAre us ns) (hul : us.length ≤ 1000)
    (st : Stay (hideAll h [sk.Rw i j]) h') (hb0 : h.get? bb = none) (hb : h'.get? bb = some (PySem.W.listOf us.toArray cc)) (hr' : h'.get? (sk.Rw i j) = some (PySem.W.listOf (vs.set k (.ref bb)).toArray e)) :
    ∃ rest', Fr b L h' m ∧ News b L h' (its ++ rest') ∧ Fill (fun a o => (a, o) ∈ rest') f sk (updC c i j k (some ns)) ∧ (∀ a o, (a, o) ∈ rest → a ≠ sk.Rw i j → (a, o) ∈ rest') ∧ (∀ p ∈ its, ∀ q ∈ rest', p.1 ≠ q.1) := by
  have hrm : (sk.Rw i j, PySem.W.listOf vs.toArray e) ∈ its ++ rest := List.mem_append_right _ hr
  have hs : ∀ a o, a ≠ sk.Rw i j → h.get? a = some o → h'.get? a = some o := fun a o hne q => st _ _ (hideAll_get _ q (by simpa using hne))
  have F' := fr_mut F N hs hrm
  have live' : ∀ p ∈ its ++ rest, p.1 ≠ bb := fun p hp z => by have := (N p hp).1; rw [z, hb0] at this; cases this
  have hfm : ∀ q : Addr × Obj, q ∈ rest.filter (fun q => decide (q.1 ≠ sk.Rw i j)) ↔ q ∈ rest ∧ q.1 ≠ sk.Rw i j := by
    intro q; rw [List.mem_filter]; simp only [decide_eq_true_eq]
  refine ⟨(sk.Rw i j, PySem.W.listOf (vs.set k (.ref bb)).toArray e) :: (bb, PySem.W.listOf us.toArray cc) :: rest.filter (fun q => decide (q.1 ≠ sk.Rw i j)), F', ?_, ?_, ?_, ?_⟩
  · intro p hp
    have hbb : bb ≠ L ∧ b.get? bb = none := by
      constructor
      · rintro rfl
        obtain ⟨oL, _, _, hoL, _⟩ := F.ns
        rw [hoL] at hb0; cases hb0
      · cases q : b.get? bb with
        | none => rfl
        | some o => have := F.keep _ _ q; rw [hb0] at this; cases this
    rcases List.mem_append.mp hp with hp | hp
    · have hne := hits p hp _ hr
      have z := N p (List.mem_append_left _ hp)
      exact ⟨hs _ _ hne z.1, z.2⟩
    rcases List.mem_cons.mp hp with rfl | hp
    · exact ⟨hr', (N _ hrm).2⟩
    rcases List.mem_cons.mp hp with rfl | hp
    · exact ⟨hb, hbb⟩
    · have z := (hfm p).mp hp
      have zz := N p (List.mem_append_right _ z.1)
      exact ⟨hs _ _ z.2 zz.1, zz.2⟩
  · refine hF.put (fun a o o' x y => ?_) hi hj hk hr (fun a o hne hm => .tail _ (.tail _ ((hfm _).mpr ⟨hm, hne⟩))) (.head _) ⟨us, cc, ⟨.tail _ (.head _), ?_⟩, hns, hul⟩
    · have x1 := (N _ (List.mem_append_right _ x)).1
      have y1 := (N _ (List.mem_append_right _ y)).1
      dsimp only at x1 y1
      rw [x1] at y1; exact Option.some.inj y1
    · rintro ⟨i', j', hi', hj', z⟩
      obtain ⟨vs', e', x, _⟩ := hF.rows i' j' hi' hj'
      exact live' _ (List.mem_append_right _ x) z.symm
  · intro a o hm hne
    exact .tail _ (.tail _ ((hfm _).mpr ⟨hm, hne⟩))
  · intro p hp q hq
    rcases List.mem_cons.mp hq with rfl | hq
    · exact hits p hp (sk.Rw i j, PySem.W.listOf vs.toArray e) hr
    rcases List.mem_cons.mp hq with rfl | hq
    · exact live' p (List.mem_append_left _ hp)
    · exact hits p hp q ((hfm q).mp hq).1
end Mine
end
-- Items
section
open PySem PySem.W PySem.Calls PyProof.Rows
namespace Mine
section
variable {prog : Program} {w : World} {A : Around} {E : Value → Shared → Prop} {s : Shared} {value slice : PySem.Expr} {l : Addr} {e : Nat} {u : Tok} {Q : Value → Shared → Prop}
theorem my_item0 {v : Value} {r : List Value} (hl : s.heap.get? l = some (PySem.W.listOf (v :: r).toArray e)) (h : Q v s)
    (hs : subscripted slice false (.ref l) (.int 0 u) = operate [.ref l, .int 0 u] (getItem (.ref l) (.int 0 u)) := by with_unfolding_all rfl) :
    wpAny (model prog w) A (subscriptTail value slice (.ref l) (.int 0 u)) Q E s :=
  my_item (i := 0) (vs := v :: r) hl (by omega) rfl h hs
theorem my_item1 {v v0 : Value} {r : List Value} (hl : s.heap.get? l = some (PySem.W.listOf (v0 :: v :: r).toArray e)) (h : Q v s)
    (hs : subscripted slice false (.ref l) (.int 1 u) = operate [.ref l, .int 1 u] (getItem (.ref l) (.int 1 u)) := by with_unfolding_all rfl) :
    wpAny (model prog w) A (subscriptTail value slice (.ref l) (.int 1 u)) Q E s :=
  my_item (i := 1) (vs := v0 :: v :: r) hl (by omega) rfl h hs
theorem store0 {v0 v : Value} {r : List Value} {t : Tok} {Q : Unit → Shared → Prop} (ho : s.heap.get? l = some (PySem.W.listOf (v0 :: r).toArray e))
    (hQ : ∀ h', Heap.SameBut l s.heap h' → h'.get? l = some (PySem.W.listOf (v :: r).toArray e) → Q () { s with heap := h' }) : wpAny (model prog w) A (setItem (.ref l) (.int 0 t) v) Q E s :=
  store_at (k := 0) (vs := v0 :: r) ho (by simp) (by decide) hQ
theorem store1 {v0 v1 v : Value} {r : List Value} {t : Tok} {Q : Unit → Shared → Prop} (ho : s.heap.get? l = some (PySem.W.listOf (v0 :: v1 :: r).toArray e))
    (hQ : ∀ h', Heap.SameBut l s.heap h' → h'.get? l = some (PySem.W.listOf (v0 :: v :: r).toArray e) → Q () { s with heap := h' }) : wpAny (model prog w) A (setItem (.ref l) (.int 1 t) v) Q E s :=
  store_at (k := 1) (vs := v0 :: v1 :: r) ho (by simp) (by decide) hQ
end
theorem my_lenI {prog : Program} {w : World} {A : Around} {E : Value → Shared → Prop} {s : Shared} {l : Addr} {vs : List Value} {n : Nat} {Q : Value → Shared → Prop} (hl : s.heap.IsList l vs.toArray) (hn : vs.length = n) (h3 : n < 1000)
    (h : Q (.int (n : Int) (s.toks + 1)) { s with toks := s.toks + 1 + 1 }) : wpAny (model prog w) A (call (.builtin "len") [.ref l]) Q E s := by
  refine Calls.call_len_list hl (by rw [List.size_toArray]; omega) ?_
  rw [List.size_toArray, hn]
  exact h
theorem news_pick {b h : Heap} {L : Addr} {news r : List (Addr × Obj)} {p : Addr × Obj} (N : News b L h news) (hm : p ∈ news) (sub : ∀ q ∈ r, q ∈ news) : News b L h (p :: r) := by
  intro q hq
  rcases List.mem_cons.mp hq with rfl | hq
  · exact N _ hm
  · exact N _ (sub q hq)
theorem none_of_base {h : Heap} {src a : Addr} (e : (hideAll h [src]).get? a = none) (n : a ≠ src) : h.get? a = none := by
  cases q : h.get? a with
  | none => rfl
  | some o => have := hideAll_get [src] q (by simpa using n); rw [e] at this; cases this
theorem allLt_mem {d : Addr} : ∀ {l : List (Addr × Obj)}, AllLt d l → ∀ p ∈ l, p.1 < d
  | [], _, _, h => nomatch h
  | _ :: _, x, p, h => by
    rcases List.mem_cons.mp h with rfl | h
    · exact x.1
    · exact allLt_mem x.2 p h
theorem Room.units64 {A : Around} {d : Nat} {env : Env} (r : Room A d) : (A.deeper env).units + 64 < cLine := by
  have := r.units
  rw [Around.deeper_units]
  have e : cLine = 9900 := rfl
  omega
end Mine
end
-- S9
section
open PySem PySem.W PySem.Calls PyProof.Rows
namespace Mine
theorem rs_S9 : True := by
  w_top off
  trivial

local macro_rules | `(tactic| k_inst) => `(tactic| first
  | (refine' inst_base ?F ?h1 ?h2; (case F => k_asm); (case h1 => assumption); (case h2 => assumption))
  | (refine' InstAt.of_news ?N ?h1 ?h2; (case N => k_asm); (case h1 => assumption); (case h2 => assumption)))
local macro_rules | `(tactic| walk_at "binaryOp FloorDiv int int") => `(tactic| ((with_reducible refine floordiv_int ?kb ?_ (Or.inl (PyProof.noPylong_small ?kp))); (case kb => omega); (case kp => omega)))
local macro_rules | `(tactic| walk_at "binaryOp Mult int int") => `(tactic| ((with_reducible refine mul_int ?_ (mulok_r ?k1 ?k2)); (case k1 => omega); (case k2 => omega)))
local macro_rules | `(tactic| ktr_unf) => `(tactic| repeat' (first
  | (k_unfold; (try dsimp only))
  | (with_reducible refine wpAny_execs_cons ?_)
  | ((fail_if_success (with_reducible show wpAny _ _ (exec (Stmt.For _ _ _ _ _) _) _ _ _)); (fail_if_success (with_reducible show wpAny _ _ (eval (Expr.ListComp _ _ _ _) _) _ _ _)); (fail_if_success (with_reducible show wpAny _ _ (pyIter _) _ _ _)); (fail_if_success (with_reducible show wpAny _ _ (call (Value.type "range") _) _ _ _)); (fail_if_success (with_reducible show wpAny _ _ (call (Value.builtin "list.append") _) _ _ _)); (fail_if_success (with_reducible show wpAny _ _ (setItem _ _ _) _ _ _)); (fail_if_success (with_reducible show wpAny _ _ (call (Value.type "list") _) _ _ _)); (fail_if_success (with_reducible show wpAny _ _ (call (Value.ref 159) _) _ _ _)); (fail_if_success (with_reducible show wpAny _ _ (call (Value.ref 166) _) _ _ _)); first | walk1 | (dsimp only; walk1))
  | fail "no step"))
local macro_rules | `(tactic| walk_at "subscriptTail Attribute Name Name ref int") => `(tactic| ((with_reducible show wpAny _ _ (subscriptTail _ _ (Value.ref _) (Value.int _ _)) _ _ _); (refine' my_item ?kl ?kh ?kx ?_ ?ks); (case kl => first | exact Fr.keep (by assumption) _ _ (by assumption) | exact (News.get (by assumption) (by k_mem))); (case kx => assumption); (case kh => omega); (case ks => with_unfolding_all rfl)))
local macro_rules | `(tactic| walk_at "subscriptTail Subscript Attribute Name Name ref int") => `(tactic| ((with_reducible show wpAny _ _ (subscriptTail _ _ (Value.ref _) (Value.int _ _)) _ _ _); (refine' my_item ?kl ?kh ?kx ?_ ?ks); (case kl => first | exact Fr.keep (by assumption) _ _ (by assumption) | exact (News.get (by assumption) (by k_mem))); (case kx => assumption); (case kh => omega); (case ks => with_unfolding_all rfl)))
local macro_rules | `(tactic| walk_at "subscriptTail Subscript Subscript Name Name ref int") => `(tactic| ((with_reducible show wpAny _ _ (subscriptTail _ _ (Value.ref _) (Value.int _ _)) _ _ _); (refine' my_item ?kl ?kh ?kx ?_ ?ks); (case kl => first | exact Fr.keep (by assumption) _ _ (by assumption) | exact (News.get (by assumption) (by k_mem))); (case kx => assumption); (case kh => omega); (case ks => with_unfolding_all rfl)))
local macro_rules | `(tactic| walk_at "subscriptTail") => `(tactic| ((with_reducible show wpAny _ _ (subscriptTail _ _ (Value.ref _) (Value.int _ _)) _ _ _); (refine' my_item ?kl ?kh ?kx ?_ ?ks); (case kl => first | exact Fr.keep (by assumption) _ _ (by assumption) | exact (News.get (by assumption) (by k_mem))); (case kx => assumption); (case kh => omega); (case ks => with_unfolding_all rfl)))
local macro_rules | `(tactic| walk_at "call builtin:len") => `(tactic| ((with_reducible show wpAny _ _ (call (Value.builtin "len") [Value.ref _]) _ _ _); (refine' my_len ?kl ?kn ?kh ?_); (case kl => first | exact Fr.keep (by assumption) _ _ (by assumption) | exact (News.get (by assumption) (by k_mem))); (case kn => assumption); (case kh => omega)))
local macro_rules | `(tactic| k_mem) => `(tactic| assumption)
local macro_rules | `(tactic| walk_at "call ref") => `(tactic| ((rename Fr _ _ _ _ => kF9); (rename News _ _ _ _ => kN9); (refine call_of_code ?_); (refine' cropf_spec (Frag.In.keeps (by assumption) (Fr.keep kF9)) (TopRead.keeps (by assumption) (Fr.keep kF9)) (Room.deeper (Room.le (by assumption) (by decide)) _) ?hf ?ok ?x0 ?x1 ?y0 ?y1 ?a0 ?a1 ?d0 ?d1 ?_); (case hf => first | exact FrameAt.mono (by assumption) (fun _ _ e => Fr.keep kF9 _ _ e) | exact FrameAt.mono (by assumption) (fun _ _ e => (kN9 (_, _) (by k_mem)).1) | exact FrameAt.mono (by assumption) (fun _ _ e => (kN9 (_, _) (List.mem_append_right _ (mem_madeList.mpr e))).1)); (case ok => assumption); (case x0 => first | assumption | omega); (case x1 => first | assumption | omega); (case y0 => first | assumption | omega); (case y1 => first | assumption | omega); (case a0 => first | assumption | omega); (case a1 => first | assumption | omega); (case d0 => first | assumption | omega); (case d1 => first | assumption | omega); intro h' tk' lx' st' hl'; (have kF' := fr_stay kF9 st'); (have kN' := news_made kF9 kN9 st'); (have sb' := Fr.keep kF9); (try clear kF9); (try clear kN9); (try dsimp only)))
local macro_rules | `(tactic| walk_at "call ref") => `(tactic| ((rename Fr _ _ _ _ => kF9); (rename News _ _ _ _ => kN9); (refine call_of_code ?_); (refine' grid_new (Frag.In.keeps (by assumption) (Fr.keep kF9)) (TopRead.keeps (by assumption) (Fr.keep kF9)) (Room.deeper (Room.le (by assumption) (by decide)) _) ?hf ?ok ?_); (case hf => first | exact FrameAt.mono (by assumption) (fun _ _ e => Fr.keep kF9 _ _ e) | exact FrameAt.mono (by assumption) (fun _ _ e => (kN9 (_, _) (by k_mem)).1) | exact FrameAt.mono (by assumption) (fun _ _ e => (kN9 (_, _) (List.mem_append_right _ (mem_madeList.mpr e))).1)); (case ok => assumption); intro h' tk' sk' st' fl'; (have kF' := fr_stay kF9 st'); (have kN' := news_made kF9 kN9 st'); (have nb' := fun q hq => (kN9 q hq).1); (try clear kF9); (try clear kN9); (try dsimp only)))
local macro_rules | `(tactic| walk_at "call ref") => `(tactic| ((rename Fr _ _ _ _ => kF9); (rename News _ _ _ _ => kN9); (refine call_of_code ?_); (refine' padded_spec (Frag.In.keeps (by assumption) (Fr.keep kF9)) (TopRead.keeps (by assumption) (Fr.keep kF9)) (Room.deeper (Room.le (by assumption) (by decide)) _) ?hf ?ok ?hc ?_); (case hf => first | exact FrameAt.mono (by assumption) (fun _ _ e => Fr.keep kF9 _ _ e) | exact FrameAt.mono (by assumption) (fun _ _ e => (kN9 (_, _) (by k_mem)).1) | exact FrameAt.mono (by assumption) (fun _ _ e => (kN9 (_, _) (List.mem_append_right _ (mem_madeList.mpr e))).1)); (case ok => assumption); (case hc => assumption); intro h' tk' a' t' t2' st' fr' up'; (have kF' := fr_stay kF9 st'); (have kN' := news_cons kF9 kN9 st' fr' up'); (try clear kF9); (try clear kN9); (try dsimp only)))
section
variable {prog : Program} {w : World} {A : Around} {s : Shared} {R : Result → Shared → Prop} {p : Program} {loose : List Str} {mg mb : Str → Option Value}
theorem get_int {f : Fm} {sk : Sk} {i j k : Nat} {zi zj zk : Int} {vs : List Value} {e : Nat} {b : Addr} {ti tj tk : Tok} (X : (hd.heap_39 w.params).In s.heap) (T : TopRead p loose mg mb s.heap) (rm : Room A 1) (ok : f.Ok)
    (ei : zi = (i : Int)) (ek : zk = (k : Int)) (ej : zj = (j : Int))
    (hs : SkelAt (live s.heap) f sk) (hi : i < f.cs.length) (hj : j < PH f i) (hk : k < PW f i) (hr : s.heap.get? (sk.Rw i j) = some (PySem.W.listOf vs.toArray e)) (hv : vs[k]? = some (.ref b))
    (h : ∀ h' tk, Stay s.heap h' → R (.ok (.ret (.ref b))) { s with heap := h', toks := tk }) :
    codeAny (model prog w) A (.call (.ref 159) ⟨[.ref sk.x, .int zi ti, .int zk tk, .int zj tj], []⟩) R s := by
  subst ei ej ek
  exact get_spec X T rm ok hs hi hj hk hr hv h
set_option maxHeartbeats 1000000 in
theorem cropg_spec {fx gx : Addr} {f : Fm} {cell : Nat → Nat → Nat → List Int} {cx cy ca cd : Int} {tx ty ta td : Tok} (X : (hd.heap_39 w.params).In s.heap) (T : TopRead p loose mg mb s.heap) (rm : Room A 9) (hf : FrameAt (live s.heap) fx f) (ok : f.Ok)
    (hg : GridAt (live s.heap) gx f cell)
    (x0 : 0 ≤ cx) (x1 : cx < mcA f) (y0 : 0 ≤ cy) (y1 : cy < mcD f) (a0 : 1 ≤ ca) (a1 : ca < 1000) (d0 : 1 ≤ cd) (d1 : cd < 1000)
    (h : ∀ h' tk a lx gx', Stay s.heap h' → made s.heap h' a (tupOf [.ref lx, .ref gx']) → FrameAt (made s.heap h') lx (crop f cx cy ca cd) →
      GridAt (made s.heap h') gx' (crop f cx cy ca cd) (fun i j k => cell i (oY f cy i + j) (oX f cx i + k)) → R (.ok (.ret (.ref a))) { s with heap := h', toks := tk }) :
    codeAny (model prog w) A (.call (.ref 201) ⟨[.ref gx, .ref fx, .int cx tx, .int cy ty, .int ca ta, .int cd td], []⟩) R s := by
  obtain ⟨dx, h1, t1, u1, h2, t2, u2, h3, t3, u3, h4, t4, u4, h5, t5, h6, t6, u6, l, vs, e, hx, hdx, hl, hcs⟩ := id hf
  have q1 : 1 ≤ mxA f.cs := by rcases ok.mA with q | q <;> omega
  have q2 : mxA f.cs ≤ 2 := by rcases ok.mA with q | q <;> omega
  have q3 : 1 ≤ mxD f.cs := by rcases ok.mD with q | q <;> omega
  have q4 : mxD f.cs ≤ 2 := by rcases ok.mD with q | q <;> omega
  have ok' := crop_ok ok (a := ca) (d := cd) x0 x1 y0 y1 a0 d0
  have hlen := hcs.1
  have b1 := ok.c1
  have b2 := ok.mcA
  have b3 := ok.mcD
  obtain ⟨ah, ad, af, ag, au⟩ := A
  obtain rfl : ah = none := rm.handled
  refine' call_B (news := []) [(Str.ofString "grid", .ref gx), (Str.ofString "frame", .ref fx), (Str.ofString "x", .int cx tx), (Str.ofString "y", .int cy ty), (Str.ofString "across", .int ca ta), (Str.ofString "down", .int cd td)] (Stay.refl _) (Nat.le_refl _) ?hn ?X ?lim ?ho ?hcd ?room ?bind ?loc ?_ ?c2 ?c3 ?c4 ?c5
  case X => exact X
  case ho => k_is
  case hcd => k_is
  case lim => exact (T).nolimit
  case room => exact rm.lim
  case bind => exact BindsTo.of_eq rfl
  case loc => exact locs rfl
  case hn => intro q hq; cases hq
  case c2 => rfl
  case c3 => rfl
  case c4 => rfl
  case c5 => decide
  intro h₁ F N; (try dsimp only); k_fold
  ktr_unf
  rename_i hA tkA lx stA flA sbA hB hC tkC sk stC fillC nbC hD F2 N2
  have hfr : FrameAt (notRow (fun a o => (a, o) ∈ madeList h₁ hA ++ madeList hB hC) (crop f cx cy ca cd) sk) lx (crop f cx cy ca cd) := by
    refine flA.mono fun a o y => ⟨List.mem_append_left _ (mem_madeList.mpr y), ?_⟩
    rintro ⟨i, j, hi, hj, z⟩
    obtain ⟨vs', e', q, _⟩ := fillC.rows i j hi hj
    have q1 := q.2
    have q2 := nbC (a, o) (by simpa using mem_madeList.mpr y)
    dsimp only at q1 q2
    rw [← z, q2] at q1; cases q1
  have hfill : Fill (fun a o => (a, o) ∈ madeList h₁ hA ++ madeList hB hC) (crop f cx cy ca cd) sk (fun _ _ _ => none) := fillC.mono fun a o y => List.mem_append_right _ (mem_madeList.mpr y)
  rw [List.nil_append] at N2
  generalize madeList h₁ hA ++ madeList hB hC = rest0 at N2 hfr hfill
  clear fillC flA stA stC nbC
  obtain ⟨skg, rfl, hskg, hrowg⟩ := hg
  (try k_unmd); (try k_fold)
  refine For_invV s.heap rfl rfl ?_ (by intro _; rfl) (by passes_own)
  ktr_unf
  refine' loop_range (fun i m nz => Knows m [(Str.ofString "grid", .ref skg.x), (Str.ofString "frame", .ref fx), (Str.ofString "x", .int cx tx), (Str.ofString "y", .int cy ty), (Str.ofString "later", .ref lx), (Str.ofString "found", .ref sk.x)] ∧
      FrameAt (notRow (fun a o => (a, o) ∈ nz) (crop f cx cy ca cd) sk) lx (crop f cx cy ca cd) ∧ ∃ c, Fill (fun a o => (a, o) ∈ nz) (crop f cx cy ca cd) sk c ∧
      ∀ i' j' k', i' < i → i' < f.cs.length → j' < PH (crop f cx cy ca cd) i' → k' < PW (crop f cx cy ca cd) i' → c i' j' k' = some (cell i' (oY f cy i' + j') (oX f cx i' + k'))) rfl ?r0 ?r1 ?F ?N ?h0 ?turn ?done
  case r0 => omega
  case r1 => omega
  case F => exact F2
  case N => exact N2
  case h0 => exact ⟨⟨rfl, rfl, rfl, rfl, rfl, rfl, trivial⟩, hfr, _, hfill, fun i' j' k' hi => absurd hi (Nat.not_lt_zero _)⟩
  case turn =>
    intro i t m₁ rest h3 tk I0 io0 hi ⟨hk, hfr0, c0, hfill0, hdone0⟩ ha F₁ N₁
    have F3 := fr_turn F₁ _ hk rfl
    clear F₁
    have hi' : i < f.cs.length := by omega
    have hc : f.cs[i]? = some f.cs[i] := by simp [hi']
    generalize f.cs[i] = c at hc
    have hc' : (crop f cx cy ca cd).cs[i]? = some c := hc
    obtain ⟨ca1, hv, hca⟩ := hcs.2 i c hc
    obtain ⟨da, i1, j1, k1, i2, j2, k2, i3, j3, k3, i4, j4, k4, hax, hda⟩ := id hca
    have hi3 : i < 3 := by omega
    have okc := ok.cs c (List.mem_of_getElem? hc)
    have q5 : 1 ≤ c.ac := by rcases okc.a with q | q <;> omega
    have q6 : c.ac ≤ 2 := by rcases okc.a with q | q <;> omega
    have q7 : 1 ≤ c.dn := by rcases okc.d with q | q <;> omega
    have q8 : c.dn ≤ 2 := by rcases okc.d with q | q <;> omega
    have hPW := PW_eq ok' hc'
    have hPH := PH_eq ok' hc'
    have hPWl := PW_le ok' i
    have hPHl := PH_le ok' i
    have hoX := oX_eq hc okc x0
    have hoY := oY_eq hc okc y0
    obtain ⟨hinX, hinY⟩ := in_crop ok x0 x1 y0 y1 a0 d0 hc
    have hfrm : FrameAt (fun a o => (a, o) ∈ rest) lx (crop f cx cy ca cd) := hfr0.mono fun a o y => y.1
    obtain ⟨ldx, lh1, lt1, lu1, lh2, lt2, lu2, lh3, lt3, lu3, lh4, lt4, lu4, lh5, lt5, lh6, lt6, lu6, ll, lvs, le, hlx, hldx, _, _⟩ := id hfrm
    (try k_fold)
    ktr_unf
    rename Fr _ _ _ _ => F5
    rename News _ _ _ _ => N5
    have N6 : News s.heap s.heap.objs.size _ ((I0, io0) :: rest) := fun q hq => N5 q (.tail _ (.tail _ hq))
    clear N5
    (try k_unmd); (try k_fold)
    refine For_invV s.heap rfl rfl ?_ (by intro _; rfl) (by passes_own)
    ktr_unf
    refine' loop_range (fun j m nz => ∃ rest tl tt tw c1, nz = (I0, io0) :: rest ∧ (∀ q ∈ rest, q.1 ≠ I0) ∧
      Knows m [(Str.ofString "grid", .ref skg.x), (Str.ofString "frame", .ref fx), (Str.ofString "x", .int cx tx), (Str.ofString "y", .int cy ty), (Str.ofString "later", .ref lx), (Str.ofString "found", .ref sk.x), (Str.ofString "place", .int (i : Int) t), (Str.ofString "left", .int (cx * c.ac) tl), (Str.ofString "top", .int (cy * c.dn) tt), (Str.ofString "wide", .int (mcA (crop f cx cy ca cd) * c.ac) tw)] ∧
      FrameAt (notRow (fun a o => (a, o) ∈ rest) (crop f cx cy ca cd) sk) lx (crop f cx cy ca cd) ∧ Fill (fun a o => (a, o) ∈ rest) (crop f cx cy ca cd) sk c1 ∧
      (∀ i' j' k', i' < i → i' < f.cs.length → j' < PH (crop f cx cy ca cd) i' → k' < PW (crop f cx cy ca cd) i' → c1 i' j' k' = some (cell i' (oY f cy i' + j') (oX f cx i' + k'))) ∧
      (∀ j' k', j' < j → k' < PW (crop f cx cy ca cd) i → c1 i j' k' = some (cell i (oY f cy i + j') (oX f cx i + k')))) rfl ?r2 ?r3 ?F1 ?N1 ?h01 ?turn1 ?done1
    case r2 => omega
    case r3 => omega
    case F1 => exact F5
    case N1 => exact N6
    case h01 => exact ⟨rest, _, _, _, c0, rfl, ha, ⟨rfl, rfl, rfl, rfl, rfl, rfl, rfl, rfl, rfl, rfl, trivial⟩, hfr0, hfill0, hdone0, fun j' k' hj => absurd hj (Nat.not_lt_zero _)⟩
    case turn1 =>
      clear F5 N6 hfr0 hfill0 hdone0 hfrm hlx hldx hk ha
      rintro j tj m2 nz2 h4 tk4 I1 io1 hj ⟨rest, tl, tt, tw, c1, rfl, ha, hk, hfr1, hfill1, hdone1, hrow1⟩ ha1 F₁ N₁
      have F3 := fr_turn F₁ _ hk rfl
      clear F₁
      (try k_unmd); (try k_fold)
      ktr_unf
      (try k_unmd); (try k_fold)
      refine For_invV s.heap rfl rfl ?_ (by intro _; rfl) (by passes_own)
      ktr_unf
      refine' loop_range (fun k m nz => ∃ rest tl tt tw tr c2, nz = (I1, io1) :: (I0, io0) :: rest ∧ (∀ q ∈ rest, q.1 ≠ I0 ∧ q.1 ≠ I1) ∧ 
        Knows m [(Str.ofString "grid", .ref skg.x), (Str.ofString "frame", .ref fx), (Str.ofString "x", .int cx tx), (Str.ofString "y", .int cy ty), (Str.ofString "later", .ref lx), (Str.ofString "found", .ref sk.x), (Str.ofString "place", .int (i : Int) t), (Str.ofString "left", .int (cx * c.ac) tl), (Str.ofString "top", .int (cy * c.dn) tt), (Str.ofString "wide", .int (mcA (crop f cx cy ca cd) * c.ac) tw), (Str.ofString "row", .int (j : Int) tr)] ∧
        FrameAt (notRow (fun a o => (a, o) ∈ rest) (crop f cx cy ca cd) sk) lx (crop f cx cy ca cd) ∧ Fill (fun a o => (a, o) ∈ rest) (crop f cx cy ca cd) sk c2 ∧
        (∀ i' j' k', i' < i → i' < f.cs.length → j' < PH (crop f cx cy ca cd) i' → k' < PW (crop f cx cy ca cd) i' → c2 i' j' k' = some (cell i' (oY f cy i' + j') (oX f cx i' + k'))) ∧
        (∀ j' k', j' < j → k' < PW (crop f cx cy ca cd) i → c2 i j' k' = some (cell i (oY f cy i + j') (oX f cx i + k'))) ∧
        (∀ k', k' < k → c2 i j k' = some (cell i (oY f cy i + j) (oX f cx i + k')))) rfl ?r4 ?r5 ?F2 ?N2 ?h02 ?turn2 ?done2
      case r4 => omega
      case r5 => omega
      case F2 => exact F3
      case N2 => exact N₁
      case h02 => exact ⟨rest, _, _, _, _, c1, rfl, fun q hq => ⟨ha q hq, ha1 q (.tail _ hq)⟩, ⟨rfl, rfl, rfl, rfl, rfl, rfl, rfl, rfl, rfl, rfl, rfl, trivial⟩, hfr1, hfill1, hdone1, hrow1, fun k' hk' => absurd hk' (Nat.not_lt_zero _)⟩
      case turn2 =>
        clear F3 N₁ hfr1 hfill1 hdone1 hk ha hrow1
        rintro k tc m3 nz3 h5 tk5 I2 io2 hkk ⟨rest, tl, tt, tw, tr, c2, rfl, ha, hk, hfr2, hfill2, hdone2, hrow2, hcol2⟩ ha2 F₁ N₁
        have F3 := fr_turn F₁ _ hk rfl
        clear F₁
        have hj' : j < PH (crop f cx cy ca cd) i := by omega
        have hk' : k < PW (crop f cx cy ca cd) i := by omega
        obtain ⟨fh1, ft1, fu1, fh2, ft2, fo1, fo2⟩ := (hfill2.skel.mono (M' := fun a o => (a, o) ∈ rest) fun a o y => y.1).1
        obtain ⟨gh1, gt1, gu1, gh2, gt2, go1, go2⟩ := hskg.1
        obtain ⟨gvs, ge, grow, gvl, gcell⟩ := hrowg i (oY f cy i + j) hi' (by omega)
        obtain ⟨gv, gv1, gb, rfl, us, ue, hgb, hus, hul⟩ := gcell (oX f cx i + k) (by omega)
        obtain ⟨rvs, re, hrrow, rvl, _⟩ := hfill2.rows i j hi' hj'
        (try k_unmd); (try k_fold)
        ktr_unf
        refine call_of_code ?_
        refine get_int (f := f) (sk := skg) (i := i) (j := oY f cy i + j) (k := oX f cx i + k) (X.keeps F3.keep) (T.keeps F3.keep) ((rm.le (by decide)).deeper _) ok rfl (by push_cast; omega) (by push_cast; omega) (hskg.mono fun a o y => F3.keep _ _ y) hi' (by omega) (by omega) (F3.keep _ _ grow) gv1 ?_
        intro h6 tk6 st6
        have F4 := fr_stay F3 st6
        have N4 := news_stay N₁ st6
        clear F3 N₁
        ktr_unf
        refine list_copyK F4 N4 (items := us.toArray) ⟨_, F4.keep _ _ hgb, rfl, _, rfl⟩ (fun D cD h7 F7 N7 lt7 => ?_) (by rw [sizeLine_eq]; simp; omega)
        clear F4 N4
        ktr_unf
        have hrm : (sk.Rw i j, PySem.W.listOf rvs.toArray re) ∈ (D, PySem.W.listOf us.toArray cD) :: (I2, io2) :: (I1, io1) :: (I0, io0) :: rest := .tail _ (.tail _ (.tail _ (.tail _ hrrow)))
        have hst7 : Stay s.heap (hideAll h7 [sk.Rw i j]) := fun a o e => hideAll_get _ (F7.keep _ _ e) (by
          intro hm
          rw [List.mem_singleton] at hm
          have := (N7 _ hrm).2.2
          dsimp only at this
          rw [← hm, e] at this; cases this)
        have hDr : D ≠ sk.Rw i j := Ne.symm (Nat.ne_of_lt (lt7 _ (.tail _ (.tail _ (.tail _ hrrow)))))
        refine call_of_code ?_
        refine put_spec (f := crop f cx cy ca cd) (sk := sk) (i := i) (j := j) (k := k) (vs := rvs) (us := us) (X.keeps hst7) (T.keeps hst7) ((rm.le (by decide)).deeper _) ok' ?_ hi' hj' hk' (N7 _ hrm).1 rvl (hideAll_get _ (N7 _ (.head _)).1 (by simpa using hDr)) hul ?_
        · refine hfill2.skel.mono fun a o y => hideAll_get _ (N7 (a, o) (.tail _ (.tail _ (.tail _ (.tail _ y.1))))).1 ?_
          intro hm
          rw [List.mem_singleton] at hm
          exact y.2 ⟨i, j, hi', hj', hm⟩
        intro h8 tk8 bb cc st8 hb0 hb hr8
        have hits : ∀ p ∈ [(D, PySem.W.listOf us.toArray cD), (I2, io2), (I1, io1), (I0, io0)], ∀ q ∈ rest, p.1 ≠ q.1 := by
          intro p hp q hq
          rcases List.mem_cons.mp hp with rfl | hp
          · exact Ne.symm (Nat.ne_of_lt (lt7 q (.tail _ (.tail _ (.tail _ hq)))))
          rcases List.mem_cons.mp hp with rfl | hp
          · exact Ne.symm (ha2 q (.tail _ (.tail _ hq)))
          rcases List.mem_cons.mp hp with rfl | hp
          · exact Ne.symm (ha q hq).2
          · rw [List.mem_singleton] at hp; subst hp; exact Ne.symm (ha q hq).1
        obtain ⟨rest', F8, N8, hfill8, hsub8, hits8⟩ := after_put (its := [(D, PySem.W.listOf us.toArray cD), (I2, io2), (I1, io1), (I0, io0)]) F7 N7 hfill2 hits hi' hj' hk' hrrow hus hul st8 hb0 hb hr8
        clear F7 N7
        ktr_unf
        refine ⟨h8, _, _, (I1, io1) :: (I0, io0) :: rest', rfl, F8, fun q hq => N8 q (.tail _ hq), ?_, rest', tl, tt, tw, tr, _, rfl, ?_, ⟨rfl, rfl, rfl, rfl, rfl, rfl, rfl, rfl, rfl, rfl, rfl, trivial⟩, ?_, hfill8, ?_, ?_, ?_⟩
        · intro q hq
          rcases List.mem_cons.mp hq with rfl | hq
          · exact ha2 (I1, io1) (.head _)
          rcases List.mem_cons.mp hq with rfl | hq
          · exact ha2 (I0, io0) (.tail _ (.head _))
          · exact Ne.symm (hits8 (I2, io2) (.tail _ (.head _)) q hq)
        · intro q hq
          exact ⟨Ne.symm (hits8 (I0, io0) (.tail _ (.tail _ (.tail _ (.head _)))) q hq), Ne.symm (hits8 (I1, io1) (.tail _ (.tail _ (.head _))) q hq)⟩
        · exact hfr2.mono fun a o y => ⟨hsub8 a o y.1 (fun z => y.2 ⟨i, j, hi', hj', z⟩), y.2⟩
        · intro i' j' k' a1 a2 a3 a4
          unfold updC
          rw [if_neg (by omega)]
          exact hdone2 i' j' k' a1 a2 a3 a4
        · intro j' k' a1 a2
          unfold updC
          rw [if_neg (by omega)]
          exact hrow2 j' k' a1 a2
        · intro k' a1
          unfold updC
          by_cases hkk' : k' = k
          · subst hkk'; rw [if_pos ⟨rfl, rfl, rfl⟩]
          · rw [if_neg (by omega)]
            exact hcol2 k' (by omega)
      case done2 =>
        rintro m3 nz3 h5 tk5 ⟨rest, tl, tt, tw, tr, c2, rfl, ha, ⟨e1, e2, e3, e4, e5, e6, e7, e8, e9, e10, e11, _⟩, hfr2, hfill2, hdone2, hrow2, hcol2⟩ F₁ N₁
        ktr_unf
        refine ⟨h5, _, _, (I0, io0) :: rest, rfl, F₁, N₁, ?_, rest, tl, tt, tw, c2, rfl, fun q hq => (ha q hq).1, ⟨e1, e2, e3, e4, e5, e6, e7, e8, e9, e10, trivial⟩, hfr2, hfill2, hdone2, ?_⟩
        · intro q hq
          rcases List.mem_cons.mp hq with rfl | hq
          · exact ha1 (I0, io0) (.head _)
          · exact (ha q hq).2
        · intro j' k' a1 a2
          by_cases hjj : j' = j
          · subst hjj; exact hcol2 k' (by omega)
          · exact hrow2 j' k' (by omega) a2
    case done1 =>
      rintro m3 nz3 h5 tk5 ⟨rest, tl, tt, tw, c2, rfl, ha, ⟨e1, e2, e3, e4, e5, e6, e7, e8, e9, e10, _⟩, hfr2, hfill2, hdone2, hrow2⟩ F₁ N₁
      ktr_unf
      refine ⟨h5, _, _, rest, rfl, F₁, N₁, ha, ⟨e1, e2, e3, e4, e5, e6, trivial⟩, hfr2, c2, hfill2, ?_⟩
      intro i' j' k' a1 a2 a3 a4
      by_cases hii : i' = i
      · subst hii; exact hrow2 j' k' (by omega) a4
      · exact hdone2 i' j' k' (by omega) a2 a3 a4
  case done =>
    rintro m₁ rest h3 tk ⟨hk, hfr0, c0, hfill0, hdone0⟩ F₁ N₁
    have F3 := fr_kn F₁ _ hk
    clear F₁
    ktr_unf
    rename Fr _ _ _ _ => F5
    rename News _ _ _ _ => N5
    refine h _ _ _ lx sk.x F5.keep ⟨(N5 _ (.head _)).1, (N5 _ (.head _)).2.2⟩ (hfr0.mono fun a o y => ⟨(N5 (a, o) (.tail _ y.1)).1, (N5 (a, o) (.tail _ y.1)).2.2⟩) ?_
    exact (hfill0.grid fun i' j' k' a1 a2 a3 => hdone0 i' j' k' (by rw [Int.toNat_natCast]; exact a1) a1 a2 a3).mono fun a o y => ⟨(N5 (a, o) (.tail _ y)).1, (N5 (a, o) (.tail _ y)).2.2⟩
end
end Mine
end
-- S10
section
open PySem PySem.W PySem.Calls PyProof.Rows
namespace Mine
theorem rs_S10 : True := by
  w_top off
  trivial

local macro_rules | `(tactic| k_inst) => `(tactic| first
  | (refine' inst_base ?F ?h1 ?h2; (case F => k_asm); (case h1 => assumption); (case h2 => assumption))
  | (refine' InstAt.of_news ?N ?h1 ?h2; (case N => k_asm); (case h1 => assumption); (case h2 => assumption)))
local macro_rules | `(tactic| walk_at "binaryOp FloorDiv int int") => `(tactic| ((with_reducible refine floordiv_int ?kb ?_ (Or.inl (PyProof.noPylong_small ?kp))); (case kb => omega); (case kp => omega)))
local macro_rules | `(tactic| walk_at "binaryOp Mult int int") => `(tactic| ((with_reducible refine mul_int ?_ (mulok_r ?k1 ?k2)); (case k1 => omega); (case k2 => omega)))
local macro_rules | `(tactic| ktr_unf) => `(tactic| repeat' (first
  | (k_unfold; (try dsimp only))
  | (with_reducible refine wpAny_execs_cons ?_)
  | ((fail_if_success (with_reducible show wpAny _ _ (exec (Stmt.For _ _ _ _ _) _) _ _ _)); (fail_if_success (with_reducible show wpAny _ _ (eval (Expr.ListComp _ _ _ _) _) _ _ _)); (fail_if_success (with_reducible show wpAny _ _ (pyIter _) _ _ _)); (fail_if_success (with_reducible show wpAny _ _ (call (Value.type "range") _) _ _ _)); (fail_if_success (with_reducible show wpAny _ _ (call (Value.builtin "list.append") _) _ _ _)); (fail_if_success (with_reducible show wpAny _ _ (setItem _ _ _) _ _ _)); (fail_if_success (with_reducible show wpAny _ _ (call (Value.type "list") _) _ _ _)); first | walk1 | (dsimp only; walk1))
  | fail "no step"))
local macro_rules | `(tactic| walk_at "subscriptTail Attribute Name Name ref int") => `(tactic| ((with_reducible show wpAny _ _ (subscriptTail _ _ (Value.ref _) (Value.int _ _)) _ _ _); (refine' my_item ?kl ?kh ?kx ?_ ?ks); (case kl => first | exact Fr.keep (by assumption) _ _ (by assumption) | exact (News.get (by assumption) (by k_mem))); (case kx => assumption); (case kh => omega); (case ks => with_unfolding_all rfl)))
local macro_rules | `(tactic| walk_at "subscriptTail Subscript Attribute Name Name ref int") => `(tactic| ((with_reducible show wpAny _ _ (subscriptTail _ _ (Value.ref _) (Value.int _ _)) _ _ _); (refine' my_item ?kl ?kh ?kx ?_ ?ks); (case kl => first | exact Fr.keep (by assumption) _ _ (by assumption) | exact (News.get (by assumption) (by k_mem))); (case kx => assumption); (case kh => omega); (case ks => with_unfolding_all rfl)))
local macro_rules | `(tactic| walk_at "subscriptTail Subscript Subscript Name Name ref int") => `(tactic| ((with_reducible show wpAny _ _ (subscriptTail _ _ (Value.ref _) (Value.int _ _)) _ _ _); (refine' my_item ?kl ?kh ?kx ?_ ?ks); (case kl => first | exact Fr.keep (by assumption) _ _ (by assumption) | exact (News.get (by assumption) (by k_mem))); (case kx => assumption); (case kh => omega); (case ks => with_unfolding_all rfl)))
local macro_rules | `(tactic| walk_at "subscriptTail") => `(tactic| ((with_reducible show wpAny _ _ (subscriptTail _ _ (Value.ref _) (Value.int _ _)) _ _ _); (refine' my_item ?kl ?kh ?kx ?_ ?ks); (case kl => first | exact Fr.keep (by assumption) _ _ (by assumption) | exact (News.get (by assumption) (by k_mem))); (case kx => assumption); (case kh => omega); (case ks => with_unfolding_all rfl)))
local macro_rules | `(tactic| walk_at "subscriptTail Name Constant ref int") => `(tactic| ((with_reducible show wpAny _ _ (subscriptTail _ _ (Value.ref _) (Value.int 0 _)) _ _ _); k_dflt (refine' my_item0 ?kl ?_ ?ks; (case kl => exact (News.get (by with_reducible assumption) (by k_mem))); (case ks => with_unfolding_all rfl))))
local macro_rules | `(tactic| walk_at "subscriptTail Name Constant ref int") => `(tactic| ((with_reducible show wpAny _ _ (subscriptTail _ _ (Value.ref _) (Value.int 1 _)) _ _ _); k_dflt (refine' my_item1 ?kl ?_ ?ks; (case kl => exact (News.get (by with_reducible assumption) (by k_mem))); (case ks => with_unfolding_all rfl))))
local macro_rules | `(tactic| k_mem) => `(tactic| assumption)
section
variable {prog : Program} {w : World} {A : Around} {s : Shared} {R : Result → Shared → Prop} {p : Program} {loose : List Str} {mg mb : Str → Option Value}
/-- the source: two ints, none below nought -/
structure SrcOk (a b : Int) : Prop where
  p : 0 ≤ a
  q : 0 ≤ b
  r : b < 2147483647
theorem fmod_lo {a b : Int} (hb : 0 < b) : 0 ≤ a.fmod b := by rw [Int.fmod_eq_emod_of_nonneg _ (by omega)]; exact Int.emod_nonneg _ (by omega)
theorem fmod_hi {a b : Int} (hb : 0 < b) : a.fmod b < b := by rw [Int.fmod_eq_emod_of_nonneg _ (by omega)]; exact Int.emod_lt_of_pos _ hb
theorem fdiv_lo {a b : Int} (ha : 0 ≤ a) (hb : 0 < b) : 0 ≤ a.fdiv b := by rw [Int.fdiv_eq_ediv_of_nonneg _ (by omega)]; exact Int.ediv_nonneg ha (by omega)
set_option maxHeartbeats 1000000 in
theorem take_spec {src : Addr} {a b tp : Int} {ta tb tt : Tok} {e : Nat} (X : (hd.heap_39 w.params).In (hideAll s.heap [src])) (T : TopRead p loose mg mb (hideAll s.heap [src])) (rm : Room A 1)
    (hs : s.heap.get? src = some (PySem.W.listOf [Value.int a ta, Value.int b tb].toArray e)) (ok : SrcOk a b) (t0 : 1 ≤ tp) (t1 : tp < 1000)
    (h : ∀ h' tk r t a' b' ta' tb' e', Stay (hideAll s.heap [src]) h' → h'.get? src = some (PySem.W.listOf [Value.int a' ta', Value.int b' tb'].toArray e') → SrcOk a' b' → 0 ≤ r → r < tp → R (.ok (.ret (.int r t))) { s with heap := h', toks := tk }) :
    codeAny (model prog w) A (.call (.ref 215) ⟨[.ref src, .int tp tt], []⟩) R s := by
  obtain ⟨ah, ad, af, ag, au⟩ := A
  obtain rfl : ah = none := rm.handled
  refine' call_B (news := [(src, PySem.W.listOf [Value.int a ta, Value.int b tb].toArray e)]) [(Str.ofString "source", .ref src), (Str.ofString "top", .int tp tt)] (fun _ _ e => of_hideAll _ e) (Nat.le_of_eq (hideAll_size _ _)) ?hn ?X ?lim ?ho ?hcd ?room ?bind ?loc ?_ ?c2 ?c3 ?c4 ?c5
  case X => exact X
  case ho => k_is
  case hcd => k_is
  case lim => exact (T).nolimit
  case room => exact rm.lim
  case bind => exact BindsTo.of_eq rfl
  case loc => exact locs rfl
  case hn => 
    intro q hq
    rw [List.mem_singleton] at hq; subst hq; exact ⟨hs, hideAll_none _ (.head _)⟩
  case c2 => rfl
  case c3 => rfl
  case c4 => rfl
  case c5 => decide
  intro h₁ F N; (try dsimp only); k_fold
  ktr_unf
  · rename_i hpos h3 F3 N3
    refine store0 (N3 _ (.head _)).1 fun h4 hs4 ho4 => ?_
    have F4 := fr_mut F3 N3 (sameBut_of hs4) (.head _)
    clear F3 N3
    ktr_unf
    exact h _ _ _ _ _ _ _ _ _ F4.keep ho4 ⟨fdiv_lo ok.p (by omega), ok.q, ok.r⟩ (fmod_lo (by omega)) (fmod_hi (by omega))
  · rename_i hneg
    have hb0 := fmod_lo (a := b * 39373 + 7) (b := 2147483647) (by omega)
    have hb1 := fmod_hi (a := b * 39373 + 7) (b := 2147483647) (by omega)
    generalize (b * 39373 + 7).fmod 2147483647 = b' at hb0 hb1 ⊢
    refine store1 (N _ (.head _)).1 fun h4 hs4 ho4 => ?_
    have F4 := fr_mut F N (sameBut_of hs4) (.head _)
    have N4 := news_mut (nz' := [_]) N (sameBut_of hs4) (.head _) ho4 (fun q hq => .inl (List.mem_singleton.mp hq))
    clear F N
    ktr_unf
    exact h _ _ _ _ _ _ _ _ _ F4.keep ho4 ⟨ok.p, hb0, hb1⟩ (fmod_lo (by omega)) (fmod_hi (by omega))
end
end Mine
end
-- S11
section
open PySem PySem.W PySem.Calls PyProof.Rows
namespace Mine
theorem rs_S11 : True := by
  w_top off
  trivial

local macro_rules | `(tactic| k_inst) => `(tactic| first
  | (refine' inst_base ?F ?h1 ?h2; (case F => k_asm); (case h1 => assumption); (case h2 => assumption))
  | (refine' InstAt.of_news ?N ?h1 ?h2; (case N => k_asm); (case h1 => assumption); (case h2 => assumption)))
local macro_rules | `(tactic| walk_at "binaryOp FloorDiv int int") => `(tactic| ((with_reducible refine floordiv_int ?kb ?_ (Or.inl (PyProof.noPylong_small ?kp))); (case kb => omega); (case kp => omega)))
local macro_rules | `(tactic| walk_at "binaryOp Mult int int") => `(tactic| ((with_reducible refine mul_int ?_ (mulok_r ?k1 ?k2)); (case k1 => omega); (case k2 => omega)))
local macro_rules | `(tactic| ktr_unf) => `(tactic| repeat' (first
  | (k_unfold; (try dsimp only))
  | (with_reducible refine wpAny_execs_cons ?_)
  | ((fail_if_success (with_reducible show wpAny _ _ (exec (Stmt.For _ _ _ _ _) _) _ _ _)); (fail_if_success (with_reducible show wpAny _ _ (eval (Expr.ListComp _ _ _ _) _) _ _ _)); (fail_if_success (with_reducible show wpAny _ _ (pyIter _) _ _ _)); (fail_if_success (with_reducible show wpAny _ _ (call (Value.type "range") _) _ _ _)); (fail_if_success (with_reducible show wpAny _ _ (call (Value.builtin "list.append") _) _ _ _)); (fail_if_success (with_reducible show wpAny _ _ (setItem _ _ _) _ _ _)); (fail_if_success (with_reducible show wpAny _ _ (call (Value.type "list") _) _ _ _)); first | walk1 | (dsimp only; walk1))
  | fail "no step"))
section
variable {prog : Program} {w : World} {A : Around} {s : Shared} {R : Result → Shared → Prop} {p : Program} {loose : List Str} {mg mb : Str → Option Value}
theorem big_nn (c : Int) (P : Prop) [Decidable P] : 0 ≤ (if -1 - c > c then -1 - c else c) * (if decide P = true then 1 else 0) := by
  refine Int.mul_nonneg ?_ ?_
  · split <;> omega
  · split <;> omega
set_option maxHeartbeats 1000000 in
theorem pool_spec {ls : Addr} {vs : List Value} {ns : List Int} {tz : Tok} (X : (hd.heap_39 w.params).In s.heap) (T : TopRead p loose mg mb s.heap) (rm : Room A 1)
    (hl : s.heap.IsList ls vs.toArray) (hi : IntsAre vs ns) (hn : ns.length ≤ 63)
    (h : ∀ h' tk a x y tx ty e, Stay s.heap h' → made s.heap h' a (PySem.W.listOf [Value.int x tx, Value.int y ty].toArray e) → SrcOk x y → R (.ok (.ret (.ref a))) { s with heap := h', toks := tk }) :
    codeAny (model prog w) A (.call (.ref 208) ⟨[.ref ls, .int 0 tz], []⟩) R s := by
  obtain ⟨ah, ad, af, ag, au⟩ := A
  obtain rfl : ah = none := rm.handled
  refine' call_B (news := []) [(Str.ofString "script", .ref ls), (Str.ofString "k", .int 0 tz)] (Stay.refl _) (Nat.le_refl _) ?hn ?X ?lim ?ho ?hcd ?room ?bind ?loc ?_ ?c2 ?c3 ?c4 ?c5
  case X => exact X
  case ho => k_is
  case hcd => k_is
  case lim => exact (T).nolimit
  case room => exact rm.lim
  case bind => exact BindsTo.of_eq rfl
  case loc => exact locs rfl
  case hn => intro q hq; cases hq
  case c2 => rfl
  case c3 => rfl
  case c4 => rfl
  case c5 => decide
  intro h₁ F N; (try dsimp only); k_fold
  cases hi with
  | nil =>
    ktr_unf
    rename Fr _ _ _ _ => F9
    rename News _ _ _ _ => N9
    exact h _ _ _ _ _ _ _ _ F9.keep ⟨(N9 _ (.head _)).1, (N9 _ (.head _)).2.2⟩ ⟨big_nn _ _, fmod_lo (by omega), fmod_hi (by omega)⟩
  | cons n t hr =>
    rename_i vs ns
    have hi2 : IntsAre (.int n t :: vs) (n :: ns) := .cons n t hr
    have hlen := hi2.length
    ktr_unf
    refine my_lenI (vs := .int n t :: vs) (n := (n :: ns).length) (hl.at fun o e => Fr.keep (by assumption) _ _ e) hlen (by omega) ?_
    simp only [List.length_cons] at hn hlen ⊢
    ktr_unf
    rename Fr _ _ _ _ => F9
    rename News _ _ _ _ => N9
    exact h _ _ _ _ _ _ _ _ F9.keep ⟨(N9 _ (.head _)).1, (N9 _ (.head _)).2.2⟩ ⟨big_nn _ _, fmod_lo (by omega), fmod_hi (by omega)⟩
end
end Mine
end
-- S12
section
open PySem PySem.W PySem.Calls PyProof.Rows
namespace Mine
theorem rs_S12 : True := by
  w_top off
  trivial

local macro_rules | `(tactic| k_inst) => `(tactic| first
  | (refine' inst_base ?F ?h1 ?h2; (case F => k_asm); (case h1 => assumption); (case h2 => assumption))
  | (refine' InstAt.of_news ?N ?h1 ?h2; (case N => k_asm); (case h1 => assumption); (case h2 => assumption)))
local macro_rules | `(tactic| walk_at "binaryOp FloorDiv int int") => `(tactic| ((with_reducible refine floordiv_int ?kb ?_ (Or.inl (PyProof.noPylong_small ?kp))); (case kb => omega); (case kp => omega)))
local macro_rules | `(tactic| walk_at "binaryOp Mult int int") => `(tactic| ((with_reducible refine mul_int ?_ (mulok_r ?k1 ?k2)); (case k1 => omega); (case k2 => omega)))
local macro_rules | `(tactic| ktr_unf) => `(tactic| repeat' (first
  | (k_unfold; (try dsimp only))
  | (with_reducible refine wpAny_execs_cons ?_)
  | ((fail_if_success (with_reducible show wpAny _ _ (exec (Stmt.For _ _ _ _ _) _) _ _ _)); (fail_if_success (with_reducible show wpAny _ _ (eval (Expr.ListComp _ _ _ _) _) _ _ _)); (fail_if_success (with_reducible show wpAny _ _ (pyIter _) _ _ _)); (fail_if_success (with_reducible show wpAny _ _ (call (Value.type "range") _) _ _ _)); (fail_if_success (with_reducible show wpAny _ _ (call (Value.builtin "list.append") _) _ _ _)); (fail_if_success (with_reducible show wpAny _ _ (setItem _ _ _) _ _ _)); (fail_if_success (with_reducible show wpAny _ _ (call (Value.type "list") _) _ _ _)); (fail_if_success (with_reducible show wpAny _ _ (subscriptTail (Expr.List _ _) _ _ _) _ _ _)); first | walk1 | (dsimp only; walk1))
  | fail "no step"))
local macro_rules | `(tactic| walk_at "subscriptTail Attribute Name Name ref int") => `(tactic| ((with_reducible show wpAny _ _ (subscriptTail _ _ (Value.ref _) (Value.int _ _)) _ _ _); (refine' my_item ?kl ?kh ?kx ?_ ?ks); (case kl => first | exact Fr.keep (by assumption) _ _ (by assumption) | exact (News.get (by assumption) (by k_mem))); (case kx => assumption); (case kh => omega); (case ks => with_unfolding_all rfl)))
local macro_rules | `(tactic| walk_at "subscriptTail Subscript Attribute Name Name ref int") => `(tactic| ((with_reducible show wpAny _ _ (subscriptTail _ _ (Value.ref _) (Value.int _ _)) _ _ _); (refine' my_item ?kl ?kh ?kx ?_ ?ks); (case kl => first | exact Fr.keep (by assumption) _ _ (by assumption) | exact (News.get (by assumption) (by k_mem))); (case kx => assumption); (case kh => omega); (case ks => with_unfolding_all rfl)))
local macro_rules | `(tactic| walk_at "subscriptTail Subscript Subscript Name Name ref int") => `(tactic| ((with_reducible show wpAny _ _ (subscriptTail _ _ (Value.ref _) (Value.int _ _)) _ _ _); (refine' my_item ?kl ?kh ?kx ?_ ?ks); (case kl => first | exact Fr.keep (by assumption) _ _ (by assumption) | exact (News.get (by assumption) (by k_mem))); (case kx => assumption); (case kh => omega); (case ks => with_unfolding_all rfl)))
local macro_rules | `(tactic| walk_at "subscriptTail") => `(tactic| ((with_reducible show wpAny _ _ (subscriptTail _ _ (Value.ref _) (Value.int _ _)) _ _ _); (refine' my_item ?kl ?kh ?kx ?_ ?ks); (case kl => first | exact Fr.keep (by assumption) _ _ (by assumption) | exact (News.get (by assumption) (by k_mem))); (case kx => assumption); (case kh => omega); (case ks => with_unfolding_all rfl)))
local macro_rules | `(tactic| k_mem) => `(tactic| assumption)
local macro_rules | `(tactic| k_all) => `(tactic| assumption)
section
variable {prog : Program} {w : World} {A : Around} {s : Shared} {R : Result → Shared → Prop} {p : Program} {loose : List Str} {mg mb : Str → Option Value}
theorem take_in {b : Heap} {L src : Addr} {m : Str → Option Value} {news : List (Addr × Obj)} {g : Obj → List (Addr × Obj)} {x y tp : Int} {tx ty tt : Tok} {e : Nat} {Q E : Value → Shared → Prop} (F : Fr b L s.heap m) (N : News b L s.heap news)
    (U : UpdF src (PySem.W.listOf [Value.int x tx, Value.int y ty].toArray e) news g) (X : (hd.heap_39 w.params).In b) (T : TopRead p loose mg mb b) (rm : Room A 1) (ok : SrcOk x y) (t0 : 1 ≤ tp) (t1 : tp < 1000)
    (h : ∀ h' tk r t a' b' ta' tb' e', Fr b L h' m → News b L h' (g (PySem.W.listOf [Value.int a' ta', Value.int b' tb'].toArray e')) → SrcOk a' b' → 0 ≤ r → r < tp → Q (.int r t) { s with heap := h', toks := tk }) :
    wpAny (model prog w) A (call (.ref 215) [.ref src, .int tp tt]) Q E s := by
  obtain ⟨own, rest, rfl, hg, h1, h2⟩ := U.split
  have hm : (src, PySem.W.listOf [Value.int x tx, Value.int y ty].toArray e) ∈ own ++ (src, PySem.W.listOf [Value.int x tx, Value.int y ty].toArray e) :: rest := List.mem_append_right _ (.head _)
  have hS := N _ hm
  have st : Stay b (hideAll s.heap [src]) := fun a o q => hideAll_get _ (F.keep _ _ q) (by
    intro z
    rw [List.mem_singleton] at z
    have := hS.2.2
    dsimp only at this
    rw [← z, q] at this; cases this)
  refine call_of_code (take_spec (X.keeps st) (T.keeps st) rm hS.1 ok t0 t1 fun h' tk r t a' b' ta' tb' e' st' hs' ok' r0 r1 => ?_)
  have hs : ∀ a o, a ≠ src → s.heap.get? a = some o → h'.get? a = some o := fun a o hne q => st' _ _ (hideAll_get _ q (by simpa using hne))
  refine h h' tk r t a' b' ta' tb' e' (fr_mut F N hs hm) ?_ ok' r0 r1
  rw [hg]
  refine news_mut N hs hm hs' fun q hq => ?_
  rcases List.mem_append.mp hq with hq | hq
  · exact .inr ⟨List.mem_append_left _ hq, h1 q hq⟩
  · rcases List.mem_cons.mp hq with rfl | hq
    · exact .inl rfl
    · exact .inr ⟨List.mem_append_right _ (.tail _ hq), h2 q hq⟩
end
local macro_rules | `(tactic| walk_at "call ref") => `(tactic| ((with_reducible show wpAny _ _ (call (Value.ref 215) _) _ _ _); (rename Fr _ _ _ _ => kF9); (rename News _ _ _ _ => kN9); (refine' take_in kF9 kN9 ?U ?X ?T ?rm ?ok ?t0 ?t1 ?_); (case U => k_updF); (case X => assumption); (case T => assumption); (case rm => exact Room.deeper (Room.le (by assumption) (by decide)) _); (case ok => assumption); (case t0 => omega); (case t1 => omega); (clear kF9 kN9); intro h' tk' r' t' a' b' ta' tb' e' kF' kN' ok' r0' r1'; (try dsimp only at kN'); (try dsimp only)))
local macro_rules | `(tactic| walk_at "call ref") => `(tactic| ((rename Fr _ _ _ _ => kF9); (rename News _ _ _ _ => kN9); (refine call_of_code ?_); (refine' comp_new (c := ⟨_, _, _, _⟩) (Frag.In.keeps (by assumption) (Fr.keep kF9)) (TopRead.keeps (by assumption) (Fr.keep kF9)) (Room.deeper (Room.le (by assumption) (by decide)) _) ?_); intro h' tk' x' st' hc'; (have kF' := fr_stay kF9 st'); (have kN' := news_made kF9 kN9 st'); (have nb' := fun q hq => (kN9 q hq).1); (clear kF9 kN9); (try dsimp only)))
section
variable {prog : Program} {w : World} {A : Around} {s : Shared} {R : Result → Shared → Prop} {p : Program} {loose : List Str} {mg mb : Str → Option Value}
set_option maxHeartbeats 1000000 in
theorem frame_spec {src : Addr} {a b : Int} {ta tb : Tok} {e : Nat} (X : (hd.heap_39 w.params).In (hideAll s.heap [src])) (T : TopRead p loose mg mb (hideAll s.heap [src])) (rm : Room A 4)
    (hs : s.heap.get? src = some (PySem.W.listOf [Value.int a ta, Value.int b tb].toArray e)) (ok : SrcOk a b)
    (h : ∀ h' tk fx f a' b' ta' tb' e', Stay (hideAll s.heap [src]) h' → h'.get? src = some (PySem.W.listOf [Value.int a' ta', Value.int b' tb'].toArray e') → SrcOk a' b' → Fm.Ok f → FrameAt (made s.heap h') fx f → R (.ok (.ret (.ref fx))) { s with heap := h', toks := tk }) :
    codeAny (model prog w) A (.call (.ref 222) ⟨[.ref src], []⟩) R s := by
  obtain ⟨ah, ad, af, ag, au⟩ := A
  obtain rfl : ah = none := rm.handled
  refine' call_B (news := [(src, PySem.W.listOf [Value.int a ta, Value.int b tb].toArray e)]) [(Str.ofString "source", .ref src)] (fun _ _ e => of_hideAll _ e) (Nat.le_of_eq (hideAll_size _ _)) ?hn ?X ?lim ?ho ?hcd ?room ?bind ?loc ?_ ?c2 ?c3 ?c4 ?c5
  case X => exact X
  case ho => k_is
  case hcd => k_is
  case lim => exact (T).nolimit
  case room => exact rm.lim
  case bind => exact BindsTo.of_eq rfl
  case loc => exact locs rfl
  case hn => 
    intro q hq
    rw [List.mem_singleton] at hq; subst hq; exact ⟨hs, hideAll_none _ (.head _)⟩
  case c2 => rfl
  case c3 => rfl
  case c4 => rfl
  case c5 => decide
  intro h₁ F N; (try dsimp only); k_fold
  ktr_unf
  rename_i cl h2a l1 h2 F2 N2
  have hcs := neN (Nat.ne_of_gt l1)
  (try k_unmd); (try k_fold)
  refine For_invV (hideAll s.heap [src]) rfl rfl ?_ (by intro _; rfl) (by passes_own)
  ktr_unf
  rename_i h3 tk3 r3 t3 a3 b3 ta3 tb3 e3 F3 N3 ok3 r30 r31
  refine' loop_range (fun i m nz => Knows m [(Str.ofString "source", .ref src), (Str.ofString "components", .ref cl)] ∧ ∃ a b ta tb e us e' rest cs, nz = (cl, PySem.W.listOf us.toArray e') :: (src, PySem.W.listOf [Value.int a ta, Value.int b tb].toArray e) :: rest ∧
      SrcOk a b ∧ (∀ q ∈ rest, q.1 ≠ src ∧ q.1 ≠ cl) ∧ CompsAt (fun a o => (a, o) ∈ rest) us cs ∧ cs.length = i ∧ ∀ c ∈ cs, c.Ok) rfl ?r0 ?r1 ?F ?N ?h0 ?turn ?done
  case r0 => omega
  case r1 => omega
  case F => exact F3
  case N => exact N3
  case h0 => exact ⟨⟨rfl, rfl, trivial⟩, _, _, _, _, _, [], 0, [], [], rfl, ok3, (fun q hq => nomatch hq), ⟨rfl, fun i c e => by simp at e⟩, rfl, fun c hc => nomatch hc⟩
  case turn =>
    rintro i ti m₁ nz₁ h4 tk4 I io hi ⟨hk, a, b, ta, tb, e, us, e', rest, cs, rfl, ok4, hap, hcat, hcl, hcok⟩ ha F₁ N₁
    have F4 := fr_turn F₁ _ hk rfl
    clear F₁ F3 N3
    have hIs := neN (Ne.symm (ha (src, PySem.W.listOf [Value.int a ta, Value.int b tb].toArray e) (.tail _ (.head _))))
    have hrs : ∀ q ∈ rest, q.1 ≠ src := fun q hq => (hap q hq).1
    have hl3 : cs.length < 3 := by omega
    (try k_unmd); (try k_fold)
    ktr_unf
    rename_i hA tkA rA tA aA bA taA tbA eA okA rA0 rA1 h5 tk5 x5 st5 hc5 F5 N5 nb5
    have hul := hcat.1
    have hcm : (cl, PySem.W.listOf us.toArray e') ∈ (I, io) :: (cl, PySem.W.listOf us.toArray e') :: (src, PySem.W.listOf [Value.int aA taA, Value.int bA tbA].toArray eA) :: rest ++ madeList hA h5 := .tail _ (.head _)
    refine append_at (N5 _ hcm).1 (fun h6 hs6 ho6 => ?_) (by rw [sizeLine_eq]; simp only [List.size_toArray]; omega)
    have hs7 := sameBut_of hs6
    have F6 := fr_mut F5 N5 hs7 hcm
    have hmd : ∀ q ∈ madeList hA h5, q.1 ≠ cl ∧ q.1 ≠ src ∧ q.1 ≠ I := by
      intro q hq
      have hm := (mem_madeList.mp hq).2
      have n1 := nb5 (cl, PySem.W.listOf us.toArray e') (.tail _ (.head _))
      have n2 := nb5 (src, PySem.W.listOf [Value.int aA taA, Value.int bA tbA].toArray eA) (.tail _ (.tail _ (.head _)))
      have n3 := nb5 (I, io) (.head _)
      dsimp only at n1 n2 n3 hm
      refine ⟨?_, ?_, ?_⟩ <;> (intro hz; rw [hz] at hm)
      · rw [n1] at hm; cases hm
      · rw [n2] at hm; cases hm
      · rw [n3] at hm; cases hm
    have N6 : News (hideAll s.heap [src]) s.heap.objs.size h6 ((I, io) :: (cl, PySem.W.listOf (us.toArray.push (.ref x5)) (e' + 1)) :: (src, PySem.W.listOf [Value.int aA taA, Value.int bA tbA].toArray eA) :: (rest ++ madeList hA h5)) := by
      refine news_mut N5 hs7 hcm ho6 fun q hq => ?_
      rcases List.mem_cons.mp hq with rfl | hq
      · exact .inr ⟨.head _, Ne.symm (ha (cl, PySem.W.listOf us.toArray e') (.head _))⟩
      rcases List.mem_cons.mp hq with rfl | hq
      · exact .inl rfl
      rcases List.mem_cons.mp hq with rfl | hq
      · exact .inr ⟨.tail _ (.tail _ (.head _)), Ne.symm hcs⟩
      refine .inr ⟨.tail _ (.tail _ (.tail _ hq)), ?_⟩
      rcases List.mem_append.mp hq with hq | hq
      · exact (hap q hq).2
      · exact (hmd q hq).1
    ktr_unf
    refine ⟨h6, _, _, _, rfl, F6, N6, ?_, ⟨rfl, rfl, trivial⟩, _, _, _, _, _, us ++ [.ref x5], e' + 1, rest ++ madeList hA h5, cs ++ [_], by rw [List.push_toArray], okA, ?_, (hcat.mono fun a o y => List.mem_append_left _ y).snoc (hc5.mono fun a o y => List.mem_append_right _ (mem_madeList.mpr y)), by rw [List.length_append, hcl]; rfl, ?_⟩
    · intro q hq
      rcases List.mem_cons.mp hq with rfl | hq
      · exact ha (cl, PySem.W.listOf us.toArray e') (.head _)
      rcases List.mem_cons.mp hq with rfl | hq
      · exact ha (src, PySem.W.listOf [Value.int a ta, Value.int b tb].toArray e) (.tail _ (.head _))
      rcases List.mem_append.mp hq with hq | hq
      · exact ha _ (.tail _ (.tail _ hq))
      · exact (hmd q hq).2.2
    · intro q hq
      rcases List.mem_append.mp hq with hq | hq
      · exact hap q hq
      · exact ⟨(hmd q hq).2.1, (hmd q hq).1⟩
    · intro c hc
      rcases List.mem_append.mp hc with hc | hc
      · exact hcok c hc
      · rw [List.mem_singleton] at hc; subst hc; exact ⟨by dsimp only; omega, by dsimp only; omega⟩
  case done =>
    rintro m₁ nz₁ h4 tk4 ⟨hk, a, b, ta, tb, e, us, e', rest, cs, rfl, ok4, hap, hcat, hcl, hcok⟩ F₁ N₁
    have F4 := fr_kn F₁ _ hk
    clear F₁ F3 N3
    have hrs : ∀ q ∈ rest, q.1 ≠ src := fun q hq => (hap q hq).1
    ktr_unf
    rename_i D1 hD1 lD1 D2 hD2 lD2 D3 hD3 lD3 ll hL lL hB tkB rB tB aB bB taB tbB eB F5 N5 okB rB0 rB1
    obtain ⟨j, hj, rfl⟩ : ∃ j : Nat, j < 3 ∧ rB = (j : Int) := ⟨rB.toNat, by omega, by omega⟩
    obtain ⟨tt, kd, pi, tk1, tk2, hkd, hit, N6⟩ : ∃ tt kd pi tk1 tk2, PyData.canLay0 (.str kd) = true ∧ ([Value.ref D1, Value.ref D2, Value.ref D3] : List Value)[j]? = some (Value.ref tt) ∧
        News (hideAll s.heap [src]) s.heap.objs.size hB ((tt, tupOf [Value.str kd tk1, Value.int pi tk2]) :: (cl, PySem.W.listOf us.toArray e') :: (src, PySem.W.listOf [Value.int aB taB, Value.int bB tbB].toArray eB) :: rest) := by
      match j, hj with
      | 0, _ => exact ⟨D1, _, _, _, _, by decide +kernel, rfl, news_pick N5 (.tail _ (.tail _ (.tail _ (.head _)))) (fun q hq => .tail _ (.tail _ (.tail _ (.tail _ (.tail _ hq)))))⟩
      | 1, _ => exact ⟨D2, _, _, _, _, by decide +kernel, rfl, news_pick N5 (.tail _ (.tail _ (.head _))) (fun q hq => .tail _ (.tail _ (.tail _ (.tail _ (.tail _ hq)))))⟩
      | 2, _ => exact ⟨D3, _, _, _, _, by decide +kernel, rfl, news_pick N5 (.tail _ (.head _)) (fun q hq => .tail _ (.tail _ (.tail _ (.tail _ (.tail _ hq)))))⟩
    refine my_item (i := j) (vs := [Value.ref D1, Value.ref D2, Value.ref D3]) (N5 _ (.head _)).1 (by omega) hit ?_
    clear N5
    ktr_unf
    rename Fr _ _ _ _ => F7
    rename News _ _ _ _ => N7
    have fm := hcat.mono (M' := fun a o => (a, o) ∈ (cl, PySem.W.listOf us.toArray e') :: rest) fun a o y => .tail _ y
    have hMn : ∀ a o, (a, o) ∈ (cl, PySem.W.listOf us.toArray e') :: rest → s.heap.get? a = none := by
      intro a o y
      rcases List.mem_cons.mp y with y | y
      · cases y; exact none_of_base (N7 (cl, PySem.W.listOf us.toArray e') (.tail _ (.head _))).2.2 hcs
      · exact none_of_base (N7 (a, o) (.tail _ (.tail _ (.tail _ y)))).2.2 (hrs _ y)
    have hsn := (N7 (src, PySem.W.listOf [Value.int aB taB, Value.int bB tbB].toArray eB) (.tail _ (.tail _ (.head _)))).1
    refine call_of_code ?_
    refine frame_new (f := ⟨kd, pi, _, _, cs⟩) (M := fun a o => (a, o) ∈ (cl, PySem.W.listOf us.toArray e') :: rest) (X.keeps F7.keep) (T.keeps F7.keep) ((rm.le (by decide)).deeper _) ?_ (.head _) fm ?_
    · intro a o y
      rcases List.mem_cons.mp y with y | y
      · cases y; exact (N7 (cl, PySem.W.listOf us.toArray e') (.tail _ (.head _))).1
      · exact (N7 (a, o) (.tail _ (.tail _ (.tail _ y)))).1
    intro h8 tk8 x8 st8 hf8
    have F8 := fr_stay F7 st8
    have N8 := news_stay N7 st8
    ktr_unf
    refine h _ _ _ _ _ _ _ _ _ F8.keep (N8 (src, PySem.W.listOf [Value.int aB taB, Value.int bB tbB].toArray eB) (.tail _ (.tail _ (.head _)))).1 okB ?_ (hf8.mono fun a o y => ?_)
    · refine ⟨?_, ?_, ?_, ?_, ?_, ?_, hcok, hkd⟩ <;> dsimp only <;> omega
    · rcases y with y | y
      · refine ⟨y.1, ?_⟩
        cases q : s.heap.get? a with
        | none => rfl
        | some o' =>
          have y2 := y.2
          by_cases hz : a = src
          · subst hz; rw [hsn] at y2; cases y2
          · have := F7.keep _ _ (hideAll_get [src] q (by simpa using hz)); rw [y2] at this; cases this
      · exact ⟨st8 _ _ (by
          rcases List.mem_cons.mp y with y | y
          · cases y; exact (N7 (cl, PySem.W.listOf us.toArray e') (.tail _ (.head _))).1
          · exact (N7 (a, o) (.tail _ (.tail _ (.tail _ y)))).1), hMn a o y⟩
end
end Mine
end
-- S13
section
open PySem PySem.W PySem.Calls PyProof.Rows
namespace Mine
theorem rs_S13 : True := by
  w_top off
  trivial

local macro_rules | `(tactic| k_inst) => `(tactic| first
  | (refine' inst_base ?F ?h1 ?h2; (case F => k_asm); (case h1 => assumption); (case h2 => assumption))
  | (refine' InstAt.of_news ?N ?h1 ?h2; (case N => k_asm); (case h1 => assumption); (case h2 => assumption)))
local macro_rules | `(tactic| walk_at "binaryOp FloorDiv int int") => `(tactic| ((with_reducible refine floordiv_int ?kb ?_ (Or.inl (PyProof.noPylong_small ?kp))); (case kb => omega); (case kp => omega)))
local macro_rules | `(tactic| walk_at "binaryOp Mult int int") => `(tactic| ((with_reducible refine mul_int ?_ (mulok_r ?k1 ?k2)); (case k1 => omega); (case k2 => omega)))
local macro_rules | `(tactic| ktr_unf) => `(tactic| repeat' (first
  | (k_unfold; (try dsimp only))
  | (with_reducible refine wpAny_execs_cons ?_)
  | ((fail_if_success (with_reducible show wpAny _ _ (exec (Stmt.For _ _ _ _ _) _) _ _ _)); (fail_if_success (with_reducible show wpAny _ _ (eval (Expr.ListComp _ _ _ _) _) _ _ _)); (fail_if_success (with_reducible show wpAny _ _ (pyIter _) _ _ _)); (fail_if_success (with_reducible show wpAny _ _ (call (Value.type "range") _) _ _ _)); (fail_if_success (with_reducible show wpAny _ _ (call (Value.builtin "list.append") _) _ _ _)); (fail_if_success (with_reducible show wpAny _ _ (setItem _ _ _) _ _ _)); (fail_if_success (with_reducible show wpAny _ _ (call (Value.type "list") _) _ _ _)); (fail_if_success (with_reducible show wpAny _ _ (call (Value.ref 166) _) _ _ _)); first | walk1 | (dsimp only; walk1))
  | fail "no step"))
local macro_rules | `(tactic| walk_at "subscriptTail Attribute Name Name ref int") => `(tactic| ((with_reducible show wpAny _ _ (subscriptTail _ _ (Value.ref _) (Value.int _ _)) _ _ _); (refine' my_item ?kl ?kh ?kx ?_ ?ks); (case kl => first | exact Fr.keep (by assumption) _ _ (by assumption) | exact (News.get (by assumption) (by k_mem))); (case kx => assumption); (case kh => omega); (case ks => with_unfolding_all rfl)))
local macro_rules | `(tactic| walk_at "subscriptTail Subscript Attribute Name Name ref int") => `(tactic| ((with_reducible show wpAny _ _ (subscriptTail _ _ (Value.ref _) (Value.int _ _)) _ _ _); (refine' my_item ?kl ?kh ?kx ?_ ?ks); (case kl => first | exact Fr.keep (by assumption) _ _ (by assumption) | exact (News.get (by assumption) (by k_mem))); (case kx => assumption); (case kh => omega); (case ks => with_unfolding_all rfl)))
local macro_rules | `(tactic| walk_at "subscriptTail Subscript Subscript Name Name ref int") => `(tactic| ((with_reducible show wpAny _ _ (subscriptTail _ _ (Value.ref _) (Value.int _ _)) _ _ _); (refine' my_item ?kl ?kh ?kx ?_ ?ks); (case kl => first | exact Fr.keep (by assumption) _ _ (by assumption) | exact (News.get (by assumption) (by k_mem))); (case kx => assumption); (case kh => omega); (case ks => with_unfolding_all rfl)))
local macro_rules | `(tactic| walk_at "subscriptTail") => `(tactic| ((with_reducible show wpAny _ _ (subscriptTail _ _ (Value.ref _) (Value.int _ _)) _ _ _); (refine' my_item ?kl ?kh ?kx ?_ ?ks); (case kl => first | exact Fr.keep (by assumption) _ _ (by assumption) | exact (News.get (by assumption) (by k_mem))); (case kx => assumption); (case kh => omega); (case ks => with_unfolding_all rfl)))
local macro_rules | `(tactic| walk_at "call builtin:len") => `(tactic| ((with_reducible show wpAny _ _ (call (Value.builtin "len") [Value.ref _]) _ _ _); (refine' my_len ?kl ?kn ?kh ?_); (case kl => first | exact Fr.keep (by assumption) _ _ (by assumption) | exact (News.get (by assumption) (by k_mem))); (case kn => assumption); (case kh => omega)))
local macro_rules | `(tactic| k_mem) => `(tactic| assumption)
local macro_rules | `(tactic| walk_at "call ref") => `(tactic| ((rename Fr _ _ _ _ => kF9); (rename News _ _ _ _ => kN9); (refine call_of_code ?_); (refine' grid_new (Frag.In.keeps (by assumption) (Fr.keep kF9)) (TopRead.keeps (by assumption) (Fr.keep kF9)) (Room.deeper (Room.le (by assumption) (by decide)) _) ?hf ?ok ?_); (case hf => first | exact FrameAt.mono (by assumption) (fun _ _ e => Fr.keep kF9 _ _ e) | exact FrameAt.mono (by assumption) (fun _ _ e => (kN9 (_, _) (by k_mem)).1) | exact FrameAt.mono (by assumption) (fun _ _ e => (kN9 (_, _) (List.mem_append_right _ (mem_madeList.mpr e))).1)); (case ok => assumption); intro h' tk' sk' st' fl'; (have kF' := fr_stay kF9 st'); (have kN' := news_made kF9 kN9 st'); (have nb' := fun q hq => (kN9 q hq).1); (try clear kF9); (try clear kN9); (try dsimp only)))
local macro_rules | `(tactic| walk_at "call ref") => `(tactic| ((rename Fr _ _ _ _ => kF9); (rename News _ _ _ _ => kN9); (refine call_of_code ?_); (refine' padded_spec (Frag.In.keeps (by assumption) (Fr.keep kF9)) (TopRead.keeps (by assumption) (Fr.keep kF9)) (Room.deeper (Room.le (by assumption) (by decide)) _) ?hf ?ok ?hc ?_); (case hf => first | exact FrameAt.mono (by assumption) (fun _ _ e => Fr.keep kF9 _ _ e) | exact FrameAt.mono (by assumption) (fun _ _ e => (kN9 (_, _) (by k_mem)).1) | exact FrameAt.mono (by assumption) (fun _ _ e => (kN9 (_, _) (List.mem_append_right _ (mem_madeList.mpr e))).1)); (case ok => assumption); (case hc => assumption); intro h' tk' a' t' t2' st' fr' up'; (have kF' := fr_stay kF9 st'); (have kN' := news_cons kF9 kN9 st' fr' up'); (try clear kF9); (try clear kN9); (try dsimp only)))
section
variable {prog : Program} {w : World} {A : Around} {s : Shared} {R : Result → Shared → Prop} {p : Program} {loose : List Str} {mg mb : Str → Option Value}
set_option maxHeartbeats 1000000 in
theorem lgrid_spec {fx : Addr} {f : Fm} (X : (hd.heap_39 w.params).In s.heap) (T : TopRead p loose mg mb s.heap) (rm : Room A 9) (hf : FrameAt (live s.heap) fx f) (ok : f.Ok)
    (h : ∀ h' tk gx, Stay s.heap h' → GridAt (made s.heap h') gx f (fun i j k => [(i : Int), (k : Int), (j : Int), 7]) → R (.ok (.ret (.ref gx))) { s with heap := h', toks := tk }) :
    codeAny (model prog w) A (.call (.ref 229) ⟨[.ref fx], []⟩) R s := by
  obtain ⟨dx, h1, t1, u1, h2, t2, u2, h3, t3, u3, h4, t4, u4, h5, t5, h6, t6, u6, l, vs, e, hx, hdx, hl, hcs⟩ := id hf
  have hlen := hcs.1
  have b1 := ok.c1
  have b2 := ok.mcA
  have b3 := ok.mcD
  obtain ⟨ah, ad, af, ag, au⟩ := A
  obtain rfl : ah = none := rm.handled
  refine' call_B (news := []) [(Str.ofString "frame", .ref fx)] (Stay.refl _) (Nat.le_refl _) ?hn ?X ?lim ?ho ?hcd ?room ?bind ?loc ?_ ?c2 ?c3 ?c4 ?c5
  case X => exact X
  case ho => k_is
  case hcd => k_is
  case lim => exact (T).nolimit
  case room => exact rm.lim
  case bind => exact BindsTo.of_eq rfl
  case loc => exact locs rfl
  case hn => intro q hq; cases hq
  case c2 => rfl
  case c3 => rfl
  case c4 => rfl
  case c5 => decide
  intro h₁ F N; (try dsimp only); k_fold
  ktr_unf
  rename_i hB tkB sk stB fillB nbB hC F2 N2
  have hfill : Fill (fun a o => (a, o) ∈ madeList h₁ hB) f sk (fun _ _ _ => none) := fillB.mono fun a o y => mem_madeList.mpr y
  rw [List.nil_append] at N2
  generalize madeList h₁ hB = rest0 at N2 hfill
  clear fillB stB nbB
  (try k_unmd); (try k_fold)
  refine For_invV s.heap rfl rfl ?_ (by intro _; rfl) (by passes_own)
  ktr_unf
  refine' loop_range (fun i m nz => Knows m [(Str.ofString "frame", .ref fx), (Str.ofString "grid", .ref sk.x)] ∧ ∃ c, Fill (fun a o => (a, o) ∈ nz) f sk c ∧
      ∀ i' j' k', i' < i → i' < f.cs.length → j' < PH f i' → k' < PW f i' → c i' j' k' = some [(i' : Int), (k' : Int), (j' : Int), 7]) rfl ?r0 ?r1 ?F ?N ?h0 ?turn ?done
  case r0 => omega
  case r1 => omega
  case F => exact F2
  case N => exact N2
  case h0 => exact ⟨⟨rfl, rfl, trivial⟩, _, hfill, fun i' j' k' hi => absurd hi (Nat.not_lt_zero _)⟩
  case turn =>
    intro i t m₁ rest h3 tk I0 io0 hi ⟨hk, c0, hfill0, hdone0⟩ ha F₁ N₁
    have F3 := fr_turn F₁ _ hk rfl
    clear F₁
    have hi' : i < f.cs.length := by omega
    have hc : f.cs[i]? = some f.cs[i] := by simp [hi']
    generalize f.cs[i] = c at hc
    have hi3 : i < 3 := by omega
    have okc := ok.cs c (List.mem_of_getElem? hc)
    have q5 : 1 ≤ c.ac := by rcases okc.a with q | q <;> omega
    have q6 : c.ac ≤ 2 := by rcases okc.a with q | q <;> omega
    have q7 : 1 ≤ c.dn := by rcases okc.d with q | q <;> omega
    have q8 : c.dn ≤ 2 := by rcases okc.d with q | q <;> omega
    have hPW := PW_eq ok hc
    have hPH := PH_eq ok hc
    have hPWl := PW_le ok i
    have hPHl := PH_le ok i
    (try k_unmd); (try k_fold)
    ktr_unf
    rename Fr _ _ _ _ => F5
    rename News _ _ _ _ => N5
    have N6 : News s.heap s.heap.objs.size _ ((I0, io0) :: rest) := fun q hq => N5 q (.tail _ hq)
    clear N5
    (try k_unmd); (try k_fold)
    refine For_invV s.heap rfl rfl ?_ (by intro _; rfl) (by passes_own)
    ktr_unf
    refine' loop_range (fun j m nz => ∃ rest tw c1, nz = (I0, io0) :: rest ∧ (∀ q ∈ rest, q.1 ≠ I0) ∧
      Knows m [(Str.ofString "frame", .ref fx), (Str.ofString "grid", .ref sk.x), (Str.ofString "place", .int (i : Int) t), (Str.ofString "across", .int (mcA f * c.ac) tw)] ∧
      Fill (fun a o => (a, o) ∈ rest) f sk c1 ∧
      (∀ i' j' k', i' < i → i' < f.cs.length → j' < PH f i' → k' < PW f i' → c1 i' j' k' = some [(i' : Int), (k' : Int), (j' : Int), 7]) ∧
      (∀ j' k', j' < j → k' < PW f i → c1 i j' k' = some [(i : Int), (k' : Int), (j' : Int), 7])) rfl ?r2 ?r3 ?F1 ?N1 ?h01 ?turn1 ?done1
    case r2 => omega
    case r3 => omega
    case F1 => exact F5
    case N1 => exact N6
    case h01 => exact ⟨rest, _, c0, rfl, ha, ⟨rfl, rfl, rfl, rfl, trivial⟩, hfill0, hdone0, fun j' k' hj => absurd hj (Nat.not_lt_zero _)⟩
    case turn1 =>
      clear F5 N6 hfill0 hdone0 hk ha
      rintro j tj m2 nz2 h4 tk4 I1 io1 hj ⟨rest, tw, c1, rfl, ha, hk, hfill1, hdone1, hrow1⟩ ha1 F₁ N₁
      have F3 := fr_turn F₁ _ hk rfl
      clear F₁
      (try k_unmd); (try k_fold)
      ktr_unf
      (try k_unmd); (try k_fold)
      refine For_invV s.heap rfl rfl ?_ (by intro _; rfl) (by passes_own)
      ktr_unf
      refine' loop_range (fun k m nz => ∃ rest tw tr c2, nz = (I1, io1) :: (I0, io0) :: rest ∧ (∀ q ∈ rest, q.1 ≠ I0 ∧ q.1 ≠ I1) ∧ 
        Knows m [(Str.ofString "frame", .ref fx), (Str.ofString "grid", .ref sk.x), (Str.ofString "place", .int (i : Int) t), (Str.ofString "across", .int (mcA f * c.ac) tw), (Str.ofString "y", .int (j : Int) tr)] ∧
        Fill (fun a o => (a, o) ∈ rest) f sk c2 ∧
        (∀ i' j' k', i' < i → i' < f.cs.length → j' < PH f i' → k' < PW f i' → c2 i' j' k' = some [(i' : Int), (k' : Int), (j' : Int), 7]) ∧
        (∀ j' k', j' < j → k' < PW f i → c2 i j' k' = some [(i : Int), (k' : Int), (j' : Int), 7]) ∧
        (∀ k', k' < k → c2 i j k' = some [(i : Int), (k' : Int), (j : Int), 7])) rfl ?r4 ?r5 ?F2 ?N2 ?h02 ?turn2 ?done2
      case r4 => omega
      case r5 => omega
      case F2 => exact F3
      case N2 => exact N₁
      case h02 => exact ⟨rest, _, _, c1, rfl, fun q hq => ⟨ha q hq, ha1 q (.tail _ hq)⟩, ⟨rfl, rfl, rfl, rfl, rfl, trivial⟩, hfill1, hdone1, hrow1, fun k' hk' => absurd hk' (Nat.not_lt_zero _)⟩
      case turn2 =>
        clear F3 N₁ hfill1 hdone1 hk ha hrow1
        rintro k tc m3 nz3 h5 tk5 I2 io2 hkk ⟨rest, tw, tr, c2, rfl, ha, hk, hfill2, hdone2, hrow2, hcol2⟩ ha2 F₁ N₁
        have F3 := fr_turn F₁ _ hk rfl
        clear F₁
        have hj' : j < PH f i := by omega
        have hk' : k < PW f i := by omega
        obtain ⟨fh1, ft1, fu1, fh2, ft2, fo1, fo2⟩ := (hfill2.skel.mono (M' := fun a o => (a, o) ∈ rest) fun a o y => y.1).1
        obtain ⟨rvs, re, hrrow, rvl, _⟩ := hfill2.rows i j hi' hj'
        (try k_unmd); (try k_fold)
        ktr_unf
        rename_i D h7 F7 N7 lt7
        generalize hus0 : [Value.int (i : Int) t, Value.int (k : Int) tc, Value.int (j : Int) tr, Value.int 7 _] = us at N7
        have hus : IntsAre us [(i : Int), (k : Int), (j : Int), 7] := by rw [← hus0]; exact .cons _ _ (.cons _ _ (.cons _ _ (.cons _ _ .nil)))
        have hul : us.length ≤ 1000 := by rw [← hus0]; simp
        clear hus0
        have ltr := allLt_mem lt7.2.2.2
        have hrm : (sk.Rw i j, PySem.W.listOf rvs.toArray re) ∈ (D, PySem.W.listOf us.toArray 0) :: (I2, io2) :: (I1, io1) :: (I0, io0) :: rest := .tail _ (.tail _ (.tail _ (.tail _ hrrow)))
        have hst7 : Stay s.heap (hideAll h7 [sk.Rw i j]) := fun a o e => hideAll_get _ (F7.keep _ _ e) (by
          intro hm
          rw [List.mem_singleton] at hm
          have := (N7 _ hrm).2.2
          dsimp only at this
          rw [← hm, e] at this; cases this)
        have hDr : D ≠ sk.Rw i j := Ne.symm (Nat.ne_of_lt (ltr _ hrrow))
        refine call_of_code ?_
        refine put_spec (f := f) (sk := sk) (i := i) (j := j) (k := k) (vs := rvs) (us := us) (X.keeps hst7) (T.keeps hst7) ((rm.le (by decide)).deeper _) ok ?_ hi' hj' hk' (N7 _ hrm).1 rvl (hideAll_get _ (N7 _ (.head _)).1 (by simpa using hDr)) hul ?_
        · refine hfill2.skel.mono fun a o y => hideAll_get _ (N7 (a, o) (.tail _ (.tail _ (.tail _ (.tail _ y.1))))).1 ?_
          intro hm
          rw [List.mem_singleton] at hm
          exact y.2 ⟨i, j, hi', hj', hm⟩
        intro h8 tk8 bb cc st8 hb0 hb hr8
        have hits : ∀ p ∈ [(D, PySem.W.listOf us.toArray 0), (I2, io2), (I1, io1), (I0, io0)], ∀ q ∈ rest, p.1 ≠ q.1 := by
          intro p hp q hq
          rcases List.mem_cons.mp hp with rfl | hp
          · exact Ne.symm (Nat.ne_of_lt (ltr q hq))
          rcases List.mem_cons.mp hp with rfl | hp
          · exact Ne.symm (ha2 q (.tail _ (.tail _ hq)))
          rcases List.mem_cons.mp hp with rfl | hp
          · exact Ne.symm (ha q hq).2
          · rw [List.mem_singleton] at hp; subst hp; exact Ne.symm (ha q hq).1
        obtain ⟨rest', F8, N8, hfill8, hsub8, hits8⟩ := after_put (its := [(D, PySem.W.listOf us.toArray 0), (I2, io2), (I1, io1), (I0, io0)]) F7 N7 hfill2 hits hi' hj' hk' hrrow hus hul st8 hb0 hb hr8
        clear F7 N7
        ktr_unf
        refine ⟨h8, _, _, (I1, io1) :: (I0, io0) :: rest', rfl, F8, fun q hq => N8 q (.tail _ hq), ?_, rest', tw, tr, _, rfl, ?_, ⟨rfl, rfl, rfl, rfl, rfl, trivial⟩, hfill8, ?_, ?_, ?_⟩
        · intro q hq
          rcases List.mem_cons.mp hq with rfl | hq
          · exact ha2 (I1, io1) (.head _)
          rcases List.mem_cons.mp hq with rfl | hq
          · exact ha2 (I0, io0) (.tail _ (.head _))
          · exact Ne.symm (hits8 (I2, io2) (.tail _ (.head _)) q hq)
        · intro q hq
          exact ⟨Ne.symm (hits8 (I0, io0) (.tail _ (.tail _ (.tail _ (.head _)))) q hq), Ne.symm (hits8 (I1, io1) (.tail _ (.tail _ (.head _))) q hq)⟩
        · intro i' j' k' a1 a2 a3 a4
          unfold updC
          rw [if_neg (by omega)]
          exact hdone2 i' j' k' a1 a2 a3 a4
        · intro j' k' a1 a2
          unfold updC
          rw [if_neg (by omega)]
          exact hrow2 j' k' a1 a2
        · intro k' a1
          unfold updC
          by_cases hkk' : k' = k
          · subst hkk'; rw [if_pos ⟨rfl, rfl, rfl⟩]
          · rw [if_neg (by omega)]
            exact hcol2 k' (by omega)
      case done2 =>
        rintro m3 nz3 h5 tk5 ⟨rest, tw, tr, c2, rfl, ha, ⟨e1, e2, e3, e4, e5, _⟩, hfill2, hdone2, hrow2, hcol2⟩ F₁ N₁
        ktr_unf
        refine ⟨h5, _, _, (I0, io0) :: rest, rfl, F₁, N₁, ?_, rest, tw, c2, rfl, fun q hq => (ha q hq).1, ⟨e1, e2, e3, e4, trivial⟩, hfill2, hdone2, ?_⟩
        · intro q hq
          rcases List.mem_cons.mp hq with rfl | hq
          · exact ha1 (I0, io0) (.head _)
          · exact (ha q hq).2
        · intro j' k' a1 a2
          by_cases hjj : j' = j
          · subst hjj; exact hcol2 k' (by omega)
          · exact hrow2 j' k' (by omega) a2
    case done1 =>
      rintro m3 nz3 h5 tk5 ⟨rest, tw, c2, rfl, ha, ⟨e1, e2, e3, e4, _⟩, hfill2, hdone2, hrow2⟩ F₁ N₁
      ktr_unf
      refine ⟨h5, _, _, rest, rfl, F₁, N₁, ha, ⟨e1, e2, trivial⟩, c2, hfill2, ?_⟩
      intro i' j' k' a1 a2 a3 a4
      by_cases hii : i' = i
      · subst hii; exact hrow2 j' k' (by omega) a4
      · exact hdone2 i' j' k' (by omega) a2 a3 a4
  case done =>
    rintro m₁ rest h3 tk ⟨hk, c0, hfill0, hdone0⟩ F₁ N₁
    have F3 := fr_kn F₁ _ hk
    clear F₁
    ktr_unf
    refine h _ _ sk.x F3.keep ?_
    exact (hfill0.grid fun i' j' k' a1 a2 a3 => hdone0 i' j' k' (by rw [Int.toNat_natCast]; exact a1) a1 a2 a3).mono fun a o y => ⟨(N₁ (a, o) y).1, (N₁ (a, o) y).2.2⟩
end
end Mine
end
-- S14
section
open PySem PySem.W PySem.Calls PyProof.Rows
namespace Mine
theorem rs_S14 : True := by
  w_top off
  trivial
local macro_rules | `(tactic| walk_at "pad") => `(tactic| skip)

local macro_rules | `(tactic| k_inst) => `(tactic| first
  | (refine' inst_base ?F ?h1 ?h2; (case F => k_asm); (case h1 => assumption); (case h2 => assumption))
  | (refine' InstAt.of_news ?N ?h1 ?h2; (case N => k_asm); (case h1 => assumption); (case h2 => assumption)))
local macro_rules | `(tactic| walk_at "binaryOp FloorDiv int int") => `(tactic| ((with_reducible refine floordiv_int ?kb ?_ (Or.inl (PyProof.noPylong_small ?kp))); (case kb => omega); (case kp => omega)))
local macro_rules | `(tactic| walk_at "binaryOp Mult int int") => `(tactic| ((with_reducible refine mul_int ?_ (mulok_r ?k1 ?k2)); (case k1 => omega); (case k2 => omega)))
local macro_rules | `(tactic| ktr_unf) => `(tactic| repeat' (first
  | (k_unfold; (try dsimp only))
  | (with_reducible refine wpAny_execs_cons ?_)
  | ((fail_if_success (with_reducible show wpAny _ _ (exec (Stmt.For _ _ _ _ _) _) _ _ _)); (fail_if_success (with_reducible show wpAny _ _ (eval (Expr.ListComp _ _ _ _) _) _ _ _)); (fail_if_success (with_reducible show wpAny _ _ (pyIter _) _ _ _)); (fail_if_success (with_reducible show wpAny _ _ (call (Value.type "range") _) _ _ _)); (fail_if_success (with_reducible show wpAny _ _ (call (Value.builtin "list.append") _) _ _ _)); (fail_if_success (with_reducible show wpAny _ _ (setItem _ _ _) _ _ _)); (fail_if_success (with_reducible show wpAny _ _ (call (Value.type "list") _) _ _ _)); first | walk1 | (dsimp only; walk1))
  | fail "no step"))
local macro_rules | `(tactic| walk_at "subscriptTail Attribute Name Name ref int") => `(tactic| ((with_reducible show wpAny _ _ (subscriptTail _ _ (Value.ref _) (Value.int _ _)) _ _ _); (refine' my_item ?kl ?kh ?kx ?_ ?ks); (case kl => first | exact Fr.keep (by assumption) _ _ (by assumption) | exact (News.get (by assumption) (by k_mem))); (case kx => assumption); (case kh => omega); (case ks => with_unfolding_all rfl)))
local macro_rules | `(tactic| walk_at "subscriptTail Subscript Attribute Name Name ref int") => `(tactic| ((with_reducible show wpAny _ _ (subscriptTail _ _ (Value.ref _) (Value.int _ _)) _ _ _); (refine' my_item ?kl ?kh ?kx ?_ ?ks); (case kl => first | exact Fr.keep (by assumption) _ _ (by assumption) | exact (News.get (by assumption) (by k_mem))); (case kx => assumption); (case kh => omega); (case ks => with_unfolding_all rfl)))
local macro_rules | `(tactic| walk_at "subscriptTail Subscript Subscript Name Name ref int") => `(tactic| ((with_reducible show wpAny _ _ (subscriptTail _ _ (Value.ref _) (Value.int _ _)) _ _ _); (refine' my_item ?kl ?kh ?kx ?_ ?ks); (case kl => first | exact Fr.keep (by assumption) _ _ (by assumption) | exact (News.get (by assumption) (by k_mem))); (case kx => assumption); (case kh => omega); (case ks => with_unfolding_all rfl)))
local macro_rules | `(tactic| walk_at "subscriptTail") => `(tactic| ((with_reducible show wpAny _ _ (subscriptTail _ _ (Value.ref _) (Value.int _ _)) _ _ _); (refine' my_item ?kl ?kh ?kx ?_ ?ks); (case kl => first | exact Fr.keep (by assumption) _ _ (by assumption) | exact (News.get (by assumption) (by k_mem))); (case kx => assumption); (case kh => omega); (case ks => with_unfolding_all rfl)))
local macro_rules | `(tactic| k_mem) => `(tactic| assumption)
local macro_rules | `(tactic| k_all) => `(tactic| assumption)
local macro_rules | `(tactic| walk_at "call ref") => `(tactic| ((with_reducible show wpAny _ _ (call (Value.ref 215) _) _ _ _); (rename Fr _ _ _ _ => kF9); (rename News _ _ _ _ => kN9); (refine' take_in kF9 kN9 ?U ?X ?T ?rm ?ok ?t0 ?t1 ?_); (case U => k_updF); (case X => assumption); (case T => assumption); (case rm => exact Room.deeper (Room.le (by assumption) (by decide)) _); (case ok => assumption); (case t0 => omega); (case t1 => omega); (clear kF9 kN9); intro h' tk' r' t' a' b' ta' tb' e' kF' kN' ok' r0' r1'; (try dsimp only at kN'); (try dsimp only)))
local macro_rules | `(tactic| walk_at "call ref") => `(tactic| ((rename Fr _ _ _ _ => kF9); (rename News _ _ _ _ => kN9); (refine call_of_code ?_); (refine' mcA_spec (Frag.In.keeps (by assumption) (Fr.keep kF9)) (TopRead.keeps (by assumption) (Fr.keep kF9)) (Room.deeper (Room.le (by assumption) (by decide)) _) ?hf ?ok ?_); (case hf => first | exact FrameAt.mono (by assumption) (fun _ _ e => Fr.keep kF9 _ _ e) | exact FrameAt.mono (by assumption) (fun _ _ e => (kN9 (_, _) (by k_mem)).1) | exact FrameAt.mono (by assumption) (fun _ _ e => (kN9 (_, _) (List.mem_append_right _ (mem_madeList.mpr e))).1)); (case ok => assumption); intro h' tk' t' st'; (have kF' := fr_stay kF9 st'); (have kN' := news_stay kN9 st'); (try clear kF9); (try clear kN9); (try dsimp only)))
local macro_rules | `(tactic| walk_at "call ref") => `(tactic| ((rename Fr _ _ _ _ => kF9); (rename News _ _ _ _ => kN9); (refine call_of_code ?_); (refine' mcD_spec (Frag.In.keeps (by assumption) (Fr.keep kF9)) (TopRead.keeps (by assumption) (Fr.keep kF9)) (Room.deeper (Room.le (by assumption) (by decide)) _) ?hf ?ok ?_); (case hf => first | exact FrameAt.mono (by assumption) (fun _ _ e => Fr.keep kF9 _ _ e) | exact FrameAt.mono (by assumption) (fun _ _ e => (kN9 (_, _) (by k_mem)).1) | exact FrameAt.mono (by assumption) (fun _ _ e => (kN9 (_, _) (List.mem_append_right _ (mem_madeList.mpr e))).1)); (case ok => assumption); intro h' tk' t' st'; (have kF' := fr_stay kF9 st'); (have kN' := news_stay kN9 st'); (try clear kF9); (try clear kN9); (try dsimp only)))
section
variable {prog : Program} {w : World} {A : Around} {s : Shared} {R : Result → Shared → Prop} {p : Program} {loose : List Str} {mg mb : Str → Option Value}
set_option maxHeartbeats 1000000 in
theorem part_spec {src fx : Addr} {f : Fm} {a b : Int} {ta tb : Tok} {e0 : Nat} (X : (hd.heap_39 w.params).In (hideAll s.heap [src])) (T : TopRead p loose mg mb (hideAll s.heap [src])) (rm : Room A 6)
    (hs : s.heap.get? src = some (PySem.W.listOf [Value.int a ta, Value.int b tb].toArray e0)) (oks : SrcOk a b) (hf : FrameAt (live (hideAll s.heap [src])) fx f) (ok : f.Ok)
    (h : ∀ h' tk c px py pa pd t1 t2 t3 t4 a' b' ta' tb' e', Stay (hideAll s.heap [src]) h' → h'.get? src = some (PySem.W.listOf [Value.int a' ta', Value.int b' tb'].toArray e') → SrcOk a' b' →
      made s.heap h' c (tupOf [.int px t1, .int py t2, .int pa t3, .int pd t4]) → 0 ≤ px → px < mcA f → 0 ≤ py → py < mcD f → 1 ≤ pa → pa ≤ mcA f - px + 1 → 1 ≤ pd → pd ≤ mcD f - py + 1 → R (.ok (.ret (.ref c))) { s with heap := h', toks := tk }) :
    codeAny (model prog w) A (.call (.ref 236) ⟨[.ref src, .ref fx], []⟩) R s := by
  obtain ⟨dx, h1, t1, u1, h2, t2, u2, h3, t3, u3, h4, t4, u4, h5, t5, h6, t6, u6, l, vs, e, hx, hdx, hl, hcs⟩ := id hf
  have b2 := ok.mcA
  have b3 := ok.mcD
  obtain ⟨ah, ad, af, ag, au⟩ := A
  obtain rfl : ah = none := rm.handled
  refine' call_B (news := [(src, PySem.W.listOf [Value.int a ta, Value.int b tb].toArray e0)]) [(Str.ofString "source", .ref src), (Str.ofString "frame", .ref fx)] (fun _ _ e => of_hideAll _ e) (Nat.le_of_eq (hideAll_size _ _)) ?hn ?X ?lim ?ho ?hcd ?room ?bind ?loc ?_ ?c2 ?c3 ?c4 ?c5
  case X => exact X
  case ho => k_is
  case hcd => k_is
  case lim => exact (T).nolimit
  case room => exact rm.lim
  case bind => exact BindsTo.of_eq rfl
  case loc => exact locs rfl
  case hn => 
    intro q hq
    rw [List.mem_singleton] at hq; subst hq; exact ⟨hs, hideAll_none _ (.head _)⟩
  case c2 => rfl
  case c3 => rfl
  case c4 => rfl
  case c5 => decide
  intro h₁ F N; (try dsimp only); k_fold
  ktr_unf
  rename_i lD
  rename Fr _ _ _ _ => F9
  rename News _ _ _ _ => N9
  exact h _ _ _ _ _ _ _ _ _ _ _ _ _ _ _ _ F9.keep (N9 _ (.tail _ (.tail _ (.tail _ (.head _))))).1 (by assumption) ⟨(N9 _ (.head _)).1, none_of_base (N9 _ (.head _)).2.2 (Ne.symm (Nat.ne_of_lt lD.2.2))⟩ (by assumption) (by assumption) (by assumption) (by assumption) (by omega) (by omega) (by omega) (by omega)
end
end Mine
end
-- S15
section
open PySem PySem.W PySem.Calls PyProof.Rows
namespace Mine
theorem rs_S15 : True := by
  w_top off
  trivial
local macro_rules | `(tactic| walk_at "pad") => `(tactic| skip)

local macro_rules | `(tactic| k_inst) => `(tactic| first
  | (refine' inst_base ?F ?h1 ?h2; (case F => k_asm); (case h1 => assumption); (case h2 => assumption))
  | (refine' InstAt.of_news ?N ?h1 ?h2; (case N => k_asm); (case h1 => assumption); (case h2 => assumption)))
local macro_rules | `(tactic| walk_at "binaryOp FloorDiv int int") => `(tactic| ((with_reducible refine floordiv_int ?kb ?_ (Or.inl (PyProof.noPylong_small ?kp))); (case kb => omega); (case kp => omega)))
local macro_rules | `(tactic| walk_at "binaryOp Mult int int") => `(tactic| ((with_reducible refine mul_int ?_ (mulok_r ?k1 ?k2)); (case k1 => omega); (case k2 => omega)))
local macro_rules | `(tactic| ktr_unf) => `(tactic| repeat' (first
  | (k_unfold; (try dsimp only))
  | (with_reducible refine wpAny_execs_cons ?_)
  | ((fail_if_success (with_reducible show wpAny _ _ (exec (Stmt.For _ _ _ _ _) _) _ _ _)); (fail_if_success (with_reducible show wpAny _ _ (eval (Expr.ListComp _ _ _ _) _) _ _ _)); (fail_if_success (with_reducible show wpAny _ _ (pyIter _) _ _ _)); (fail_if_success (with_reducible show wpAny _ _ (call (Value.type "range") _) _ _ _)); (fail_if_success (with_reducible show wpAny _ _ (call (Value.builtin "list.append") _) _ _ _)); (fail_if_success (with_reducible show wpAny _ _ (setItem _ _ _) _ _ _)); (fail_if_success (with_reducible show wpAny _ _ (call (Value.type "list") _) _ _ _)); (fail_if_success (with_reducible show wpAny _ _ (call (Value.ref 159) _) _ _ _)); (fail_if_success (with_reducible show wpAny _ _ (compareOp CmpOp.NotEq (Value.ref _) (Value.ref _)) _ _ _)); first | walk1 | (dsimp only; walk1))
  | fail "no step"))
local macro_rules | `(tactic| walk_at "subscriptTail Attribute Name Name ref int") => `(tactic| ((with_reducible show wpAny _ _ (subscriptTail _ _ (Value.ref _) (Value.int _ _)) _ _ _); (refine' my_item ?kl ?kh ?kx ?_ ?ks); (case kl => first | exact Fr.keep (by assumption) _ _ (by assumption) | exact (News.get (by assumption) (by k_mem))); (case kx => assumption); (case kh => omega); (case ks => with_unfolding_all rfl)))
local macro_rules | `(tactic| walk_at "subscriptTail Subscript Attribute Name Name ref int") => `(tactic| ((with_reducible show wpAny _ _ (subscriptTail _ _ (Value.ref _) (Value.int _ _)) _ _ _); (refine' my_item ?kl ?kh ?kx ?_ ?ks); (case kl => first | exact Fr.keep (by assumption) _ _ (by assumption) | exact (News.get (by assumption) (by k_mem))); (case kx => assumption); (case kh => omega); (case ks => with_unfolding_all rfl)))
local macro_rules | `(tactic| walk_at "subscriptTail Subscript Subscript Name Name ref int") => `(tactic| ((with_reducible show wpAny _ _ (subscriptTail _ _ (Value.ref _) (Value.int _ _)) _ _ _); (refine' my_item ?kl ?kh ?kx ?_ ?ks); (case kl => first | exact Fr.keep (by assumption) _ _ (by assumption) | exact (News.get (by assumption) (by k_mem))); (case kx => assumption); (case kh => omega); (case ks => with_unfolding_all rfl)))
local macro_rules | `(tactic| walk_at "subscriptTail") => `(tactic| ((with_reducible show wpAny _ _ (subscriptTail _ _ (Value.ref _) (Value.int _ _)) _ _ _); (refine' my_item ?kl ?kh ?kx ?_ ?ks); (case kl => first | exact Fr.keep (by assumption) _ _ (by assumption) | exact (News.get (by assumption) (by k_mem))); (case kx => assumption); (case kh => omega); (case ks => with_unfolding_all rfl)))
local macro_rules | `(tactic| walk_at "call builtin:len") => `(tactic| ((with_reducible show wpAny _ _ (call (Value.builtin "len") [Value.ref _]) _ _ _); (refine' my_len ?kl ?kn ?kh ?_); (case kl => first | exact Fr.keep (by assumption) _ _ (by assumption) | exact (News.get (by assumption) (by k_mem))); (case kn => assumption); (case kh => omega)))
local macro_rules | `(tactic| k_mem) => `(tactic| assumption)
local macro_rules | `(tactic| units_room) => `(tactic| exact Room.units64 (by assumption))
local macro_rules | `(tactic| walk_at "call ref") => `(tactic| ((rename Fr _ _ _ _ => kF9); (rename News _ _ _ _ => kN9); (refine call_of_code ?_); (refine' mostA_spec (Frag.In.keeps (by assumption) (Fr.keep kF9)) (TopRead.keeps (by assumption) (Fr.keep kF9)) (Room.deeper (Room.le (by assumption) (by decide)) _) ?hf ?ok ?_); (case hf => exact FrameAt.mono (by assumption) (fun _ _ e => Fr.keep kF9 _ _ e)); (case ok => assumption); intro h' tk' t' st'; (have kF' := fr_stay kF9 st'); (have kN' := news_stay kN9 st'); (clear kF9 kN9); (try dsimp only)))
local macro_rules | `(tactic| walk_at "call ref") => `(tactic| ((rename Fr _ _ _ _ => kF9); (rename News _ _ _ _ => kN9); (refine call_of_code ?_); (refine' mostD_spec (Frag.In.keeps (by assumption) (Fr.keep kF9)) (TopRead.keeps (by assumption) (Fr.keep kF9)) (Room.deeper (Room.le (by assumption) (by decide)) _) ?hf ?ok ?_); (case hf => exact FrameAt.mono (by assumption) (fun _ _ e => Fr.keep kF9 _ _ e)); (case ok => assumption); intro h' tk' t' st'; (have kF' := fr_stay kF9 st'); (have kN' := news_stay kN9 st'); (clear kF9 kN9); (try dsimp only)))
local macro_rules | `(tactic| walk_at "call ref") => `(tactic| ((rename Fr _ _ _ _ => kF9); (rename News _ _ _ _ => kN9); (refine call_of_code ?_); (refine' padded_spec (Frag.In.keeps (by assumption) (Fr.keep kF9)) (TopRead.keeps (by assumption) (Fr.keep kF9)) (Room.deeper (Room.le (by assumption) (by decide)) _) ?hf ?ok ?hc ?_); (case hf => first | exact FrameAt.mono (by assumption) (fun _ _ e => Fr.keep kF9 _ _ e) | exact FrameAt.mono (by assumption) (fun _ _ e => (kN9 (_, _) (by k_mem)).1) | exact FrameAt.mono (by assumption) (fun _ _ e => (kN9 (_, _) (List.mem_append_right _ (mem_madeList.mpr e))).1)); (case ok => assumption); (case hc => assumption); intro h' tk' a' t' t2' st' fr' up'; (have kF' := fr_stay kF9 st'); (have kN' := news_cons kF9 kN9 st' fr' up'); (try clear kF9); (try clear kN9); (try dsimp only)))
section
variable {prog : Program} {w : World} {A : Around} {s : Shared} {R : Result → Shared → Prop} {p : Program} {loose : List Str} {mg mb : Str → Option Value}
set_option maxHeartbeats 1000000 in
theorem ispart_spec {fx lx gx pt : Addr} {f : Fm} {ht' wd' px py pa pd : Int} {t1' t2' t3' t4' : Tok} {cell : Nat → Nat → Nat → List Int} (X : (hd.heap_39 w.params).In s.heap) (T : TopRead p loose mg mb s.heap) (rm : Room A 6)
    (hf : FrameAt (live s.heap) fx f) (ok : f.Ok) (hfl : FrameAt (live s.heap) lx ⟨f.kind, f.prec, ht', wd', f.cs⟩) (okl : Fm.Ok ⟨f.kind, f.prec, ht', wd', f.cs⟩)
    (hg : GridAt (live s.heap) gx ⟨f.kind, f.prec, ht', wd', f.cs⟩ cell) (hpt : s.heap.get? pt = some (tupOf [.int px t1', .int py t2', .int pa t3', .int pd t4']))
    (x0 : 0 ≤ px) (x1 : px < 1000) (y0 : 0 ≤ py) (y1 : py < 1000)
    (hw : wd' = min (pa * (2 * mxA f.cs)) (f.wd - px * (2 * mxA f.cs))) (hh : ht' = min (pd * (2 * mxD f.cs)) (f.ht - py * (2 * mxD f.cs)))
    (hcell : ∀ i j k c, f.cs[i]? = some c → j < PH ⟨f.kind, f.prec, ht', wd', f.cs⟩ i → k < PW ⟨f.kind, f.prec, ht', wd', f.cs⟩ i → cell i j k = [(i : Int), px * c.ac + (k : Int), py * c.dn + (j : Int), 7])
    (h : ∀ h' tk, Stay s.heap h' → R (.ok (.ret (.bool true))) { s with heap := h', toks := tk }) :
    codeAny (model prog w) A (.call (.ref 243) ⟨[.ref fx, .ref lx, .ref gx, .ref pt], []⟩) R s := by
  obtain ⟨dx, h1, t1, u1, h2, t2, u2, h3, t3, u3, h4, t4, u4, h5, t5, h6, t6, u6, l, vs, e, hx, hdx, hl, hcs⟩ := id hf
  obtain ⟨ldx, lh1, lt1, lu1, lh2, lt2, lu2, lh3, lt3, lu3, lh4, lt4, lu4, lh5, lt5, lh6, lt6, lu6, ll, lvs, le, lhx, lhdx, lhl, lhcs⟩ := id hfl
  have q1 : 1 ≤ mxA f.cs := by rcases ok.mA with q | q <;> omega
  have q2 : mxA f.cs ≤ 2 := by rcases ok.mA with q | q <;> omega
  have q3 : 1 ≤ mxD f.cs := by rcases ok.mD with q | q <;> omega
  have q4 : mxD f.cs ≤ 2 := by rcases ok.mD with q | q <;> omega
  have hlen := hcs.1
  have hllen : lvs.length = f.cs.length := lhcs.1
  have b1 := ok.c1
  obtain ⟨ah, ad, af, ag, au⟩ := A
  obtain rfl : ah = none := rm.handled
  refine' call_B (news := []) [(Str.ofString "frame", .ref fx), (Str.ofString "later", .ref lx), (Str.ofString "found", .ref gx), (Str.ofString "part", .ref pt)] (Stay.refl _) (Nat.le_refl _) ?hn ?X ?lim ?ho ?hcd ?room ?bind ?loc ?_ ?c2 ?c3 ?c4 ?c5
  case X => exact X
  case ho => k_is
  case hcd => k_is
  case lim => exact (T).nolimit
  case room => exact rm.lim
  case bind => exact BindsTo.of_eq rfl
  case loc => exact locs rfl
  case hn => intro q hq; cases hq
  case c2 => rfl
  case c3 => rfl
  case c4 => rfl
  case c5 => decide
  intro h₁ F N; (try dsimp only); k_fold
  have hT : IsTup h₁ pt [Value.int px t1', Value.int py t2', Value.int pa t3', Value.int pd t4'].toArray := ⟨_, F.keep _ _ hpt, rfl, _, rfl⟩
  ktr_unf
  have ew : (if f.wd - px * (2 * mxA f.cs) < pa * (2 * mxA f.cs) then f.wd - px * (2 * mxA f.cs) else pa * (2 * mxA f.cs)) = wd' := by rw [hw]; split <;> omega
  have eh : (if f.ht - py * (2 * mxD f.cs) < pd * (2 * mxD f.cs) then f.ht - py * (2 * mxD f.cs) else pd * (2 * mxD f.cs)) = ht' := by rw [hh]; split <;> omega
  rename News _ _ _ _ => N2
  rw [ew, eh] at N2
  walk1
  ktr_unf
  all_goals (try (exfalso; omega))
  have kd := ok.kd
  simp only [PyData.canLay0] at kd
  refine ne_dataH (by ke_read) (by ke_read) ?sh1 ?sh2 (by ke_room) ?_
  case sh1 => simp [SeqAt.shaped, PyData.canLay0, PyData.canLayAll0, PyData.depth, PyData.depthAll, kd]
  case sh2 => simp [SeqAt.shaped, PyData.canLay0, PyData.canLayAll0, PyData.depth, PyData.depthAll, kd]
  ke_norm
  ktr_unf
  rename Fr _ _ _ _ => F3
  rename News _ _ _ _ => N3
  have N4 : News s.heap s.heap.objs.size _ [] := fun q hq => N3 q (by cases hq)
  clear N3
  (try k_unmd); (try k_fold)
  obtain ⟨skg, rfl, hskg, hrowg⟩ := hg
  refine For_invV s.heap rfl rfl ?_ (by intro _; rfl) (by passes_own)
  ktr_unf
  refine' loop_range (fun i m nz => Knows m [(Str.ofString "frame", .ref fx), (Str.ofString "later", .ref lx), (Str.ofString "found", .ref skg.x), (Str.ofString "x", .int px t1'), (Str.ofString "y", .int py t2')] ∧ nz = []) rfl ?r0 ?r1 ?F ?N ?h0 ?turn ?done
  case r0 => omega
  case r1 => omega
  case F => exact F3
  case N => exact N4
  case h0 => exact ⟨⟨rfl, rfl, rfl, rfl, rfl, trivial⟩, rfl⟩
  case turn =>
    rintro i t m₁ nz h3 tk I0 io0 hi ⟨hk, rfl⟩ ha F₁ N₁
    have F5 := fr_turn F₁ _ hk rfl
    clear F₁ F3 N4
    have hi' : i < f.cs.length := by omega
    have hc : f.cs[i]? = some f.cs[i] := by simp [hi']
    generalize f.cs[i] = c at hc
    obtain ⟨ca1, hv, hca⟩ := hcs.2 i c hc
    obtain ⟨da, i1, j1, k1, i2, j2, k2, i3, j3, k3, i4, j4, k4, hax, hda⟩ := id hca
    obtain ⟨la1, lv1, lca⟩ := lhcs.2 i c hc
    obtain ⟨lda, li1, lj1, lk1, li2, lj2, lk2, li3, lj3, lk3, li4, lj4, lk4, lax, ldda⟩ := id lca
    have hi3 : i < 3 := by omega
    have okc := ok.cs c (List.mem_of_getElem? hc)
    have q5 : 1 ≤ c.ac := by rcases okc.a with q | q <;> omega
    have q6 : c.ac ≤ 2 := by rcases okc.a with q | q <;> omega
    have q7 : 1 ≤ c.dn := by rcases okc.d with q | q <;> omega
    have q8 : c.dn ≤ 2 := by rcases okc.d with q | q <;> omega
    have hPW := PW_eq okl (i := i) (c := c) hc
    have hPH := PH_eq okl (i := i) (c := c) hc
    have hPWl := PW_le okl i
    have hPHl := PH_le okl i
    (try k_unmd); (try k_fold)
    ktr_unf
    walk1
    ktr_unf
    rename Fr _ _ _ _ => F6
    rename News _ _ _ _ => N6
    have N7 : News s.heap s.heap.objs.size _ [(I0, io0)] := fun q hq => N6 q (by
      rw [List.mem_singleton] at hq; subst hq
      repeat (first | exact List.mem_singleton.mpr rfl | exact List.Mem.head _ | refine List.Mem.tail _ ?_))
    clear N6
    (try k_unmd); (try k_fold)
    refine For_invV s.heap rfl rfl ?_ (by intro _; rfl) (by passes_own)
    ktr_unf
    (try clear F6); (try clear N7)
    rename Fr _ _ _ _ => F6
    rename News _ _ _ _ => N6
    have N7 : News s.heap s.heap.objs.size _ [(I0, io0)] := fun q hq => N6 q (.tail _ hq)
    clear N6
    refine' loop_range (fun j m nz => Knows m [(Str.ofString "frame", .ref fx), (Str.ofString "later", .ref lx), (Str.ofString "found", .ref skg.x), (Str.ofString "x", .int px t1'), (Str.ofString "y", .int py t2'), (Str.ofString "place", .int (i : Int) t), (Str.ofString "own", .ref ca1)] ∧ nz = [(I0, io0)]) rfl ?r2 ?r3 ?F1 ?N1 ?h01 ?turn1 ?done1
    case r2 => omega
    case r3 => omega
    case F1 => exact F6
    case N1 => exact N7
    case h01 => exact ⟨⟨rfl, rfl, rfl, rfl, rfl, rfl, rfl, trivial⟩, rfl⟩
    case turn1 =>
      rintro j tj m2 nz2 h4 tk4 I1 io1 hj ⟨hk2, rfl⟩ ha1 F₁ N₁
      have F7 := fr_turn F₁ _ hk2 rfl
      clear F₁ F6 N7
      (try k_unmd); (try k_fold)
      ktr_unf
      (try k_unmd); (try k_fold)
      refine For_invV s.heap rfl rfl ?_ (by intro _; rfl) (by passes_own)
      ktr_unf
      rename Fr _ _ _ _ => F8
      rename News _ _ _ _ => N8
      have N9 : News s.heap s.heap.objs.size _ [(I1, io1), (I0, io0)] := fun q hq => N8 q (.tail _ hq)
      clear N8
      refine' loop_range (fun k m nz => ∃ tr, Knows m [(Str.ofString "frame", .ref fx), (Str.ofString "later", .ref lx), (Str.ofString "found", .ref skg.x), (Str.ofString "x", .int px t1'), (Str.ofString "y", .int py t2'), (Str.ofString "place", .int (i : Int) t), (Str.ofString "own", .ref ca1), (Str.ofString "row", .int (j : Int) tr)] ∧ nz = [(I1, io1), (I0, io0)]) rfl ?r4 ?r5 ?F2 ?N2 ?h02 ?turn2 ?done2
      case r4 => omega
      case r5 => omega
      case F2 => exact F8
      case N2 => exact N9
      case h02 => exact ⟨_, ⟨rfl, rfl, rfl, rfl, rfl, rfl, rfl, rfl, trivial⟩, rfl⟩
      case turn2 =>
        rintro k tc m3 nz3 h5 tk5 I2 io2 hkk ⟨tr, hk3, rfl⟩ ha2 F₁ N₁
        have F9 := fr_turn F₁ _ hk3 rfl
        clear F₁ F8 N9
        have hj' : j < PH ⟨f.kind, f.prec, ht', wd', f.cs⟩ i := by omega
        have hk' : k < PW ⟨f.kind, f.prec, ht', wd', f.cs⟩ i := by omega
        obtain ⟨gh1, gt1, gu1, gh2, gt2, go1, go2⟩ := hskg.1
        obtain ⟨gvs, ge, grow, gvl, gcell⟩ := hrowg i j hi' hj'
        obtain ⟨gv, gv1, gb, rfl, us, ue, hgb, hus, hul⟩ := gcell k hk'
        (try k_unmd); (try k_fold)
        ktr_unf
        refine call_of_code ?_
        refine get_spec (f := ⟨f.kind, f.prec, ht', wd', f.cs⟩) (sk := skg) (i := i) (j := j) (k := k) (X.keeps F9.keep) (T.keeps F9.keep) ((rm.le (by decide)).deeper _) okl (hskg.mono fun a o y => F9.keep _ _ y) hi' hj' hk' (F9.keep _ _ grow) gv1 ?_
        intro h6 tk6 st6
        have F10 := fr_stay F9 st6
        have N10 := news_stay N₁ st6
        clear F9 N₁
        ktr_unf
        rename_i l7 h7 F11 N11 lt7
        have hl9 : h7.IsList gb us.toArray := ⟨_, F11.keep _ _ hgb, rfl, _, rfl⟩
        refine ne_intsK (vs := us) hl9 hus (us := [_,_,_,_]) ⟨_, (N11 _ (.head _)).1, rfl, _, rfl⟩ (.cons _ _ (.cons _ _ (.cons _ _ (.cons _ _ .nil)))) (Room.units64 rm) ?_
        rw [hcell i j k c hc hj' hk']; simp only [decide_true, Bool.not_true]
        ktr_unf
        refine ⟨h7, _, _, [(I1, io1), (I0, io0)], rfl, F11, fun q hq => N11 q (.tail _ hq), ?_, tr, ⟨rfl,rfl,rfl,rfl,rfl,rfl,rfl,rfl,trivial⟩, rfl⟩
        intro q hq
        exact ha2 q hq
      case done2 =>
        rintro m3 nz3 h5 tk5 ⟨tr, ⟨e1, e2, e3, e4, e5, e6, e7, e8, _⟩, rfl⟩ F₁ N₁
        ktr_unf
        refine ⟨h5, _, _, [(I0, io0)], rfl, F₁, N₁, ?_, ⟨e1, e2, e3, e4, e5, e6, e7, trivial⟩, rfl⟩
        intro q hq
        rw [List.mem_singleton] at hq; subst hq
        exact ha1 (I0, io0) (.head _)
    case done1 =>
      rintro m3 nz3 h5 tk5 ⟨⟨e1, e2, e3, e4, e5, e6, e7, _⟩, rfl⟩ F₁ N₁
      ktr_unf
      refine ⟨h5, _, _, [], rfl, F₁, N₁, fun q hq => (by cases hq), ⟨e1, e2, e3, e4, e5, trivial⟩, rfl⟩
  case done =>
    rintro m₁ nz h3 tk ⟨hk, rfl⟩ F₁ N₁
    have F5 := fr_kn F₁ _ hk
    clear F₁
    ktr_unf
    exact h _ _ F5.keep
end
end Mine
end
-- S16
section
open PySem PySem.W PySem.Calls PyProof.Rows
namespace Mine
abbrev bmF : List Value := [.ref 31, .type "Exception", .type "BaseException", .type "object"]
abbrev excObj (C t : Addr) (dd : Option Addr) : Obj := { cls := .ref C, dict := dd, data := .fields #[.ref t, .none, .none, .none, .bool false, .none] }
abbrev excHeap (h : Heap) (C : Addr) (rest : List Value) : Heap := (h.push { cls := .type "tuple", data := .seq rest.toArray }).push (excObj C h.objs.size none)
theorem cls44 {p : Params} {h : Heap} (X : (hd.heap_39 p).In h) : ∃ nm q N bs sn sub ab col dd k0 k1 k2 k3 k5, h.get? 44 = some (excClassObj nm q 44 N bs bmF true sn sub ab col dd k0 k1 k2 k3 k5 "Exception.__new__") := by
  exact ⟨_, _, _, _, _, _, _, _, _, _, _, _, _, _, X 44 _ (by with_unfolding_all rfl)⟩
section
variable {prog : Program} {w : World} {A : Around} {E : Value → Shared → Prop} {R : Result → Shared → Prop} {h : Heap} {g : Array GenState} {d : Drawn} {t : Nat} {os : OsState}
  {nm q : Str} {N : Addr} {bs : List Value} {sn : List Str} {sub : List Value} {ab : Bool} {col : Option Bool} {dd : Option Addr} {k0 k1 k2 k3 k5 : Option Value}
theorem has_bmF (X : String) : bmF.contains (.type X) = [Value.type "Exception", .type "BaseException", .type "object"].contains (.type X) := by
  show List.contains (Value.ref 31 :: _) _ = _
  rw [List.contains_cons]; rfl
theorem new_check {M : Model} {rest : List Value} {Q : Unit → Shared → Prop} (hC : h.get? 44 = some (excClassObj nm q 44 N bs bmF true sn sub ab col dd k0 k1 k2 k3 k5 "Exception.__new__"))
    (hq : Q () ⟨h, g, d, t, os⟩) : wpAny M A (checkBuiltinCall "Exception.__new__" ⟨.ref 44 :: rest, []⟩) Q E ⟨h, g, d, t, os⟩ := by
  have F := PySem.F.excBase_Exception
  have hcont : (Value.ref 44 :: bmF).contains (.type "Exception") = true := by rw [List.contains_cons, has_bmF, F.hasB, Bool.or_true]
  have hstar := F.noStar
  simp only [checkBuiltinCall, F.newKind, F.newSplit, F.newRow]
  repeat (first | refine wpAny_loadPart_at hC ?_ | (refine wpAny_isSubtype_exc hC ?_; rw [hcont]) | refine wpAny_staticBase_exc hC ?_ | refine wpAny_madeBy_exc hC ?_ | simp only [bne_self_eq_false, Bool.false_eq_true, if_false] | wp_step)
  exact hq
theorem new_exc {rest : List Value} (hC : h.get? 44 = some (excClassObj nm q 44 N bs bmF true sn sub ab col dd k0 k1 k2 k3 k5 "Exception.__new__"))
    (hq : R (.ok (.ret (.ref (h.objs.size + 1)))) ⟨excHeap h 44 rest, g, d, t, os⟩) (hrest : rest.length ≤ sizeLine) :
    codeAny (model prog w) A (.builtin "Exception.__new__" ⟨.ref 44 :: rest, []⟩) R ⟨h, g, d, t, os⟩ := by
  have F := PySem.F.excBase_Exception
  have hends := F.ends
  have hcB : (Value.ref 44 :: bmF).contains (.type "Exception") = true := by rw [List.contains_cons, has_bmF, F.hasB, Bool.or_true]
  have hcA : (Value.ref 44 :: bmF).contains (.type "AttributeError") = false := by rw [List.contains_cons, has_bmF, F.noAttr]; rfl
  have hcN : (Value.ref 44 :: bmF).contains (.type "NameError") = false := by rw [List.contains_cons, has_bmF, F.noName]; rfl
  refine codeAny_builtinAt F.entry ?_
  unfold Builtin.«BaseException.__new__»
  refine PySem.wpAt_bind ?_
  show PySem.wpAt _ _ _ (stack >>= _) _ _ _
  refine PySem.wpAt_bind (PySem.wpAt_stack fun p below => PySem.wpAt_of_wpAny ?_)
  wp_walk
  refine PySem.wpAt_of_wpAny ?_
  rw [F.owner]
  repeat (first | with_reducible refine wpAny_madeHere_exc F.canon hC ?_ | with_reducible refine wpAny_loadPart_at hC ?_ | (with_reducible refine wpAny_isSubtype_exc hC ?_; first | rw [hcB] | rw [hcA] | rw [hcN]) | wp_step)
  show R _ _
  rw [Heap.size_push]
  exact hq
/-- a refusal is made: the record, then its own __init__ -/
theorem exc_make {rest : List Value} (X : (hd.heap_39 w.params).In h) (hrest : rest.length ≤ sizeLine)
    (hq : codeAny (model prog w) (A.under (.builtin "type.__call__" ⟨.ref 44 :: rest, []⟩)) (.call (.ref 28) ⟨.ref (h.objs.size + 1) :: rest, []⟩) (InitBack (h.objs.size + 1) R) ⟨excHeap h 44 rest, g, d, t, os⟩) :
    codeAny (model prog w) A (.call (.ref 44) ⟨rest, []⟩) R ⟨h, g, d, t, os⟩ := by
  obtain ⟨nm, q, N, bs, sn, sub, ab, col, dd, k0, k1, k2, k3, k5, hC⟩ := cls44 X
  have F := PySem.F.excBase_Exception
  have f1 := tc_lookup
  have f2 := tc_bind (.ref 44)
  have hT : (⟨h, g, d, t, os⟩ : Shared).TypeIs (.ref 44) "type" := ⟨_, hC, rfl⟩
  refine codeAny_of_tree ?_
  show wpAny _ _ (callAny (.ref 44) _) _ _ _
  repeat (any_goals (first | assumption | with_reducible refine wpAny_loadPart_at hC ?_ | wp_step))
  refine ⟨rfl, ?_⟩
  refine codeAny_call_builtin_at (Code.quiet_builtin _ (by decide +kernel)) entry_typeCall (wpAny_check_type_call_sub hC ?_)
  unfold Builtin.«type.__call__»
  repeat (first | with_reducible refine wpAny_loadPart_at hC ?_ | with_reducible refine wpAny_madeBy_exc hC ?_ | wp_step)
  refine codeAny_call_builtin_code (Code.quiet_builtin _ F.quiet) (new_check hC ?_)
  refine new_exc hC ?_ hrest
  show wpAny _ _ _ _ _ _
  have k : ∀ b o, h.get? b = some o → (excHeap h 44 rest).get? b = some o := fun b o e => Heap.get?_push_of_some _ (Heap.get?_push_of_some _ e)
  have hC₁ := k _ _ hC
  have X₁ := X.keeps k
  have hget : (excHeap h 44 rest).get? (h.objs.size + 1) = some (excObj 44 h.objs.size none) := Heap.get?_push_at (by rw [Heap.size_push]) rfl
  have hcC : (Value.ref 44 :: bmF).contains (.ref 44) = true := by simp
  unfold isInstance
  repeat (first | with_reducible refine wpAny_loadPart_at hget ?_ | (with_reducible refine wpAny_isSubtype_exc hC₁ ?_; rw [hcC]) | wp_step)
  dsimp only
  refine wpAny_isSubtype_exc hC₁ ?_
  rw [hcC]
  rw [if_neg (by decide)]
  refine wpAny_bind (wpAny_holding (wpAny_bind (wpAny_bind ?_)))
  have tt : Looks (model prog w) (excHeap h 44 rest) (typeOf (.ref (h.objs.size + 1))) (.ref 44) := (Looks.ld hget).andThen .now
  have li : Looks (model prog w) (excHeap h 44 rest) (typeLookup (.ref 44) "__init__") (some (.ref 28)) := looks_findIn X₁ (by with_unfolding_all rfl)
  have lb : Looks (model prog w) (excHeap h 44 rest) (bindSpecial (.ref 28) (.ref (h.objs.size + 1))) (.ref 28, [.ref (h.objs.size + 1)]) := bind_fn X₁ _ (by with_unfolding_all rfl)
  refine tt.here ?_
  refine li.here ?_
  refine wpAny_holding (wpAny_bind ?_)
  refine lb.here ?_
  refine wpAny_bind (wpAny_call ?_)
  refine codeAny_mono hq fun r s' z => ?_
  rcases r with e | (v | _ | _ | _) <;> first | exact z | exact z.elim | skip
  obtain ⟨rfl, z⟩ := z
  exact wpAny_pure (wpAny_pure z)
end
end Mine
end
-- S17
section
open PySem.Builtin PySem.Builtin.ObjectAttr PySem PySem.W PySem.Calls PyProof.Rows
namespace Mine
theorem rs_S17 : True := by
  w_top off
  trivial

local macro_rules | `(tactic| k_inst) => `(tactic| first
  | (refine' inst_base ?F ?h1 ?h2; (case F => k_asm); (case h1 => assumption); (case h2 => assumption))
  | (refine' InstAt.of_news ?N ?h1 ?h2; (case N => k_asm); (case h1 => assumption); (case h2 => assumption)))
local macro_rules | `(tactic| walk_at "binaryOp FloorDiv int int") => `(tactic| ((with_reducible refine floordiv_int ?kb ?_ (Or.inl (PyProof.noPylong_small ?kp))); (case kb => omega); (case kp => omega)))
local macro_rules | `(tactic| walk_at "binaryOp Mult int int") => `(tactic| ((with_reducible refine mul_int ?_ (mulok_r ?k1 ?k2)); (case k1 => omega); (case k2 => omega)))
local macro_rules | `(tactic| ktr_unf) => `(tactic| repeat' (first
  | (k_unfold; (try dsimp only))
  | (with_reducible refine wpAny_execs_cons ?_)
  | ((fail_if_success (with_reducible show wpAny _ _ (exec (Stmt.For _ _ _ _ _) _) _ _ _)); (fail_if_success (with_reducible show wpAny _ _ (eval (Expr.ListComp _ _ _ _) _) _ _ _)); (fail_if_success (with_reducible show wpAny _ _ (pyIter _) _ _ _)); (fail_if_success (with_reducible show wpAny _ _ (call (Value.type "range") _) _ _ _)); (fail_if_success (with_reducible show wpAny _ _ (call (Value.builtin "list.append") _) _ _ _)); (fail_if_success (with_reducible show wpAny _ _ (setItem _ _ _) _ _ _)); (fail_if_success (with_reducible show wpAny _ _ (call (Value.type "list") _) _ _ _)); (fail_if_success (with_reducible show wpAny _ _ (setAttr _ _ _) _ _ _)); first | walk1 | (dsimp only; walk1))
  | fail "no step"))
local macro_rules | `(tactic| k_mem) => `(tactic| assumption)
section
variable {prog : Program} {w : World} {A : Around} {E : Value → Shared → Prop} {h : Heap} {g : Array GenState} {d : Drawn} {t : Nat} {os : OsState}
  {nm q : Str} {N : Addr} {bs : List Value} {sn : List Str} {sub : List Value} {ab : Bool} {col : Option Bool} {dd : Option Addr} {k0 k1 k2 k3 k5 : Option Value}
theorem init_check {M : Model} {e : Addr} {oe : Obj} {rest : List Value} {Q : Unit → Shared → Prop}
    (hC : h.get? 44 = some (excClassObj nm q 44 N bs bmF true sn sub ab col dd k0 k1 k2 k3 k5 "Exception.__new__")) (he : h.get? e = some oe) (hcls : oe.cls = .ref 44) (hq : Q () ⟨h, g, d, t, os⟩) :
    wpAny M A (checkBuiltinCall "Exception.__init__" ⟨.ref e :: rest, []⟩) Q E ⟨h, g, d, t, os⟩ := by
  have F := PySem.F.excBase_Exception
  have hcB : (Value.ref 44 :: bmF).contains (.type "Exception") = true := by rw [List.contains_cons, has_bmF, F.hasB, Bool.or_true]
  have hshort := F.noStar
  simp only [checkBuiltinCall, F.initKind, F.initSplit, F.initRow]
  repeat (first | (with_reducible refine wpAny_loadPart_at he ?_; rw [hcls]) | with_reducible refine wpAny_loadPart_at hC ?_ | (with_reducible refine wpAny_isSubtype_exc hC ?_; rw [hcB]) | wp_step)
  refine wpAny_onRaise ?_
  rw [show ∀ (a b : String) (n : Nat), Bind.check ⟨.positional, "*", "Exception", .self, [⟨"args", .varPos, false⟩]⟩ a b n (List.map (fun x => x.fst) ({ pos := Value.ref e :: rest } : Args).kw) = pure () from
    fun a b n => check_star_args _ _ _ _ _ _]
  exact wpAny_pure hq
theorem init_run {s : Shared} {e t0 : Addr} {dx : Option Addr} {v : Value} {Q : Value → Shared → Prop} (X : (hd.heap_39 w.params).In s.heap) (he : s.heap.get? e = some (excObj 44 t0 dx))
    (hq : ∀ h' t', (∀ a o, a ≠ e → s.heap.get? a = some o → h'.get? a = some o) → h'.get? e = some (excObj 44 t' dx) → Q .none { s with heap := h' }) :
    wpAny (model prog w) A (call (.builtin "Exception.__init__") [.ref e, v]) Q E s := by
  obtain ⟨nm, q, N, bs, sn, sub, ab, col, dd, k0, k1, k2, k3, k5, hC⟩ := cls44 X
  obtain ⟨h, g, d, t, os⟩ := s
  have F := PySem.F.excBase_Exception
  refine wpAny_call (codeAny_call_builtin F.init.plain F.initEntry (init_check hC he rfl ?_))
  wp_walk
  refine hq _ h.objs.size (fun a o ha e' => ?_) ?_
  · rw [Heap.get?_update_other _ _ (Ne.symm ha)]; exact Heap.get?_push_of_some _ e'
  · rw [Heap.get?_update_self _ (Heap.get?_push_of_some _ he) rfl]; rfl
theorem set_exc {s : Shared} {e t0 : Addr} {name : Str} {v : Value} {Q : Unit → Shared → Prop} (X : (hd.heap_39 w.params).In s.heap) (he : s.heap.get? e = some (excObj 44 t0 none))
    (hs : findIn (hd.heap_39 w.params) (.ref 44) "__setattr__" = some (some (.builtin "object.__setattr__"))) (hna : findIn (hd.heap_39 w.params) (.ref 44) name = some none)
    (ho : mroIn (hd.heap_39 w.params) 44 (.type "object") = some true)
    (hq : ∀ h' tk dx, (∀ a o, a ≠ e → s.heap.get? a = some o → h'.get? a = some o) → h'.get? e = some (excObj 44 t0 (some dx)) → Q () { s with heap := h', toks := tk }) :
    wpAny (model prog w) A (setAttr (.ref e) name v) Q E s := by
  obtain ⟨nm, q, N, bs, sn, sub, ab, col, dd, k0, k1, k2, k3, k5, hC⟩ := cls44 X
  have tt : Looks (model prog w) s.heap (typeOf (.ref e)) (.ref 44) := (Looks.ld he).andThen .now
  have ls := looks_findIn (M := model prog w) X hs
  have la := looks_findIn (M := model prog w) X hna
  have lo : Looks (model prog w) s.heap (isInstance (.ref e) (.type "object")) true := tt.andThen (looks_mroIn X ho)
  have SF := PySem.F.store_Exception
  obtain ⟨h, g, d, t, os⟩ := s
  refine wpAny_bind (wpAny_mkText (wpAny_bind (wpAny_bind (wpAny_bind (tt _ _ _ _ (fun _ _ e => e) (ls _ _ _ _ (fun _ _ e => e) (wpAny_holding ?_)))))))
  rw [SF.slot.bind]
  refine wpAny_bind (wpAny_pure (wpAny_bind (wpAny_call ?_)))
  refine codeAny_call_builtin SF.slot.plain SF.entry (@check_slot (model prog w) _ _ _ "object.__setattr__" "object" "__setattr__" (.ref e) [.str name t, v] [] _ SF.kind SF.split lo (SF.args (.ref e) (.str name t) v) ?_)
  show wpAny _ _ (Builtin.«object.__setattr__» ⟨[.ref e, .str name t, v], []⟩) _ _ _
  rw [osa_eq, refuse_eq]
  refine wpAny_bind (wpAny_bind (tt _ _ _ _ (fun _ _ e => e) (wpAny_bind ?_)))
  refine wpAny_mroOf_exc hC ?_
  rw [refuseLoop_ref, refuseLoop_ref, SF.passes]
  refine wpAny_pure (wpAny_bind (tt _ _ _ _ (fun _ _ e => e) (wpAny_bind (la _ _ _ _ (fun _ _ e => e) (wpAny_bind (wpAny_pure ?_))))))
  dsimp only
  unfold storeInOwnDict
  refine wpAny_bind (wpAny_pure ?_)
  repeat (first | with_reducible refine wpAny_loadPart_at he ?_ | with_reducible refine wpAny_loadPart_at hC ?_ | ((fail_if_success (with_reducible show wpAny _ _ (storeInDict _ _ _ _) _ _ _)); wp_step))
  have he₁ : (h.push { cls := .type "dict", data := .dict #[] }).get? e = some (excObj 44 t0 none) := Heap.get?_push_of_some _ he
  have hes : e ≠ h.objs.size := Nat.ne_of_lt (Heap.lt_size he)
  have hgd : ((h.push { cls := .type "dict", data := .dict #[] }).update e fun o => { cls := o.cls, dict := some h.objs.size, data := o.data, slots := o.slots }).get? h.objs.size
      = some { cls := .type "dict", data := .dict #[] } := (Heap.get?_update_ne _ _ _ _ (Ne.symm hes)).trans (Heap.get?_push_at rfl rfl)
  have hnd : ((h.push { cls := .type "dict", data := .dict #[] }).update e fun o => { cls := o.cls, dict := some h.objs.size, data := o.data, slots := o.slots }).Ns h.objs.size (fun _ => none) :=
    ⟨_, #[], _, hgd, rfl, fun x hx => absurd hx (by simp), fun _ => rfl⟩
  unfold storeInDict newKeyGuard
  refine wpAny_bind (wpAny_pure (wpAny_bind (wpAny_nsSet1 (Heap.Ns1.of_empty hnd) fun h' hn' hsb => ?_)))
  obtain ⟨oD, esD, epD, hoD, hdD, hcD⟩ := hn'.count (Within.cons name v Within.nil)
  refine wpAny_bind (wpAny_lookBehind hoD (by rw [hdD]; exact pastItsLine_dict (Nat.le_trans hcD (by rw [List.length_cons, List.length_nil, sizeLine_eq]; omega))) ?_)
  wp_walk
  refine hq h' _ h.objs.size (fun a o ha e' => ?_) ?_
  · exact (hsb.2 a (Nat.ne_of_lt (Heap.lt_size e'))).trans ((Heap.get?_update_ne _ _ _ _ ha).trans (Heap.get?_push_of_some _ e'))
  · exact (hsb.2 e hes).trans (Heap.get?_update_self _ he₁ rfl)
end
theorem meta_exc : typeOf (.type "Exception") = pure (.type "type") := by kernel_rfl
local macro_rules | `(tactic| walk_at "getMethod type:Exception") => `(tactic| (k_here; refine' method_type ?F ?X ?m (by decide +kernel) ?e ?h ?_; (case F => k_asm); (case X => k_asm); (case m => exact meta_exc); (case e => k_dflt k_is); (case h => k_handed)))
section
variable {prog : Program} {w : World} {A : Around} {s : Shared} {R : Result → Shared → Prop} {p : Program} {loose : List Str} {mg mb : Str → Option Value}
set_option maxHeartbeats 1000000 in
/-- the refusal's own __init__ -/
theorem init_spec {e t0 : Addr} {msg : Str} {tt : Tok} (X : (hd.heap_39 w.params).In (hideAll s.heap [e])) (T : TopRead p loose mg mb (hideAll s.heap [e])) (rm : Room A 1)
    (he : s.heap.get? e = some (excObj 44 t0 none))
    (h : ∀ h' tk t' dx, Stay (hideAll s.heap [e]) h' → h'.get? e = some (excObj 44 t' (some dx)) → R (.ok (.ret .none)) { s with heap := h', toks := tk }) :
    codeAny (model prog w) A (.call (.ref 28) ⟨[.ref e, .str msg tt], []⟩) R s := by
  obtain ⟨ah, ad, af, ag, au⟩ := A
  obtain rfl : ah = none := rm.handled
  refine' call_B (news := [(e, excObj 44 t0 none)]) [(Str.ofString "self", .ref e), (Str.ofString "message", .str msg tt)] (fun _ _ e => of_hideAll _ e) (Nat.le_of_eq (hideAll_size _ _)) ?hn ?X ?lim ?ho ?hcd ?room ?bind ?loc ?_ ?c2 ?c3 ?c4 ?c5
  case X => exact X
  case ho => k_is
  case hcd => k_is
  case lim => exact (T).nolimit
  case room => exact rm.lim
  case bind => exact BindsTo.of_eq rfl
  case loc => exact locs rfl
  case hn => 
    intro q hq
    rw [List.mem_singleton] at hq; subst hq; exact ⟨he, hideAll_none _ (.head _)⟩
  case c2 => rfl
  case c3 => rfl
  case c4 => rfl
  case c5 => decide
  intro h₁ F N; (try dsimp only); k_fold
  ktr_unf
  refine init_run (X.keeps F.keep) (N _ (.head _)).1 ?_
  intro h2 t' sb he'
  have F2 := fr_mut F N sb (.head _)
  have N2 := news_mut (nz' := [_]) N sb (.head _) he' (fun q hq => .inl (List.mem_singleton.mp hq))
  clear F N
  ktr_unf
  refine set_exc (X.keeps F2.keep) (N2 _ (.head _)).1 (by with_unfolding_all rfl) (by with_unfolding_all rfl) (by with_unfolding_all rfl) ?_
  intro h3 tk dx sb3 he3
  have F3 := fr_mut F2 N2 sb3 (.head _)
  clear F2 N2
  ktr_unf
  exact h _ _ _ _ F3.keep he3
end
end Mine
end
-- S18
section
open PySem PySem.W PySem.Calls PyProof.Rows
namespace Mine
theorem rs_S18 : True := by
  w_top off
  trivial

local macro_rules | `(tactic| k_inst) => `(tactic| first
  | (refine' inst_base ?F ?h1 ?h2; (case F => k_asm); (case h1 => assumption); (case h2 => assumption))
  | (refine' InstAt.of_news ?N ?h1 ?h2; (case N => k_asm); (case h1 => assumption); (case h2 => assumption)))
local macro_rules | `(tactic| walk_at "binaryOp FloorDiv int int") => `(tactic| ((with_reducible refine floordiv_int ?kb ?_ (Or.inl (PyProof.noPylong_small ?kp))); (case kb => omega); (case kp => omega)))
local macro_rules | `(tactic| walk_at "binaryOp Mult int int") => `(tactic| ((with_reducible refine mul_int ?_ (mulok_r ?k1 ?k2)); (case k1 => omega); (case k2 => omega)))
local macro_rules | `(tactic| ktr_unf) => `(tactic| repeat' (first
  | (k_unfold; (try dsimp only))
  | (with_reducible refine wpAny_execs_cons ?_)
  | ((fail_if_success (with_reducible show wpAny _ _ (exec (Stmt.For _ _ _ _ _) _) _ _ _)); (fail_if_success (with_reducible show wpAny _ _ (eval (Expr.ListComp _ _ _ _) _) _ _ _)); (fail_if_success (with_reducible show wpAny _ _ (pyIter _) _ _ _)); (fail_if_success (with_reducible show wpAny _ _ (call (Value.type "range") _) _ _ _)); (fail_if_success (with_reducible show wpAny _ _ (call (Value.builtin "list.append") _) _ _ _)); (fail_if_success (with_reducible show wpAny _ _ (setItem _ _ _) _ _ _)); (fail_if_success (with_reducible show wpAny _ _ (call (Value.type "list") _) _ _ _)); (fail_if_success (with_reducible show wpAny _ _ (exec (Stmt.Raise _ _ _) _) _ _ _)); first | walk1 | (dsimp only; walk1))
  | fail "no step"))
local macro_rules | `(tactic| walk_at "subscriptTail Attribute Name Name ref int") => `(tactic| ((with_reducible show wpAny _ _ (subscriptTail _ _ (Value.ref _) (Value.int _ _)) _ _ _); (refine' my_item ?kl ?kh ?kx ?_ ?ks); (case kl => first | exact Fr.keep (by assumption) _ _ (by assumption) | exact (News.get (by assumption) (by k_mem))); (case kx => assumption); (case kh => omega); (case ks => with_unfolding_all rfl)))
local macro_rules | `(tactic| walk_at "subscriptTail Subscript Attribute Name Name ref int") => `(tactic| ((with_reducible show wpAny _ _ (subscriptTail _ _ (Value.ref _) (Value.int _ _)) _ _ _); (refine' my_item ?kl ?kh ?kx ?_ ?ks); (case kl => first | exact Fr.keep (by assumption) _ _ (by assumption) | exact (News.get (by assumption) (by k_mem))); (case kx => assumption); (case kh => omega); (case ks => with_unfolding_all rfl)))
local macro_rules | `(tactic| walk_at "subscriptTail Subscript Subscript Name Name ref int") => `(tactic| ((with_reducible show wpAny _ _ (subscriptTail _ _ (Value.ref _) (Value.int _ _)) _ _ _); (refine' my_item ?kl ?kh ?kx ?_ ?ks); (case kl => first | exact Fr.keep (by assumption) _ _ (by assumption) | exact (News.get (by assumption) (by k_mem))); (case kx => assumption); (case kh => omega); (case ks => with_unfolding_all rfl)))
local macro_rules | `(tactic| walk_at "subscriptTail") => `(tactic| ((with_reducible show wpAny _ _ (subscriptTail _ _ (Value.ref _) (Value.int _ _)) _ _ _); (refine' my_item ?kl ?kh ?kx ?_ ?ks); (case kl => first | exact Fr.keep (by assumption) _ _ (by assumption) | exact (News.get (by assumption) (by k_mem))); (case kx => assumption); (case kh => omega); (case ks => with_unfolding_all rfl)))
local macro_rules | `(tactic| k_mem) => `(tactic| assumption)
theorem exc_stay (h : Heap) (C : Addr) (rest : List Value) : Stay h (hideAll (excHeap h C rest) [h.objs.size + 1]) := fun a o e => by
  have hlt := Heap.lt_size e
  refine hideAll_get _ (Heap.get?_push_of_some _ (Heap.get?_push_of_some _ e)) ?_
  intro hm
  rw [List.mem_singleton] at hm; rw [hm] at hlt; exact absurd hlt (Nat.not_lt.mpr (Nat.le_succ _))
section
variable {prog : Program} {w : World} {A : Around} {s : Shared} {R : Result → Shared → Prop} {p : Program} {loose : List Str} {mg mb : Str → Option Value}

/-- a refusal, whole -/
theorem exc_new {msg : Str} {tt : Tok} (X : (hd.heap_39 w.params).In s.heap) (T : TopRead p loose mg mb s.heap) (rm : Room A 2)
    (h : ∀ h' tk e t dx, Stay s.heap h' → s.heap.get? e = none → h'.get? e = some (excObj 44 t (some dx)) → R (.ok (.ret (.ref e))) { s with heap := h', toks := tk }) :
    codeAny (model prog w) A (.call (.ref 44) ⟨[.str msg tt], []⟩) R s := by
  obtain ⟨hh, g, d, t, os⟩ := s
  refine exc_make X (by rw [sizeLine_eq]; show 1 ≤ 16777216; decide) ?_
  have st := exc_stay hh 44 [.str msg tt]
  refine init_spec (X.keeps st) (T.keeps st) rm.make (Heap.get?_push_at (by rw [Heap.size_push]) rfl) ?_
  intro h' tk t' dx st' he'
  exact ⟨rfl, h _ _ _ _ _ (st.trans st') (Heap.get?_none_of_le (Nat.le_succ _)) he'⟩
/-- an exception of the text's own on its way up -/
def Flung (B : Heap) (l : List Env) (s : Shared) (v : Value) (s' : Shared) : Prop :=
  ∃ e h' tk a0, v = .ref e ∧ s' = { s with heap := h', toks := tk } ∧ s.heap.UpToSlots h' ∧ Heap.FlyingW B l e (.ref 44) a0 h'
def Born (B : Heap) (l : List Env) (s : Shared) (v : Value) (s' : Shared) : Prop :=
  ∃ e h' tk t dx, v = .ref e ∧ s' = { s with heap := h', toks := tk } ∧ s.heap.UpToSlots h' ∧ h'.get? e = some (excObj 44 t dx) ∧ B.get? e = none ∧ B.StaysIn h' ∧ h'.FunFrames B l
theorem leave_here {M : Model} {E : Value → Shared → Prop} {B : Heap} {env : Env} {outer : List Env} {L : Addr} {v : Value} {s' : Shared} {Q : Unit → Shared → Prop} (hfr : A.frames = some (env :: outer)) (hf : env.frame = some L)
    (y : Flung B (env :: outer) s v s' ∨ Born B (env :: outer) s v s') (h : ∀ s'', Flung B outer s v s'' → Q () s'') : wpAny M A (leaving env v) Q E s' := by
  rcases y with ⟨e, h', tk, a0, rfl, rfl, up, fl⟩ | ⟨e, h', tk, t, dx, rfl, rfl, up, he, hn, st, fr⟩
  · exact wpAny_leaves_onW hfr hf fl fun h2 x1 x2 => h _ ⟨e, h2, tk, a0, rfl, rfl, up.trans x2, x1⟩
  · refine wpAny_leaving_firstW (a0 := .ref t) hfr fr hf he st hn rfl rfl rfl fun h2 hL => ?_
    obtain ⟨k1, ⟨_, _, k2⟩, k3, k4⟩ := hL
    exact h _ ⟨e, h2, tk, .ref t, rfl, rfl, up.trans k4, k1, hn, k2, k3⟩
/-- a def called by position, its refusal handed on -/
theorem call_E {B : Heap} {outer : List Env} {a : Addr} {K : Frag}
    {name qual : Str} {params : Arguments} {body : List Stmt} {scope : Scope} {dV kV doc pm cdv ct oc : Value} {an od : Option Addr} {osl : Array (Option Value)} {args : Args} (binds : List (Str × Value))
    (KB : Below A B outer s.heap) (X : K.In s.heap) (hlim : s.heap.NoLimit)
    (ho : K.lookup a = some ⟨oc, od, .func (fnOf name qual params body scope dV kV doc pm an cdv ct), osl⟩) (hcd : codeIn K cdv qual = true) (hroom : A.depth < recursionLimit)
    (hbind : BindsTo s (fnOf name qual params body scope dV kV doc pm an cdv ct) args binds) (hloc : ∀ y ∈ binds, scope.names.lookup y.1 = some .local)
    (h : ∀ h₁, Fr s.heap s.heap.objs.size h₁ (fun y => binds.reverse.lookup y) → News s.heap s.heap.objs.size h₁ [] →
      wpAny (model prog w) (A.deeper (envOf qual scope s.heap.objs.size a cdv)) (execs body (envOf qual scope s.heap.objs.size a cdv))
        (fun fl s' => R (.ok (.ret (match fl with | .ret v => v | _ => .none))) s')
        (fun v s' => Flung B (envOf qual scope s.heap.objs.size a cdv :: outer) s v s' ∨ Born B (envOf qual scope s.heap.objs.size a cdv :: outer) s v s')
        { s with heap := h₁, toks := s.toks + binds.length })
    (hR : ∀ v s', Flung B outer s v s' → R (.error v) s')
    (hco : scope.isCoroutine = false := by rfl) (hgen : scope.isGenerator = false := by rfl) (hk : scope.kind = .function := by rfl)
    (hcell : ∀ x ∈ scope.names, x.2 ≠ .cell := by decide) : codeAny (model prog w) A (.call (.ref a) args) R s := by
  refine codeAny_call_def (fd := fnOf name qual params body scope dV kV doc pm an cdv ct) (body := body) (binds := binds) hroom (X _ _ ho) rfl hlim (codeRec_of X hcd) rfl hbind hcell hloc (fun h₁ hns hk₁ => ?_) hco hgen hk
  exact wpAny_mono (h h₁ ⟨hns, fun x o e => hk₁ _ _ e, Nat.le_refl _⟩ (fun p hp => nomatch hp)) (fun _ _ x => x) (fun v s' y => leave_here (Around.frames_deeper KB.stack) rfl y fun s'' z => hR _ _ z)
theorem raise_made {E : Value → Shared → Prop} {env : Env} {x : Sem Value} {Q : Flow → Shared → Prop} (hh : A.handled = none)
    (h : wpAny (model prog w) A x (fun v s₁ => ∃ e t dx, v = .ref e ∧ (hd.heap_39 w.params).In s₁.heap ∧ s₁.heap.get? e = some (excObj 44 t (some dx)) ∧ E (.ref e) s₁) E s) :
    wpAny (model prog w) A (raiseStmt env (some x) none) Q E s := by
  have hcB : (Value.ref 44 :: bmF).contains (.type "BaseException") = true := by rw [List.contains_cons, has_bmF]; decide +kernel
  unfold raiseStmt
  refine wpAny_bind (wpAny_mono h (fun v s₁ h₁ => ?_) fun _ _ x => x)
  obtain ⟨e, t, dx, rfl, X, he, hE⟩ := h₁
  obtain ⟨nm, q, N, bs, sn, sub, ab, col, dd, k0, k1, k2, k3, k5, hC⟩ := cls44 X
  obtain ⟨hp, g, d, tk, os⟩ := s₁
  repeat (first | with_reducible refine wpAny_loadPart_at he ?_ | with_reducible refine wpAny_loadPart_at hC ?_ | (with_reducible refine wpAny_isSubtype_exc hC ?_; rw [hcB]) | wp_step)
  exact wpAny_raiseNew_none hh hE
end
end Mine
end
-- S19
section
open PySem PySem.W PySem.Calls PyProof.Rows
namespace Mine
theorem rs_S19 : True := by
  w_top off
  trivial

local macro_rules | `(tactic| k_inst) => `(tactic| first
  | (refine' inst_base ?F ?h1 ?h2; (case F => k_asm); (case h1 => assumption); (case h2 => assumption))
  | (refine' InstAt.of_news ?N ?h1 ?h2; (case N => k_asm); (case h1 => assumption); (case h2 => assumption)))
local macro_rules | `(tactic| walk_at "binaryOp FloorDiv int int") => `(tactic| ((with_reducible refine floordiv_int ?kb ?_ (Or.inl (PyProof.noPylong_small ?kp))); (case kb => omega); (case kp => omega)))
local macro_rules | `(tactic| walk_at "binaryOp Mult int int") => `(tactic| ((with_reducible refine mul_int ?_ (mulok_r ?k1 ?k2)); (case k1 => omega); (case k2 => omega)))
local macro_rules | `(tactic| ktr_unf) => `(tactic| repeat' (first
  | (k_unfold; (try dsimp only))
  | (with_reducible refine wpAny_execs_cons ?_)
  | ((fail_if_success (with_reducible show wpAny _ _ (exec (Stmt.For _ _ _ _ _) _) _ _ _)); (fail_if_success (with_reducible show wpAny _ _ (eval (Expr.ListComp _ _ _ _) _) _ _ _)); (fail_if_success (with_reducible show wpAny _ _ (pyIter _) _ _ _)); (fail_if_success (with_reducible show wpAny _ _ (call (Value.type "range") _) _ _ _)); (fail_if_success (with_reducible show wpAny _ _ (call (Value.builtin "list.append") _) _ _ _)); (fail_if_success (with_reducible show wpAny _ _ (setItem _ _ _) _ _ _)); (fail_if_success (with_reducible show wpAny _ _ (call (Value.type "list") _) _ _ _)); (fail_if_success (with_reducible show wpAny _ _ (exec (Stmt.Raise _ _ _) _) _ _ _)); first | walk1 | (dsimp only; walk1))
  | fail "no step"))
local macro_rules | `(tactic| walk_at "subscriptTail Attribute Name Name ref int") => `(tactic| ((with_reducible show wpAny _ _ (subscriptTail _ _ (Value.ref _) (Value.int _ _)) _ _ _); (refine' my_item ?kl ?kh ?kx ?_ ?ks); (case kl => first | exact Fr.keep (by assumption) _ _ (by assumption) | exact (News.get (by assumption) (by k_mem))); (case kx => assumption); (case kh => omega); (case ks => with_unfolding_all rfl)))
local macro_rules | `(tactic| walk_at "subscriptTail Subscript Attribute Name Name ref int") => `(tactic| ((with_reducible show wpAny _ _ (subscriptTail _ _ (Value.ref _) (Value.int _ _)) _ _ _); (refine' my_item ?kl ?kh ?kx ?_ ?ks); (case kl => first | exact Fr.keep (by assumption) _ _ (by assumption) | exact (News.get (by assumption) (by k_mem))); (case kx => assumption); (case kh => omega); (case ks => with_unfolding_all rfl)))
local macro_rules | `(tactic| walk_at "subscriptTail Subscript Subscript Name Name ref int") => `(tactic| ((with_reducible show wpAny _ _ (subscriptTail _ _ (Value.ref _) (Value.int _ _)) _ _ _); (refine' my_item ?kl ?kh ?kx ?_ ?ks); (case kl => first | exact Fr.keep (by assumption) _ _ (by assumption) | exact (News.get (by assumption) (by k_mem))); (case kx => assumption); (case kh => omega); (case ks => with_unfolding_all rfl)))
local macro_rules | `(tactic| walk_at "subscriptTail") => `(tactic| ((with_reducible show wpAny _ _ (subscriptTail _ _ (Value.ref _) (Value.int _ _)) _ _ _); (refine' my_item ?kl ?kh ?kx ?_ ?ks); (case kl => first | exact Fr.keep (by assumption) _ _ (by assumption) | exact (News.get (by assumption) (by k_mem))); (case kx => assumption); (case kh => omega); (case ks => with_unfolding_all rfl)))
local macro_rules | `(tactic| walk_at "call ref") => `(tactic| ((rename Fr _ _ _ _ => kF9); (rename News _ _ _ _ => kN9); (refine call_of_code ?_); (refine' mcA_spec (Frag.In.keeps (by assumption) (Fr.keep kF9)) (TopRead.keeps (by assumption) (Fr.keep kF9)) (Room.deeper (Room.le (by assumption) (by decide)) _) ?hf ?ok ?_); (case hf => exact FrameAt.mono (by assumption) (fun _ _ e => Fr.keep kF9 _ _ e)); (case ok => assumption); intro h' tk' t' st'; (have kF' := fr_stay kF9 st'); (have kN' := news_stay kN9 st'); (clear kF9 kN9); (try dsimp only)))
local macro_rules | `(tactic| walk_at "call ref") => `(tactic| ((rename Fr _ _ _ _ => kF9); (rename News _ _ _ _ => kN9); (refine call_of_code ?_); (refine' mcD_spec (Frag.In.keeps (by assumption) (Fr.keep kF9)) (TopRead.keeps (by assumption) (Fr.keep kF9)) (Room.deeper (Room.le (by assumption) (by decide)) _) ?hf ?ok ?_); (case hf => exact FrameAt.mono (by assumption) (fun _ _ e => Fr.keep kF9 _ _ e)); (case ok => assumption); intro h' tk' t' st'; (have kF' := fr_stay kF9 st'); (have kN' := news_stay kN9 st'); (clear kF9 kN9); (try dsimp only)))
local macro_rules | `(tactic| walk_at "call ref") => `(tactic| ((rename Fr _ _ _ _ => kF9); (rename News _ _ _ _ => kN9); (refine call_of_code ?_); (refine' unit_spec (Frag.In.keeps (by assumption) (Fr.keep kF9)) (TopRead.keeps (by assumption) (Fr.keep kF9)) (Room.deeper (Room.le (by assumption) (by decide)) _) ?hf ?ok ?_); (case hf => exact FrameAt.mono (by assumption) (fun _ _ e => Fr.keep kF9 _ _ e)); (case ok => assumption); intro h' tk' a' t' t2' st' fr' up'; (have kF' := fr_stay kF9 st'); (have kN' := news_cons kF9 kN9 st' fr' up'); (try clear kF9); (try clear kN9); (try dsimp only)))
theorem none_up {b h : Heap} {L e : Addr} {m : Str → Option Value} (F : Fr b L h m) (n : h.get? e = none) : b.get? e = none := by
  cases q : b.get? e with
  | none => rfl
  | some o => have := F.keep _ _ q; rw [n] at this; cases this
theorem born_here {A : Around} {B : Heap} {outer : List Env} {s : Shared} {L a e t dx : Addr} {m : Str → Option Value} {name : Str} {scope : Scope} {cd : Value} {h' : Heap} {tk : Nat} (KB : Below A B outer s.heap) (F : Fr s.heap L h' m)
    (en : s.heap.get? e = none) (he : h'.get? e = some (excObj 44 t (some dx))) (hk : scope.kind = .function := by rfl) : Born B (envOf name scope L a cd :: outer) s (.ref e) { s with heap := h', toks := tk } := by
  have K' := KB.push (name := name) (a := a) (cd := cd) F hk
  refine ⟨e, h', tk, t, some dx, rfl, rfl, Heap.UpToSlots.of_keeps F.keep, he, ?_, K'.stays, K'.frames⟩
  cases q : B.get? e with
  | none => rfl
  | some o => have := KB.stays _ _ q; rw [en] at this; cases this
section
variable {prog : Program} {w : World} {A : Around} {s : Shared} {R : Result → Shared → Prop} {p : Program} {loose : List Str} {mg mb : Str → Option Value}
set_option maxHeartbeats 1000000 in
theorem cropf_refuse {B : Heap} {outer : List Env} {x : Addr} {f : Fm} {cx cy ca cd : Int} {tx ty ta td : Tok} (KB : Below A B outer s.heap) (X : (hd.heap_39 w.params).In s.heap) (T : TopRead p loose mg mb s.heap) (rm : Room A 5) (hf : FrameAt (live s.heap) x f) (ok : f.Ok)
    (bad : ¬ (0 ≤ cx ∧ cx < mcA f ∧ 0 ≤ cy ∧ cy < mcD f ∧ 1 ≤ ca ∧ 1 ≤ cd))
    (hR : ∀ v s', Flung B outer s v s' → R (.error v) s') :
    codeAny (model prog w) A (.call (.ref 194) ⟨[.ref x, .int cx tx, .int cy ty, .int ca ta, .int cd td], []⟩) R s := by
  obtain ⟨dx, h1, t1, u1, h2, t2, u2, h3, t3, u3, h4, t4, u4, h5, t5, h6, t6, u6, l, vs, e, hx, hdx, hl, hcs⟩ := id hf
  have q1 : 1 ≤ mxA f.cs := by rcases ok.mA with q | q <;> omega
  have q2 : mxA f.cs ≤ 2 := by rcases ok.mA with q | q <;> omega
  have q3 : 1 ≤ mxD f.cs := by rcases ok.mD with q | q <;> omega
  have q4 : mxD f.cs ≤ 2 := by rcases ok.mD with q | q <;> omega
  obtain ⟨ah, ad, af, ag, au⟩ := A
  obtain rfl : ah = none := rm.handled
  refine' call_E [(Str.ofString "frame", .ref x), (Str.ofString "x", .int cx tx), (Str.ofString "y", .int cy ty), (Str.ofString "across", .int ca ta), (Str.ofString "down", .int cd td)] KB ?X ?lim ?ho ?hcd ?room ?bind ?loc ?_ hR ?c2 ?c3 ?c4 ?c5
  case X => exact X
  case ho => k_is
  case hcd => k_is
  case lim => exact (T).nolimit
  case room => exact rm.lim
  case bind => exact BindsTo.of_eq rfl
  case loc => exact locs rfl
  case c2 => rfl
  case c3 => rfl
  case c4 => rfl
  case c5 => decide
  intro h₁ F N; (try dsimp only); k_fold
  ktr_unf
  all_goals (try (exfalso; omega))
  all_goals (
    rw [arm_exec_Raise]
    refine wpAny_bind (wpAny_standAt (raise_made rfl (wpAny_bind ?_)))
    ktr_unf
    rename Fr _ _ _ _ => kF9
    refine call_of_code ?_
    refine exc_new (X.keeps kF9.keep) (T.keeps kF9.keep) ((rm.le (by decide)).deeper _) ?_
    intro h' tk' e' t' dx' st' en' eo'
    have kF' := fr_stay kF9 st'
    dsimp only
    refine wpAny_bind (wpAny_standAt (wpAny_pure ?_))
    exact ⟨e', t', dx', rfl, X.keeps kF'.keep, eo', .inr (born_here KB kF' (none_up kF9 en') eo')⟩)
end
end Mine
end
-- S20
section
open PySem PySem.W PySem.Calls PyProof.Rows
namespace Mine
theorem rs_S20 : True := by
  w_top off
  trivial

local macro_rules | `(tactic| k_inst) => `(tactic| first
  | (refine' inst_base ?F ?h1 ?h2; (case F => k_asm); (case h1 => assumption); (case h2 => assumption))
  | (refine' InstAt.of_news ?N ?h1 ?h2; (case N => k_asm); (case h1 => assumption); (case h2 => assumption)))
local macro_rules | `(tactic| walk_at "binaryOp FloorDiv int int") => `(tactic| ((with_reducible refine floordiv_int ?kb ?_ (Or.inl (PyProof.noPylong_small ?kp))); (case kb => omega); (case kp => omega)))
local macro_rules | `(tactic| walk_at "binaryOp Mult int int") => `(tactic| ((with_reducible refine mul_int ?_ (mulok_r ?k1 ?k2)); (case k1 => omega); (case k2 => omega)))
local macro_rules | `(tactic| ktr_unf) => `(tactic| repeat' (first
  | (k_unfold; (try dsimp only))
  | (with_reducible refine wpAny_execs_cons ?_)
  | ((fail_if_success (with_reducible show wpAny _ _ (exec (Stmt.For _ _ _ _ _) _) _ _ _)); (fail_if_success (with_reducible show wpAny _ _ (eval (Expr.ListComp _ _ _ _) _) _ _ _)); (fail_if_success (with_reducible show wpAny _ _ (pyIter _) _ _ _)); (fail_if_success (with_reducible show wpAny _ _ (call (Value.type "range") _) _ _ _)); (fail_if_success (with_reducible show wpAny _ _ (call (Value.builtin "list.append") _) _ _ _)); (fail_if_success (with_reducible show wpAny _ _ (setItem _ _ _) _ _ _)); (fail_if_success (with_reducible show wpAny _ _ (call (Value.type "list") _) _ _ _)); (fail_if_success (with_reducible show wpAny _ _ (call (Value.ref 194) _) _ _ _)); first | walk1 | (dsimp only; walk1))
  | fail "no step"))
local macro_rules | `(tactic| walk_at "subscriptTail Attribute Name Name ref int") => `(tactic| ((with_reducible show wpAny _ _ (subscriptTail _ _ (Value.ref _) (Value.int _ _)) _ _ _); (refine' my_item ?kl ?kh ?kx ?_ ?ks); (case kl => first | exact Fr.keep (by assumption) _ _ (by assumption) | exact (News.get (by assumption) (by k_mem))); (case kx => assumption); (case kh => omega); (case ks => with_unfolding_all rfl)))
local macro_rules | `(tactic| walk_at "subscriptTail Subscript Attribute Name Name ref int") => `(tactic| ((with_reducible show wpAny _ _ (subscriptTail _ _ (Value.ref _) (Value.int _ _)) _ _ _); (refine' my_item ?kl ?kh ?kx ?_ ?ks); (case kl => first | exact Fr.keep (by assumption) _ _ (by assumption) | exact (News.get (by assumption) (by k_mem))); (case kx => assumption); (case kh => omega); (case ks => with_unfolding_all rfl)))
local macro_rules | `(tactic| walk_at "subscriptTail Subscript Subscript Name Name ref int") => `(tactic| ((with_reducible show wpAny _ _ (subscriptTail _ _ (Value.ref _) (Value.int _ _)) _ _ _); (refine' my_item ?kl ?kh ?kx ?_ ?ks); (case kl => first | exact Fr.keep (by assumption) _ _ (by assumption) | exact (News.get (by assumption) (by k_mem))); (case kx => assumption); (case kh => omega); (case ks => with_unfolding_all rfl)))
local macro_rules | `(tactic| walk_at "subscriptTail") => `(tactic| ((with_reducible show wpAny _ _ (subscriptTail _ _ (Value.ref _) (Value.int _ _)) _ _ _); (refine' my_item ?kl ?kh ?kx ?_ ?ks); (case kl => first | exact Fr.keep (by assumption) _ _ (by assumption) | exact (News.get (by assumption) (by k_mem))); (case kx => assumption); (case kh => omega); (case ks => with_unfolding_all rfl)))
theorem flung_up {B h2 : Heap} {l : List Env} {s : Shared} {tk2 : Nat} {v : Value} {s' : Shared} (up : s.heap.UpToSlots h2) (y : Flung B l { s with heap := h2, toks := tk2 } v s') : Flung B l s v s' := by
  obtain ⟨e, h', tk, a0, rfl, rfl, up', fl⟩ := y
  exact ⟨e, h', tk, a0, rfl, rfl, up.trans up', fl⟩
section
variable {prog : Program} {w : World} {A : Around} {s : Shared} {R : Result → Shared → Prop} {p : Program} {loose : List Str} {mg mb : Str → Option Value}
set_option maxHeartbeats 1000000 in
theorem cropg_refuse {B : Heap} {outer : List Env} {x gx : Addr} {f : Fm} {cx cy ca cd : Int} {tx ty ta td : Tok} (KB : Below A B outer s.heap) (X : (hd.heap_39 w.params).In s.heap) (T : TopRead p loose mg mb s.heap) (rm : Room A 6) (hf : FrameAt (live s.heap) x f) (ok : f.Ok)
    (bad : ¬ (0 ≤ cx ∧ cx < mcA f ∧ 0 ≤ cy ∧ cy < mcD f ∧ 1 ≤ ca ∧ 1 ≤ cd))
    (hR : ∀ v s', Flung B outer s v s' → R (.error v) s') :
    codeAny (model prog w) A (.call (.ref 201) ⟨[.ref gx, .ref x, .int cx tx, .int cy ty, .int ca ta, .int cd td], []⟩) R s := by
  obtain ⟨ah, ad, af, ag, au⟩ := A
  obtain rfl : ah = none := rm.handled
  refine' call_E [(Str.ofString "grid", .ref gx), (Str.ofString "frame", .ref x), (Str.ofString "x", .int cx tx), (Str.ofString "y", .int cy ty), (Str.ofString "across", .int ca ta), (Str.ofString "down", .int cd td)] KB ?X ?lim ?ho ?hcd ?room ?bind ?loc ?_ hR ?c2 ?c3 ?c4 ?c5
  case X => exact X
  case ho => k_is
  case hcd => k_is
  case lim => exact (T).nolimit
  case room => exact rm.lim
  case bind => exact BindsTo.of_eq rfl
  case loc => exact locs rfl
  case c2 => rfl
  case c3 => rfl
  case c4 => rfl
  case c5 => decide
  intro h₁ F N; (try dsimp only); k_fold
  ktr_unf
  rename Fr _ _ _ _ => F2
  refine call_of_code ?_
  refine cropf_refuse (B := B) (KB.push F2 rfl) (X.keeps F2.keep) (T.keeps F2.keep) ((rm.le (by decide)).deeper _) (hf.mono fun a o y => F2.keep _ _ y) ok bad ?_
  intro v s' y
  exact .inl (flung_up (Heap.UpToSlots.of_keeps F2.keep) y)
end
end Mine
end
-- S21
section
open PySem PySem.W PySem.Calls PyProof.Rows
namespace Mine
theorem rs_S21 : True := by
  w_top off
  trivial
local macro_rules | `(tactic| walk_at "pad") => `(tactic| skip)

local macro_rules | `(tactic| k_inst) => `(tactic| first
  | (refine' inst_base ?F ?h1 ?h2; (case F => k_asm); (case h1 => assumption); (case h2 => assumption))
  | (refine' InstAt.of_news ?N ?h1 ?h2; (case N => k_asm); (case h1 => assumption); (case h2 => assumption)))
local macro_rules | `(tactic| walk_at "binaryOp FloorDiv int int") => `(tactic| ((with_reducible refine floordiv_int ?kb ?_ (Or.inl (PyProof.noPylong_small ?kp))); (case kb => omega); (case kp => omega)))
local macro_rules | `(tactic| walk_at "binaryOp Mult int int") => `(tactic| ((with_reducible refine mul_int ?_ (mulok_r ?k1 ?k2)); (case k1 => omega); (case k2 => omega)))
local macro_rules | `(tactic| ktr_unf) => `(tactic| repeat' (first
  | (k_unfold; (try dsimp only))
  | (with_reducible refine wpAny_execs_cons ?_)
  | ((fail_if_success (with_reducible show wpAny _ _ (exec (Stmt.For _ _ _ _ _) _) _ _ _)); (fail_if_success (with_reducible show wpAny _ _ (eval (Expr.ListComp _ _ _ _) _) _ _ _)); (fail_if_success (with_reducible show wpAny _ _ (pyIter _) _ _ _)); (fail_if_success (with_reducible show wpAny _ _ (call (Value.type "range") _) _ _ _)); (fail_if_success (with_reducible show wpAny _ _ (call (Value.builtin "list.append") _) _ _ _)); (fail_if_success (with_reducible show wpAny _ _ (setItem _ _ _) _ _ _)); (fail_if_success (with_reducible show wpAny _ _ (call (Value.type "list") _) _ _ _)); (fail_if_success (with_reducible show wpAny _ _ (call (Value.ref 201) _) _ _ _)); first | walk1 | (dsimp only; walk1))
  | fail "no step"))
local macro_rules | `(tactic| walk_at "subscriptTail Attribute Name Name ref int") => `(tactic| ((with_reducible show wpAny _ _ (subscriptTail _ _ (Value.ref _) (Value.int _ _)) _ _ _); (refine' my_item ?kl ?kh ?kx ?_ ?ks); (case kl => first | exact Fr.keep (by assumption) _ _ (by assumption) | exact (News.get (by assumption) (by k_mem))); (case kx => assumption); (case kh => omega); (case ks => with_unfolding_all rfl)))
local macro_rules | `(tactic| walk_at "subscriptTail Subscript Attribute Name Name ref int") => `(tactic| ((with_reducible show wpAny _ _ (subscriptTail _ _ (Value.ref _) (Value.int _ _)) _ _ _); (refine' my_item ?kl ?kh ?kx ?_ ?ks); (case kl => first | exact Fr.keep (by assumption) _ _ (by assumption) | exact (News.get (by assumption) (by k_mem))); (case kx => assumption); (case kh => omega); (case ks => with_unfolding_all rfl)))
local macro_rules | `(tactic| walk_at "subscriptTail Subscript Subscript Name Name ref int") => `(tactic| ((with_reducible show wpAny _ _ (subscriptTail _ _ (Value.ref _) (Value.int _ _)) _ _ _); (refine' my_item ?kl ?kh ?kx ?_ ?ks); (case kl => first | exact Fr.keep (by assumption) _ _ (by assumption) | exact (News.get (by assumption) (by k_mem))); (case kx => assumption); (case kh => omega); (case ks => with_unfolding_all rfl)))
local macro_rules | `(tactic| walk_at "subscriptTail") => `(tactic| ((with_reducible show wpAny _ _ (subscriptTail _ _ (Value.ref _) (Value.int _ _)) _ _ _); (refine' my_item ?kl ?kh ?kx ?_ ?ks); (case kl => first | exact Fr.keep (by assumption) _ _ (by assumption) | exact (News.get (by assumption) (by k_mem))); (case kx => assumption); (case kh => omega); (case ks => with_unfolding_all rfl)))
local macro_rules | `(tactic| k_mem) => `(tactic| assumption)
theorem tup_is {h : Heap} {a : Addr} {vs : List Value} (e : h.get? a = some (tupOf vs)) : IsTup h a vs.toArray := ⟨_, e, rfl, _, rfl⟩
local macro_rules | `(tactic| walk_at "subscriptTail Name Constant ref int") => `(tactic| ((with_reducible show wpAny _ _ (subscriptTail _ _ (Value.ref _) (Value.int _ _)) _ _ _); (refine' item_tupleT (l := [_, _, _, _]) ?t ?a ?b ?c ?d ?_; (case t => first | exact tup_is (Fr.keep (by assumption) _ _ (by assumption)) | exact tup_is (News.get (by assumption) (by k_mem))); (case a => decide); (case b => decide); (case c => rfl); (case d => rfl))))
section
variable {prog : Program} {w : World} {A : Around} {s : Shared} {R : Result → Shared → Prop} {p : Program} {loose : List Str} {mg mb : Str → Option Value}

theorem caught_44 {B h : Heap} {outer : List Env} {L a e : Addr} {a0 : Value} {m : Str → Option Value} {name : Str} {scope : Scope} {cd : Value} {x : Str} {b₀ : Stmt} {suite : List Stmt} {pos np : Pos} {rest : List ExceptHandler} {Q : Flow → Shared → Prop} {E : Value → Shared → Prop} {s' : Shared}
    (hfr : A.frames = some outer) (F : Fr B L h m) (hsm : h.UpToSlots s'.heap) (Rf : Heap.FlyingW B (envOf name scope L a cd :: outer) e (.ref 44) a0 s'.heap)
    (X : (hd.heap_39 w.params).In B) (T : TopRead p loose mg mb B) (ex : nsIn (hd.heap_39 w.params) mainGlobals x = some (some (.ref 44)))
    (k : ∀ h', Fr B L h' m → h.UpToSlots h' →
      wpAny (model prog w) ((A.deeper (envOf name scope L a cd)).mark (some (.ref e))) (execs (b₀ :: suite) (envOf name scope L a cd)) Q E { s' with heap := h' })
    (hk : scope.kind = .function := by rfl) (hx : (envOf name scope L a cd).kindOf x = some .globalImplicit := by rfl) (hd' : (x == ("__debug__" : Str)) = false := by decide)
    (hE : PassesOwnAt (model prog w) ((A.deeper (envOf name scope L a cd)).mark (some (.ref e))) (A.deeper (envOf name scope L a cd)) (envOf name scope L a cd) E := by passes_own) :
    wpAny (model prog w) (A.deeper (envOf name scope L a cd)) (noteFrame (.ref e) (envOf name scope L a cd))
      (fun _ s₂ => wpAny (model prog w) (A.deeper (envOf name scope L a cd)) (setFlight (.ref e) none) (fun _ s₃ =>
        wpAny (model prog w) (A.deeper (envOf name scope L a cd)) (handleBy (.ref e) (envOf name scope L a cd) (.ExceptHandler (some (.Name x np)) none (b₀ :: suite) pos :: rest)) Q E s₃) E s₂) E s' := by
  refine wpAny_looks_onW (Around.frames_deeper hfr) rfl Rf fun h₄ hheld₄ hsm₄ => ?_
  refine wpAny_landsW hheld₄ fun h₅ hheld hsm₅' => ?_
  have hsm₅ := hsm₄.trans hsm₅'
  have F₅ := F.of_stays hheld.1 (hsm.trans hsm₅)
  obtain ⟨ob, hob, hobc⟩ := hheld.there
  refine wpAny_handleBy_cons (codeAny_handlers_test (name_K F₅ X T ex ?_ hk hx hd')) (by intro q; cases q)
  obtain ⟨nm, q, N, bs, sn, sub, ab, col, dd, k0, k1, k2, k3, k5, hC⟩ := cls44 (X.keeps F₅.keep)
  refine wpAny_excMatches_sub_self hC hob hobc (by rw [has_bmF]; decide +kernel) (codeAny_handlers_suite ?_)
  refine lands_againW hheld fun h₆ hfl₆ hsm₆ => ?_
  exact wpAny_passesOwnAt hE (k h₆ (F₅.of_stays hfl₆.1 hsm₆) ((hsm.trans hsm₅).trans hsm₆))
theorem below_two {B h : Heap} {env0 : Env} {L0 L a : Addr} {oL : Obj} {m : Str → Option Value} {name : Str} {scope : Scope} {cd : Value} (hfr : A.frames = some [env0]) (hf0 : env0.frame = some L0) (hk0 : env0.scope.kind ≠ .module)
    (F : Fr B L h m) (hb : B.get? L0 = none) (hL : h.get? L0 = some oL) (hLd : ∀ vs, oL.data ≠ .fields vs) (hk : scope.kind = .function := by rfl) :
    Below (A.deeper (envOf name scope L a cd)) B (envOf name scope L a cd :: [env0]) h := by
  refine ⟨Around.frames_deeper hfr, F.keep, ?_, ⟨L, ?_⟩, hk0, ⟨L0, oL, hf0, hb, hL, hLd⟩, trivial⟩
  · show scope.kind ≠ .module; rw [hk]; decide
  · obtain ⟨o, es, ep, ho, hd, r⟩ := F.ns
    refine ⟨o, rfl, ?_, ho, fun vs q => by rw [hd] at q; cases q⟩
    cases q : B.get? L with
    | none => rfl
    | some o' => exact absurd (Nat.lt_of_lt_of_le (Heap.lt_size q) F.above) (Nat.lt_irrefl _)
set_option maxHeartbeats 1000000 in
theorem refused_spec {env0 : Env} {L0 fx gx pt : Addr} {oL : Obj} {f : Fm} {cx cy ca cd : Int} {tx ty ta td : Tok} (hfr : A.frames = some [env0]) (hf0 : env0.frame = some L0) (hk0 : env0.scope.kind ≠ .module) (hL : s.heap.get? L0 = some oL) (hLd : ∀ vs, oL.data ≠ .fields vs)
    (X : (hd.heap_39 w.params).In (hideAll s.heap [L0])) (T : TopRead p loose mg mb (hideAll s.heap [L0])) (rm : Room A 7) (hf : FrameAt (live (hideAll s.heap [L0])) fx f) (ok : f.Ok)
    (hpt : (hideAll s.heap [L0]).get? pt = some (tupOf [.int cx tx, .int cy ty, .int ca ta, .int cd td]))
    (bad : ¬ (0 ≤ cx ∧ cx < mcA f ∧ 0 ≤ cy ∧ cy < mcD f ∧ 1 ≤ ca ∧ 1 ≤ cd))
    (h : ∀ h' tk sl, Stay (hideAll s.heap [L0]) h' → h'.get? L0 = some { oL with slots := sl } → R (.ok (.ret (.bool true))) { s with heap := h', toks := tk }) :
    codeAny (model prog w) A (.call (.ref 250) ⟨[.ref gx, .ref fx, .ref pt], []⟩) R s := by
  obtain ⟨ah, ad, af, ag, au⟩ := A
  obtain rfl : ah = none := rm.handled
  refine' call_B (news := [(L0, oL)]) [(Str.ofString "grid", .ref gx), (Str.ofString "frame", .ref fx), (Str.ofString "part", .ref pt)] (fun _ _ e => of_hideAll _ e) (Nat.le_of_eq (hideAll_size _ _)) ?hn ?X ?lim ?ho ?hcd ?room ?bind ?loc ?_ ?c2 ?c3 ?c4 ?c5
  case X => exact X
  case ho => k_is
  case hcd => k_is
  case lim => exact (T).nolimit
  case room => exact rm.lim
  case bind => exact BindsTo.of_eq rfl
  case loc => exact locs rfl
  case hn => 
    intro q hq
    rw [List.mem_singleton] at hq; subst hq; exact ⟨hL, hideAll_none _ (.head _)⟩
  case c2 => rfl
  case c3 => rfl
  case c4 => rfl
  case c5 => decide
  intro h₁ F N; (try dsimp only); k_fold
  ktr_unf
  rename Fr _ _ _ _ => F2
  rename News _ _ _ _ => N2
  have hL1 := (N2 _ (.head _)).1
  refine call_of_code ?_
  refine cropg_refuse (B := hideAll s.heap [L0]) (below_two hfr hf0 hk0 F2 (hideAll_none _ (.head _)) hL1 hLd) (X.keeps F2.keep) (T.keeps F2.keep) ((rm.le (by decide)).deeper _) (hf.mono fun a o y => F2.keep _ _ y) ok bad ?_
  rintro v s' ⟨e, h', tk, a0, rfl, rfl, up, fl⟩
  dsimp only
  refine caught_44 hfr F2 up fl X T (by with_unfolding_all rfl) ?_
  intro h6 F6 up6
  clear F2 N2
  ktr_unf
  obtain ⟨sl, hsl⟩ := up6 _ _ hL1 hLd
  exact h _ _ sl F6.keep hsl
end
end Mine
end
-- S22
section
open PySem PySem.W PySem.Calls PyProof.Rows
namespace Mine
theorem stay_hid {b h : Heap} {L src : Addr} {o : Obj} {m : Str → Option Value} {nz : List (Addr × Obj)} (F : Fr b L h m) (N : News b L h nz) (hm : (src, o) ∈ nz) : Stay b (hideAll h [src]) := fun a o' q => hideAll_get _ (F.keep _ _ q) (by
  intro z
  rw [List.mem_singleton] at z
  have := (N _ hm).2.2
  dsimp only at this
  rw [← z, q] at this; cases this)
theorem grow {b h h' : Heap} {L src : Addr} {o o' : Obj} {m : Str → Option Value} {rest : List (Addr × Obj)} (F : Fr b L h m) (N : News b L h ((src, o) :: rest)) (hap : ∀ q ∈ rest, q.1 ≠ src)
    (st : Stay (hideAll h [src]) h') (hs : h'.get? src = some o') : Fr b L h' m ∧ News b L h' ((src, o') :: (rest ++ madeList h h')) ∧ ∀ q ∈ rest ++ madeList h h', q.1 ≠ src := by
  have hS := N _ (.head _)
  dsimp only at hS
  have hb : ∀ a o, a ≠ src → h.get? a = some o → h'.get? a = some o := fun a o hne q => st _ _ (hideAll_get _ q (by simpa using hne))
  have hmd : ∀ q ∈ madeList h h', q.1 ≠ src := by
    rintro ⟨a, x⟩ hq z
    have := (mem_madeList.mp hq).2
    dsimp only at z
    rw [z, hS.1] at this; cases this
  have ap : ∀ q ∈ rest ++ madeList h h', q.1 ≠ src := fun q hq => (List.mem_append.mp hq).elim (hap q) (hmd q)
  obtain ⟨oL, a1, a2, hoL, a3⟩ := F.ns
  have hLs : L ≠ src := fun z => hS.2.1 z.symm
  refine ⟨⟨⟨oL, a1, a2, hb _ _ hLs hoL, a3⟩, fun a x q => st _ _ (stay_hid F N (.head _) _ _ q), F.above⟩, ?_, ap⟩
  intro q hq
  rcases List.mem_cons.mp hq with rfl | hq
  · exact ⟨hs, hS.2⟩
  · rcases List.mem_append.mp hq with hq | hq
    · exact ⟨hb _ _ (hap q hq) (N q (.tail _ hq)).1, (N q (.tail _ hq)).2⟩
    · have hm := mem_madeList.mp (show (q.1, q.2) ∈ madeList h h' from hq)
      refine ⟨hm.1, ?_, ?_⟩
      · intro z
        have := hm.2
        rw [z, hoL] at this; cases this
      · cases z : b.get? q.1 with
        | none => rfl
        | some x => have := F.keep _ _ z; rw [hm.2] at this; cases this
theorem grow' {b h h' : Heap} {L src : Addr} {o o' : Obj} {m : Str → Option Value} {rest : List (Addr × Obj)} (F : Fr b L h m) (N : News b L h ((src, o) :: rest)) (hap : ∀ q ∈ rest, q.1 ≠ src)
    (st : Stay (hideAll h [src]) h') (hs : h'.get? src = some o') : ∃ rest', Fr b L h' m ∧ News b L h' ((src, o') :: rest') ∧ (∀ q ∈ rest', q.1 ≠ src) ∧ (∀ a o, (a, o) ∈ rest → (a, o) ∈ rest') ∧ ∀ a o, made h h' a o → (a, o) ∈ rest' :=
  let ⟨a, b, c⟩ := grow F N hap st hs
  ⟨_, a, b, c, fun _ _ y => List.mem_append_left _ y, fun _ _ y => List.mem_append_right _ (mem_madeList.mpr y)⟩
theorem stay_of_stay {h h' : Heap} {as : List Addr} (st : Stay h h') : Stay (hideAll h as) h' := fun a o q => st _ _ (of_hideAll _ q)
theorem caller_room : Room callerA 20 := ⟨rfl, by decide +kernel, by decide +kernel⟩
end Mine
end
-- LawPure
section
open PySem PySem.W PySem.Calls PyProof.Rows
namespace Mine
theorem crop_wd (f : Fm) (x y a d : Int) : (crop f x y a d).wd = min (a * (2 * mxA f.cs)) (f.wd - x * (2 * mxA f.cs)) := by
  rw [Int.mul_comm 2]; rfl
theorem crop_ht (f : Fm) (x y a d : Int) : (crop f x y a d).ht = min (d * (2 * mxD f.cs)) (f.ht - y * (2 * mxD f.cs)) := by
  rw [Int.mul_comm 2]; rfl
theorem cell1 {f : Fm} (ok : f.Ok) {x y : Int} (x0 : 0 ≤ x) (y0 : 0 ≤ y) (i j k : Nat) (c : Cm) (hc : f.cs[i]? = some c) :
    [(i : Int), ((oX f x i + k : Nat) : Int), ((oY f y i + j : Nat) : Int), 7] = [(i : Int), x * c.ac + (k : Int), y * c.dn + (j : Int), 7] := by
  have o := ok.cs c (List.mem_of_getElem? hc)
  rw [Int.natCast_add, Int.natCast_add, oX_eq hc o x0, oY_eq hc o y0]
theorem cell2 {f g : Fm} (ok : f.Ok) (e : g.cs = f.cs) {x y u v : Int} (x0 : 0 ≤ x) (y0 : 0 ≤ y) (u0 : 0 ≤ u) (v0 : 0 ≤ v) (i j k : Nat) (c : Cm) (hc : f.cs[i]? = some c) :
    [(i : Int), ((oX f x i + (oX g u i + k) : Nat) : Int), ((oY f y i + (oY g v i + j) : Nat) : Int), 7] = [(i : Int), (x + u) * c.ac + (k : Int), (y + v) * c.dn + (j : Int), 7] := by
  have o := ok.cs c (List.mem_of_getElem? hc)
  have hg : g.cs[i]? = some c := by rw [e]; exact hc
  rw [Int.natCast_add, Int.natCast_add, Int.natCast_add, Int.natCast_add, oX_eq hc o x0, oY_eq hc o y0, oX_eq hg o u0, oY_eq hg o v0, Int.add_mul, Int.add_mul, Int.add_assoc, Int.add_assoc]
theorem twice {M W x a u b m m' : Int} (hM : M = 1 ∨ M = 2) (w0 : 1 ≤ W) (hm : m = (W + 2 * M - 1) / (2 * M)) (hm' : m' = min a (m - x)) (x0 : 0 ≤ x) (x1 : x < m) (a0 : 1 ≤ a) (u0 : 0 ≤ u) (u1 : u < m') (b0 : 1 ≤ b) :
    min (b * (2 * M)) (min (a * (2 * M)) (W - x * (2 * M)) - u * (2 * M)) = min ((if m' - u < b then m' - u else b) * (2 * M)) (W - (x + u) * (2 * M)) := by
  rcases hM with rfl | rfl <;> split <;> omega
theorem crop_twice_wd {f : Fm} (ok : f.Ok) {x y a d u v b e : Int} (x0 : 0 ≤ x) (x1 : x < mcA f) (a0 : 1 ≤ a) (u0 : 0 ≤ u) (u1 : u < mcA (crop f x y a d)) (b0 : 1 ≤ b) :
    (crop (crop f x y a d) u v b e).wd = min ((if mcA (crop f x y a d) - u < b then mcA (crop f x y a d) - u else b) * (2 * mxA f.cs)) (f.wd - (x + u) * (2 * mxA f.cs)) := by
  rw [crop_wd, crop_wd]
  refine twice ok.mA ok.w0 (m := mcA f) ?_ (mcA_crop ok x0 x1 a0) x0 x1 a0 u0 u1 b0
  unfold mcA
  exact Int.fdiv_eq_ediv_of_nonneg _ (by rcases ok.mA with q | q <;> omega)
theorem crop_twice_ht {f : Fm} (ok : f.Ok) {x y a d u v b e : Int} (y0 : 0 ≤ y) (y1 : y < mcD f) (d0 : 1 ≤ d) (v0 : 0 ≤ v) (v1 : v < mcD (crop f x y a d)) (e0 : 1 ≤ e) :
    (crop (crop f x y a d) u v b e).ht = min ((if mcD (crop f x y a d) - v < e then mcD (crop f x y a d) - v else e) * (2 * mxD f.cs)) (f.ht - (y + v) * (2 * mxD f.cs)) := by
  rw [crop_ht, crop_ht]
  refine twice ok.mD ok.h0 (m := mcD f) ?_ (mcD_crop ok y0 y1 d0) y0 y1 d0 v0 v1 e0
  unfold mcD
  exact Int.fdiv_eq_ediv_of_nonneg _ (by rcases ok.mD with q | q <;> omega)
end Mine
end
-- Odd
section
open PySem PySem.W PySem.Calls PyProof.Rows
namespace Mine
/-- the frame's own object changed in its slots alone -/
theorem back_slots {b h h' : Heap} {L : Addr} {m : Str → Option Value} {nz : List (Addr × Obj)} {oL : Obj} {sl : Array (Option Value)} (F : Fr b L h m) (N : News b L h nz) (hL : h.get? L = some oL) (st : Stay (hideAll h [L]) h')
    (e : h'.get? L = some { oL with slots := sl }) : Fr b L h' m ∧ News b L h' nz := by
  have hb : ∀ a o, a ≠ L → h.get? a = some o → h'.get? a = some o := fun a o hne q => st _ _ (hideAll_get _ q (by simpa using hne))
  refine ⟨⟨?_, fun a o q => hb _ _ ?_ (F.keep _ _ q), F.above⟩, fun p hp => ⟨hb _ _ (N p hp).2.1 (N p hp).1, (N p hp).2⟩⟩
  · obtain ⟨o, es, ep, ho, hd, r⟩ := F.ns
    rw [hL] at ho; cases ho
    exact ⟨_, es, ep, e, hd, r⟩
  · exact Nat.ne_of_lt (Nat.lt_of_lt_of_le (Heap.lt_size q) F.above)
theorem stay_hidL {b h : Heap} {L : Addr} {m : Str → Option Value} (F : Fr b L h m) : Stay b (hideAll h [L]) := fun a o q => hideAll_get _ (F.keep _ _ q) (by
  rw [List.mem_singleton]
  exact Nat.ne_of_lt (Nat.lt_of_lt_of_le (Heap.lt_size q) F.above))
theorem news_hidL {b h : Heap} {L : Addr} {nz : List (Addr × Obj)} (N : News b L h nz) {a : Addr} {o : Obj} (hm : (a, o) ∈ nz) : (hideAll h [L]).get? a = some o :=
  hideAll_get _ (N _ hm).1 (by rw [List.mem_singleton]; exact (N _ hm).2.1)
section
variable {prog : Program} {w : World} {A : Around} {E : Value → Shared → Prop} {s : Shared} {env : Env} {b : Heap} {m : Str → Option Value} {nz : List (Addr × Obj)} {x : Str} {body : List Stmt} {Q : Flow → Shared → Prop}
/-- a loop over a list that the ledger bears -/
theorem loop_made {l : Addr} {lo : Obj} {vs : List Value} {e : Nat} (J : Nat → (Str → Option Value) → List (Addr × Obj) → Prop) (hh : A.handled = none)
    (hlo : lo = PySem.W.listOf vs.toArray e) (hJl : ∀ i m nz, J i m nz → (l, lo) ∈ nz) (F : Fr b env.locals s.heap m) (N : News b env.locals s.heap nz) (h0 : J 0 m nz)
    (turn : ∀ i v m₁ nz₁ h tk I io, vs[i]? = some v → J i m₁ nz₁ → (∀ q ∈ nz₁, q.1 ≠ I) → Fr b env.locals h (fun y => if y = x then some v else m₁ y) → News b env.locals h ((I, io) :: nz₁) →
      wpAny (model prog w) A (execs body env) (TurnPost b env.locals I io (J (i + 1)) { s with heap := h, toks := tk } Q) E { s with heap := h, toks := tk })
    (done : ∀ m₁ nz₁ h tk, J vs.length m₁ nz₁ → Fr b env.locals h m₁ → News b env.locals h nz₁ → Q .next { s with heap := h, toks := tk }) :
    wpAny (model prog w) A (pyIter (.ref l)) (fun it s₂ => LoopAtV prog w A b env x body Q E it s₂) E s := by
  have hl : s.heap.get? l = some lo := (N _ (hJl _ _ _ h0)).1
  have hlL : l ≠ env.locals := (N _ (hJl _ _ _ h0)).2.1
  have hls : s.heap.IsList l vs.toArray := ⟨_, hl, by rw [hlo], e, by rw [hlo]⟩
  have hlt : l < s.heap.objs.size := Heap.lt_size hl
  have hne : l ≠ s.heap.objs.size := Nat.ne_of_lt hlt
  refine wpAny_pyIter_list hls ?_
  have W := Walks.list (prog := prog) (w := w) hh s.heap.objs.size l hne vs.toArray
  have F2 : Fr b env.locals (s.heap.push { cls := .type "list_iterator", data := .fields #[.ref l, .int 0 0] }) m := F.push _
  have N2 : News b env.locals (s.heap.push { cls := .type "list_iterator", data := .fields #[.ref l, .int 0 0] }) nz := fun p hp => ⟨Heap.get?_push_of_some _ (N p hp).1, (N p hp).2⟩
  refine ⟨s.heap.objs.size, _, [s.heap.objs.size], _, _, _, m, nz, J, rfl, W, ?_, ?_, ?_, ⟨⟨_, Heap.get?_push_size _ rfl, rfl, rfl⟩, hls.at fun o e => Heap.get?_push_of_some _ e⟩, F2, N2, h0, ?_, ?_⟩
  · intro hm
    rcases List.mem_cons.mp hm with e | hm
    · exact absurd F.ns.lt (e ▸ Nat.lt_irrefl _)
    · exact hlL (List.mem_singleton.mp hm).symm
  · intro y hy; rw [List.mem_singleton] at hy; subst hy
    cases q : b.get? s.heap.objs.size with
    | none => rfl
    | some o => exact absurd (Heap.lt_size (F.keep _ _ q)) (Nat.lt_irrefl _)
  · intro q hq hm
    rw [List.mem_singleton] at hm
    exact absurd (Heap.lt_size (N q hq).1) (hm ▸ Nat.lt_irrefl _)
  · rintro i v m₁ nz₁ s₁ own ⟨h, tk, rfl⟩ hi hP hJ hoff hown hown2 hall hst₁ F₁ N₁
    obtain ⟨⟨io, hio, _⟩, _⟩ := id hst₁
    have hIb : b.get? s.heap.objs.size = none := by
      cases q : b.get? s.heap.objs.size with
      | none => rfl
      | some o => exact absurd (Heap.lt_size (F.keep _ _ q)) (Nat.lt_irrefl _)
    have hmem : (s.heap.objs.size, io) ∈ own := hall _ (.head _) hIb io hio
    have hl1 : h.get? l = some lo := (N₁ _ (List.mem_append_right _ (hJl _ _ _ hJ))).1
    have honly : ∀ p ∈ own, p = (s.heap.objs.size, io) ∨ p = (l, lo) := by
      rintro ⟨a, o⟩ hp
      have h1 := hown _ hp
      have h2 := hown2 _ hp
      dsimp only at h1 h2 hio
      rcases List.mem_cons.mp h1 with e | h1
      · subst e; rw [h2] at hio; cases hio; exact .inl rfl
      · rw [List.mem_singleton] at h1; subst h1; rw [h2] at hl1; cases hl1; exact .inr rfl
    have hap : ∀ q ∈ nz₁, q.1 ≠ s.heap.objs.size := fun q hq e => hoff q hq (List.mem_singleton.mpr e)
    have N₂ : News b env.locals h ((s.heap.objs.size, io) :: nz₁) := by
      intro p hp
      rcases List.mem_cons.mp hp with rfl | hp
      · exact N₁ _ (List.mem_append_left _ hmem)
      · exact N₁ _ (List.mem_append_right _ hp)
    refine wpAny_mono (turn i v m₁ nz₁ h tk _ io (by simpa using hP) hJ hap F₁ N₂) (fun f s₂ p => ?_) fun _ _ e => e
    have fin : TurnEnd b env.locals s.heap.objs.size io (J (i + 1)) { s with heap := h, toks := tk } s₂ → LoopStepU b env.locals [s.heap.objs.size] own (J (i + 1)) { s with heap := h, toks := tk } .next s₂ := by
      rintro ⟨h', tk', m', nz', e, F', N', ha, hj⟩
      refine ⟨rfl, h', tk', m', nz', e, F', ?_, fun q hq hm => ha q hq (List.mem_singleton.mp hm), hj⟩
      intro p hp
      rcases List.mem_append.mp hp with hp | hp
      · rcases honly p hp with q | q
        · rw [q]; exact N' _ (.head _)
        · rw [q]; exact N' _ (.tail _ (hJl _ _ _ hj))
      · exact N' _ (.tail _ hp)
    cases f with
    | ret v => exact .ret p
    | brk => exact .brk p
    | next => exact .next (fin p)
    | cont => exact .cont (fin p)
  · intro h' tk m' nz' F' N' _ hJ
    exact done m' nz' h' tk (by simpa using hJ) F' N'
theorem For_fr {h : Heap} {L : Addr} {px pos : Pos} {iter : Expr} (F : Fr b L h m) (hx : env.kindOf x = some .local)
    (hp : (env.scope.kind == .class || (env.scope.kind == .module && env.locals != env.globals)) = false)
    (h : wpAny (model prog w) A (eval iter env) (fun xv s₁ => wpAny (model prog w) A (pyIter xv) (fun it s₂ => LoopAtV prog w A b env x body Q E it s₂) E s₁) E s)
    (hs : ∀ x, foldedSetIterable iter env x = pure x) (hE : PassesOwn (model prog w) A env E) :
    wpAny (model prog w) A (exec (.For (.Name x px) iter body [] pos) env) Q E s := For_invV b hx hp h hs hE
/-- a part that is refused, on the ledger -/
def OddAt (nz : List (Addr × Obj)) (f : Fm) (v : Value) : Prop :=
  ∃ pt cx cy ca cd tx ty ta td, v = .ref pt ∧ (pt, tupOf [.int cx tx, .int cy ty, .int ca ta, .int cd td]) ∈ nz ∧ ¬ (0 ≤ cx ∧ cx < mcA f ∧ 0 ≤ cy ∧ cy < mcD f ∧ 1 ≤ ca ∧ 1 ≤ cd)
def OddTurn (b : Heap) (L I : Addr) (io : Obj) (m' : Str → Option Value) (nz : List (Addr × Obj)) (s : Shared) (fl : Flow) (s₂ : Shared) : Prop :=
  fl = .next ∧ ∃ h' tk', s₂ = { s with heap := h', toks := tk' } ∧ Fr b L h' m' ∧ News b L h' ((I, io) :: nz)
theorem odd_loop {l gx fx : Addr} {vs : List Value} {e : Nat} {f : Fm} (hh : A.handled = none) (hl : (l, PySem.W.listOf vs.toArray e) ∈ nz) (tab : ∀ (i : Nat) (v : Value), vs[i]? = some v → OddAt nz f v)
    (kn : Knows m [(Str.ofString "grid", .ref gx), (Str.ofString "frame", .ref fx)]) (hx : decide (Str.ofString "grid" ≠ x) = true ∧ decide (Str.ofString "frame" ≠ x) = true) (F : Fr b env.locals s.heap m) (N : News b env.locals s.heap nz)
    (turn : ∀ pt cx cy ca cd tx ty ta td I io m₁ h tk, (pt, tupOf [.int cx tx, .int cy ty, .int ca ta, .int cd td]) ∈ nz → ¬ (0 ≤ cx ∧ cx < mcA f ∧ 0 ≤ cy ∧ cy < mcD f ∧ 1 ≤ ca ∧ 1 ≤ cd) →
      Fr b env.locals h (withKn [(x, .ref pt), (Str.ofString "grid", .ref gx), (Str.ofString "frame", .ref fx)] m₁) → News b env.locals h ((I, io) :: nz) →
      wpAny (model prog w) A (execs body env) (OddTurn b env.locals I io (withKn [(x, .ref pt), (Str.ofString "grid", .ref gx), (Str.ofString "frame", .ref fx)] m₁) nz { s with heap := h, toks := tk }) E { s with heap := h, toks := tk })
    (done : ∀ m₁ h tk, Fr b env.locals h m₁ → News b env.locals h nz → Q .next { s with heap := h, toks := tk }) :
    wpAny (model prog w) A (pyIter (.ref l)) (fun it s₂ => LoopAtV prog w A b env x body Q E it s₂) E s := by
  refine loop_made (vs := vs) (e := e) (fun i m nz' => Knows m [(Str.ofString "grid", .ref gx), (Str.ofString "frame", .ref fx)] ∧ nz' = nz) hh rfl (fun i m nz' h => h.2 ▸ hl) F N ⟨kn, rfl⟩ ?_ ?_
  · rintro i v m₁ nz₁ h tk I io hv ⟨k, rfl⟩ ha F₁ N₁
    obtain ⟨pt, cx, cy, ca, cd, tx, ty, ta, td, rfl, hpt, bad⟩ := tab i v hv
    have hk : Knows (fun y => if y = x then some (Value.ref pt) else m₁ y) [(Str.ofString "grid", .ref gx), (Str.ofString "frame", .ref fx)] := knows_put k (by simp only [List.all_cons, List.all_nil, hx.1, hx.2]; rfl)
    have hk2 : Knows (fun y => if y = x then some (Value.ref pt) else m₁ y) [(x, .ref pt), (Str.ofString "grid", .ref gx), (Str.ofString "frame", .ref fx)] := ⟨if_pos rfl, hk⟩
    have F₂ := fr_kn F₁ _ hk2
    refine wpAny_mono (turn pt cx cy ca cd tx ty ta td I io _ h tk hpt bad F₂ N₁) ?_ fun _ _ e => e
    rintro fl s₂ ⟨rfl, h', tk', rfl, F', N'⟩
    exact ⟨h', tk', _, nz₁, rfl, F', N', ha, by rw [withKn_eq hk2]; exact hk, rfl⟩
  · rintro m₁ nz₁ h tk ⟨_, rfl⟩ F₁ N₁
    exact done m₁ h tk F₁ N₁
end
end Mine
end
-- S23
section
open PySem PySem.W PySem.Calls PyProof.Rows
namespace Mine
theorem rs_S23 : True := by
  w_top off
  trivial
local macro_rules | `(tactic| walk_at "pad") => `(tactic| skip)
local macro_rules | `(tactic| walk_at "pad") => `(tactic| skip)

local macro_rules | `(tactic| k_inst) => `(tactic| first
  | (refine' inst_base ?F ?h1 ?h2; (case F => k_asm); (case h1 => assumption); (case h2 => assumption))
  | (refine' InstAt.of_news ?N ?h1 ?h2; (case N => k_asm); (case h1 => assumption); (case h2 => assumption)))
local macro_rules | `(tactic| walk_at "binaryOp FloorDiv int int") => `(tactic| ((with_reducible refine floordiv_int ?kb ?_ (Or.inl (PyProof.noPylong_small ?kp))); (case kb => omega); (case kp => omega)))
local macro_rules | `(tactic| walk_at "binaryOp Mult int int") => `(tactic| ((with_reducible refine mul_int ?_ (mulok_r ?k1 ?k2)); (case k1 => omega); (case k2 => omega)))
local macro_rules | `(tactic| ktr_unf) => `(tactic| repeat' (first
  | (k_unfold; (try dsimp only))
  | (with_reducible refine wpAny_execs_cons ?_)
  | ((fail_if_success (with_reducible show wpAny _ _ (exec (Stmt.For _ _ _ _ _) _) _ _ _)); (fail_if_success (with_reducible show wpAny _ _ (eval (Expr.ListComp _ _ _ _) _) _ _ _)); (fail_if_success (with_reducible show wpAny _ _ (pyIter _) _ _ _)); (fail_if_success (with_reducible show wpAny _ _ (call (Value.type "range") _) _ _ _)); (fail_if_success (with_reducible show wpAny _ _ (call (Value.builtin "list.append") _) _ _ _)); (fail_if_success (with_reducible show wpAny _ _ (setItem _ _ _) _ _ _)); (fail_if_success (with_reducible show wpAny _ _ (call (Value.type "list") _) _ _ _)); (fail_if_success (with_reducible show wpAny _ _ (call (Value.ref 208) _) _ _ _)); (fail_if_success (with_reducible show wpAny _ _ (call (Value.ref 222) _) _ _ _)); (fail_if_success (with_reducible show wpAny _ _ (call (Value.ref 229) _) _ _ _)); (fail_if_success (with_reducible show wpAny _ _ (call (Value.ref 236) _) _ _ _)); (fail_if_success (with_reducible show wpAny _ _ (call (Value.ref 201) _) _ _ _)); (fail_if_success (with_reducible show wpAny _ _ (call (Value.ref 243) _) _ _ _)); (fail_if_success (with_reducible show wpAny _ _ (call (Value.ref 250) _) _ _ _)); (fail_if_success (with_reducible show wpAny _ _ (call (Value.ref 105) _) _ _ _)); (fail_if_success (with_reducible show wpAny _ _ (call (Value.ref 112) _) _ _ _)); first | walk1 | (dsimp only; walk1))
  | fail "no step"))
local macro_rules | `(tactic| walk_at "subscriptTail Attribute Name Name ref int") => `(tactic| ((with_reducible show wpAny _ _ (subscriptTail _ _ (Value.ref _) (Value.int _ _)) _ _ _); (refine' my_item ?kl ?kh ?kx ?_ ?ks); (case kl => first | exact Fr.keep (by assumption) _ _ (by assumption) | exact (News.get (by assumption) (by k_mem))); (case kx => assumption); (case kh => omega); (case ks => with_unfolding_all rfl)))
local macro_rules | `(tactic| walk_at "subscriptTail Subscript Attribute Name Name ref int") => `(tactic| ((with_reducible show wpAny _ _ (subscriptTail _ _ (Value.ref _) (Value.int _ _)) _ _ _); (refine' my_item ?kl ?kh ?kx ?_ ?ks); (case kl => first | exact Fr.keep (by assumption) _ _ (by assumption) | exact (News.get (by assumption) (by k_mem))); (case kx => assumption); (case kh => omega); (case ks => with_unfolding_all rfl)))
local macro_rules | `(tactic| walk_at "subscriptTail Subscript Subscript Name Name ref int") => `(tactic| ((with_reducible show wpAny _ _ (subscriptTail _ _ (Value.ref _) (Value.int _ _)) _ _ _); (refine' my_item ?kl ?kh ?kx ?_ ?ks); (case kl => first | exact Fr.keep (by assumption) _ _ (by assumption) | exact (News.get (by assumption) (by k_mem))); (case kx => assumption); (case kh => omega); (case ks => with_unfolding_all rfl)))
local macro_rules | `(tactic| walk_at "subscriptTail") => `(tactic| ((with_reducible show wpAny _ _ (subscriptTail _ _ (Value.ref _) (Value.int _ _)) _ _ _); (refine' my_item ?kl ?kh ?kx ?_ ?ks); (case kl => first | exact Fr.keep (by assumption) _ _ (by assumption) | exact (News.get (by assumption) (by k_mem))); (case kx => assumption); (case kh => omega); (case ks => with_unfolding_all rfl)))
local macro_rules | `(tactic| k_mem) => `(tactic| assumption)
local macro_rules | `(tactic| walk_at "subscriptTail Name Constant ref int") => `(tactic| ((with_reducible show wpAny _ _ (subscriptTail _ _ (Value.ref _) (Value.int _ _)) _ _ _); (refine' item_tupleT (l := [_, _, _, _]) ?t ?a ?b ?c ?d ?_; (case t => first | exact tup_is (Fr.keep (by assumption) _ _ (by assumption)) | exact tup_is (News.get (by assumption) (by k_mem))); (case a => decide); (case b => decide); (case c => rfl); (case d => rfl))))
set_option maxRecDepth 100000 in
set_option maxHeartbeats 8000000 in
theorem law_holds : PySem.Challenge.rw_nt0546_01.Holds := hd rfl rfl rfl (by
  k_go0
  dsimp only
  rename Frag.In _ _ => KX
  rename Top _ _ _ _ _ _ => T0
  rename Heap.IsList _ _ _ => hL
  rename IntsAre _ _ => hI
  rename Heap.CodeRec _ _ _ => hCR
  clear hCR
  have T := topRead_of T0
  have rm := caller_room
  ktr_unf
  rename Fr _ _ _ _ => F0
  rename News _ _ _ _ => N0
  refine call_of_code ?_
  refine pool_spec (KX.keeps F0.keep) (T.keeps F0.keep) ((rm.le (by decide)).deeper _) (stays_list F0.keep hL) hI (by omega) ?_
  intro h2 tk2 src x y tx ty e st2 hsrc oks
  have F2 := fr_stay F0 st2
  have N2 := news_cons F0 N0 st2 hsrc.2 hsrc.1
  clear F0 N0
  ktr_unf
  rename Fr _ _ _ _ => F0
  rename News _ _ _ _ => N0
  refine call_of_code ?_
  have sth := stay_hid F0 N0 (.head _)
  refine frame_spec (KX.keeps sth) (T.keeps sth) ((rm.le (by decide)).deeper _) (N0 _ (.head _)).1 oks ?_
  intro h3 tk3 fx f a3 b3 ta3 tb3 e3 st3 hs3 oks3 ok hfr
  obtain ⟨rest3, F3, N3, ap3, up3, mk3⟩ := grow' F0 N0 (fun q hq => nomatch hq) st3 hs3
  replace hfr := hfr.mono mk3
  clear F0 N0 sth st3 st2 hsrc up3 mk3
  ktr_unf
  rename Fr _ _ _ _ => F0
  rename News _ _ _ _ => N0
  refine call_of_code ?_
  refine lgrid_spec (KX.keeps F0.keep) (T.keeps F0.keep) ((rm.le (by decide)).deeper _) (hfr.mono fun a o y => (N0 _ (.tail _ y)).1) ok ?_
  intro h4 tk4 gx st4 hgr
  obtain ⟨rest4, F4, N4, ap4, up4, mk4⟩ := grow' F0 N0 ap3 (stay_of_stay st4) (st4 _ _ (N0 _ (.head _)).1)
  replace hgr := hgr.mono mk4
  replace hfr := hfr.mono up4
  clear F0 N0 st4 ap3 up4 mk4
  ktr_unf
  rename Fr _ _ _ _ => F0
  rename News _ _ _ _ => N0
  refine call_of_code ?_
  have sth := stay_hid F0 N0 (.head _)
  refine part_spec (KX.keeps sth) (T.keeps sth) ((rm.le (by decide)).deeper _) (N0 _ (.head _)).1 oks3 (hfr.mono fun a o y => hideAll_get _ (N0 _ (.tail _ y)).1 (by simpa using ap4 _ y)) ok ?_
  intro h5 tk5 pt px py pa pd t1 t2 t3 t4 a5 b5 ta5 tb5 e5 st5 hs5 oks5 tpt x0 x1 y0 y1 a0 a1 d0 d1
  obtain ⟨rest5, F5, N5, ap5, up5, mk5⟩ := grow' F0 N0 ap4 st5 hs5
  replace tpt := mk5 _ _ tpt
  replace hgr := hgr.mono up5
  replace hfr := hfr.mono up5
  clear F0 N0 sth st5 ap4 up5 mk5
  have b2 := ok.mcA
  have b3 := ok.mcD
  ktr_unf
  rename Fr _ _ _ _ => F0
  rename News _ _ _ _ => N0
  refine call_of_code ?_
  replace N0 : News _ _ _ ((src, _) :: rest5) := fun q hq => N0 q (.tail _ hq)
  refine cropg_spec (KX.keeps F0.keep) (T.keeps F0.keep) ((rm.le (by decide)).deeper _) (hfr.mono fun a o y => (N0 _ (.tail _ y)).1) ok (hgr.mono fun a o y => (N0 _ (.tail _ y)).1) x0 x1 y0 y1 a0 (by omega) d0 (by omega) ?_
  intro h6 tk6 a6 lx gx2 st ta6 hfl hgl
  obtain ⟨rest6, F6, N6, ap6, up6, mk6⟩ := grow' F0 N0 ap5 (stay_of_stay st) (st _ _ (N0 _ (.head _)).1)
  replace ta6 := mk6 _ _ ta6
  replace hfl := hfl.mono mk6
  replace hgl := hgl.mono mk6
  replace hfr := hfr.mono up6
  replace hgr := hgr.mono up6
  replace tpt := up6 _ _ tpt
  clear F0 N0 ap5 up6 mk6
  clear st
  have okl := crop_ok ok (a := pa) (d := pd) x0 x1 y0 y1 a0 d0
  have hT6 : IsTup h6 a6 [Value.ref lx, Value.ref gx2].toArray := tup_is (N6 _ (.tail _ ta6)).1
  ktr_unf
  rename Fr _ _ _ _ => F0
  rename News _ _ _ _ => N0
  refine call_of_code ?_
  refine ispart_spec (ht' := (crop f px py pa pd).ht) (wd' := (crop f px py pa pd).wd) (KX.keeps F0.keep) (T.keeps F0.keep) ((rm.le (by decide)).deeper _) (hfr.mono fun a o y => (N0 _ (.tail _ y)).1) ok (hfl.mono fun a o y => (N0 _ (.tail _ y)).1) okl (hgl.mono fun a o y => (N0 _ (.tail _ y)).1) (N0 _ (.tail _ tpt)).1 x0 (by omega) y0 (by omega) (crop_wd f px py pa pd) (crop_ht f px py pa pd) (fun i j k c hc _ _ => cell1 ok x0 y0 i j k c hc) ?_
  intro h7 tk7 st
  have F7 := fr_stay F0 st
  have N7 := news_stay N0 st
  clear F0 N0 st
  ktr_unf
  rename Fr _ _ _ _ => F0
  rename News _ _ _ _ => N0
  refine call_of_code ?_
  have sth := stay_hid F0 N0 (.head _)
  refine part_spec (KX.keeps sth) (T.keeps sth) ((rm.le (by decide)).deeper _) (N0 _ (.head _)).1 oks5 (hfl.mono fun a o y => hideAll_get _ (N0 _ (.tail _ y)).1 (by simpa using ap6 _ y)) okl ?_
  intro h8 tk8 sm sx sy sa sd u1 u2 u3 u4 a8 b8 ta8 tb8 e8 st hs8 oks8 tsm sx0 sx1 sy0 sy1 sa0 sa1 sd0 sd1
  obtain ⟨rest8, F8, N8, ap8, up8, mk8⟩ := grow' F0 N0 ap6 st hs8
  replace tsm := mk8 _ _ tsm
  replace hfr := hfr.mono up8
  replace hgr := hgr.mono up8
  replace tpt := up8 _ _ tpt
  replace hfl := hfl.mono up8
  replace hgl := hgl.mono up8
  clear F0 N0 ap6 up8 mk8
  clear st sth
  have b4 := okl.mcA
  have b5 := okl.mcD
  ktr_unf
  rename Fr _ _ _ _ => F0
  rename News _ _ _ _ => N0
  refine call_of_code ?_
  refine cropg_spec (KX.keeps F0.keep) (T.keeps F0.keep) ((rm.le (by decide)).deeper _) (hfl.mono fun a o y => (N0 _ (.tail _ y)).1) okl (hgl.mono fun a o y => (N0 _ (.tail _ y)).1) sx0 sx1 sy0 sy1 sa0 (by omega) sd0 (by omega) ?_
  intro h9 tk9 a9 lx3 gx3 st ta9 hfz hgz
  obtain ⟨rest9, F9, N9, ap9, up9, mk9⟩ := grow' F0 N0 ap8 (stay_of_stay st) (st _ _ (N0 _ (.head _)).1)
  replace ta9 := mk9 _ _ ta9
  replace hfz := hfz.mono mk9
  replace hgz := hgz.mono mk9
  replace hfr := hfr.mono up9
  replace hgr := hgr.mono up9
  replace tpt := up9 _ _ tpt
  replace hfl := hfl.mono up9
  replace hgl := hgl.mono up9
  replace tsm := up9 _ _ tsm
  clear F0 N0 ap8 up9 mk9
  clear st
  have okz := crop_ok okl (a := sa) (d := sd) sx0 sx1 sy0 sy1 sa0 sd0
  have hT9 : IsTup h9 a9 [Value.ref lx3, Value.ref gx3].toArray := tup_is (N9 _ (.tail _ ta9)).1
  obtain ⟨ldx, lh1, lt1, lu1, lh2, lt2, lu2, lh3, lt3, lu3, lh4, lt4, lu4, lh5, lt5, lh6, lt6, lu6, ll, lvs, le, lhx, lhdx, lhl, lhcs⟩ := id hfl
  have lQx : (lx, _) ∈ (src, PySem.W.listOf [Value.int a8 ta8, Value.int b8 tb8].toArray e8) :: rest9 := .tail _ lhx
  have lQd : (ldx, _) ∈ (src, PySem.W.listOf [Value.int a8 ta8, Value.int b8 tb8].toArray e8) :: rest9 := .tail _ lhdx
  ktr_unf
  rename Fr _ _ _ _ => F0
  rename News _ _ _ _ => N0
  refine call_of_code ?_
  refine mcA_spec (KX.keeps F0.keep) (T.keeps F0.keep) ((rm.le (by decide)).deeper _) (hfl.mono fun a o y => (N0 _ (.tail _ y)).1) okl ?_
  intro h10 tk10 v1 st
  have F10 := fr_stay F0 st
  have N10 := news_stay N0 st
  clear F0 N0 st
  ktr_unf
  rename Fr _ _ _ _ => F0
  rename News _ _ _ _ => N0
  refine call_of_code ?_
  refine mcD_spec (KX.keeps F0.keep) (T.keeps F0.keep) ((rm.le (by decide)).deeper _) (hfl.mono fun a o y => (N0 _ (.tail _ y)).1) okl ?_
  intro h11 tk11 v2 st
  have F11 := fr_stay F0 st
  have N11 := news_stay N0 st
  clear F0 N0 st
  ktr_unf
  rename Fr _ _ _ _ => F0
  rename News _ _ _ _ => N0
  refine call_of_code ?_
  have hD := (N0 _ (.head _)).1
  replace N0 : News _ _ _ ((src, PySem.W.listOf [Value.int a8 ta8, Value.int b8 tb8].toArray e8) :: rest9) := fun q hq => N0 q (.tail _ (.tail _ hq))
  refine ispart_spec (f := f) (ht' := (crop (crop f px py pa pd) sx sy sa sd).ht) (wd' := (crop (crop f px py pa pd) sx sy sa sd).wd) (KX.keeps F0.keep) (T.keeps F0.keep) ((rm.le (by decide)).deeper _) (hfr.mono fun a o y => (N0 _ (.tail _ y)).1) ok (hfz.mono fun a o y => (N0 _ (.tail _ y)).1) okz (hgz.mono fun a o y => (N0 _ (.tail _ y)).1) hD (by omega) (by omega) (by omega) (by omega) (crop_twice_wd ok x0 x1 a0 sx0 sx1 sa0) (crop_twice_ht ok y0 y1 d0 sy0 sy1 sd0) (fun i j k c hc _ _ => cell2 (g := crop f px py pa pd) ok rfl x0 y0 sx0 sy0 i j k c hc) ?_
  intro h12 tk12 st
  have F12 := fr_stay F0 st
  have N12 := news_stay N0 st
  clear F0 N0 st
  clear hD
  obtain ⟨fdx, fh1, ft1, fu1, fh2, ft2, fu2, fh3, ft3, fu3, fh4, ft4, fu4, fh5, ft5, fh6, ft6, fu6, fl, fvs, fe, fhx, fhdx, fhl, fhcs⟩ := id hfr
  have fQx : (fx, _) ∈ (src, PySem.W.listOf [Value.int a8 ta8, Value.int b8 tb8].toArray e8) :: rest9 := .tail _ fhx
  have fQd : (fdx, _) ∈ (src, PySem.W.listOf [Value.int a8 ta8, Value.int b8 tb8].toArray e8) :: rest9 := .tail _ fhdx
  ktr_unf
  rename Fr _ _ _ _ => F0
  rename News _ _ _ _ => N0
  refine call_of_code ?_
  refine mcA_spec (KX.keeps F0.keep) (T.keeps F0.keep) ((rm.le (by decide)).deeper _) (hfr.mono fun a o y => (N0 _ (.tail _ y)).1) ok ?_
  intro h13 tk13 v3 st
  have F13 := fr_stay F0 st
  have N13 := news_stay N0 st
  clear F0 N0 st
  ktr_unf
  rename Fr _ _ _ _ => F0
  rename News _ _ _ _ => N0
  refine call_of_code ?_
  refine mcD_spec (KX.keeps F0.keep) (T.keeps F0.keep) ((rm.le (by decide)).deeper _) (hfr.mono fun a o y => (N0 _ (.tail _ y)).1) ok ?_
  intro h14 tk14 v4 st
  have F14 := fr_stay F0 st
  have N14 := news_stay N0 st
  clear F0 N0 st
  ktr_unf
  rename Fr _ _ _ _ => F0
  rename News _ _ _ _ => N0
  refine call_of_code ?_
  replace N0 : News _ _ _ ((src, PySem.W.listOf [Value.int a8 ta8, Value.int b8 tb8].toArray e8) :: rest9) := fun q hq => N0 q (.tail _ hq)
  refine cropg_spec (KX.keeps F0.keep) (T.keeps F0.keep) ((rm.le (by decide)).deeper _) (hfr.mono fun a o y => (N0 _ (.tail _ y)).1) ok (hgr.mono fun a o y => (N0 _ (.tail _ y)).1) (cx := 0) (cy := 0) (by omega) (by omega) (by omega) (by omega) b2.1 (by omega) b3.1 (by omega) ?_
  intro h15 tk15 a15 lx4 gx4 st ta15 hfw hgw
  obtain ⟨rest15, F15, N15, ap15, up15, mk15⟩ := grow' F0 N0 ap9 (stay_of_stay st) (st _ _ (N0 _ (.head _)).1)
  replace ta15 := mk15 _ _ ta15
  replace hfw := hfw.mono mk15
  replace hgw := hgw.mono mk15
  replace hfr := hfr.mono up15
  replace hgr := hgr.mono up15
  clear F0 N0 ap9 up15 mk15
  clear st hfz hgz hfl hgl
  have okw := crop_ok ok (x := 0) (y := 0) (a := mcA f) (d := mcD f) (by omega) (by omega) (by omega) (by omega) b2.1 b3.1
  have hT15 : IsTup h15 a15 [Value.ref lx4, Value.ref gx4].toArray := tup_is (N15 _ (.tail _ ta15)).1
  ktr_unf
  rename Fr _ _ _ _ => F0
  rename News _ _ _ _ => N0
  refine call_of_code ?_
  have hD := (N0 _ (.head _)).1
  replace N0 : News _ _ _ ((src, PySem.W.listOf [Value.int a8 ta8, Value.int b8 tb8].toArray e8) :: rest15) := fun q hq => N0 q (.tail _ hq)
  refine ispart_spec (f := f) (ht' := (crop f 0 0 (mcA f) (mcD f)).ht) (wd' := (crop f 0 0 (mcA f) (mcD f)).wd) (KX.keeps F0.keep) (T.keeps F0.keep) ((rm.le (by decide)).deeper _) (hfr.mono fun a o y => (N0 _ (.tail _ y)).1) ok (hfw.mono fun a o y => (N0 _ (.tail _ y)).1) okw (hgw.mono fun a o y => (N0 _ (.tail _ y)).1) hD (by omega) (by omega) (by omega) (by omega) (crop_wd f 0 0 (mcA f) (mcD f)) (crop_ht f 0 0 (mcA f) (mcD f)) (fun i j k c hc _ _ => cell1 ok (by omega) (by omega) i j k c hc) ?_
  intro h16 tk16 st
  have F16 := fr_stay F0 st
  have N16 := news_stay N0 st
  clear F0 N0 st
  clear hD
  ktr_unf
  refine For_fr F16 rfl rfl ?_ (by intro _; rfl) (by passes_own)
  ktr_unf
  (try clear F16)
  (try clear N16)
  rename Fr _ _ _ _ => F17
  rename News _ _ _ _ => N17
  refine odd_loop (gx := gx) (fx := fx) (f := f) (vs := [_, _, _, _, _, _]) rfl (.head _) ?tab ⟨rfl, rfl, trivial⟩ ⟨by decide, by decide⟩ F17 N17 ?turn ?done
  case tab =>
    clear F17 N17
    intro i v hv
    rcases i with _ | _ | _ | _ | _ | _ | i
    all_goals first
      | (simp only [List.getElem?_cons_succ, List.getElem?_nil] at hv; cases hv; done)
      | (simp only [List.getElem?_cons_succ, List.getElem?_cons_zero, Option.some.injEq] at hv
         subst hv
         refine' ⟨_, _, _, _, _, _, _, _, _, rfl, ?mem, ?no⟩
         case mem => repeat (first | exact List.Mem.head _ | refine List.Mem.tail _ ?_)
         case no => omega)
  case done =>
    intro m₁ h tk F₁ N₁
    clear F17 N17
    ktr_unf
    kc_bool
    refine goodW_bool (by assumption) (by assumption) (raisesW_false ?_) ?_
    · wrow_none_raised
    · kc_post
  case turn =>
    intro pt' cx cy ca cd tx ty ta td I io m₁ h tk hpt bad F₁ N₁
    clear F17 N17
    ktr_unf
    rename Fr _ _ _ _ => F0
    rename News _ _ _ _ => N0
    refine call_of_code ?_
    obtain ⟨oL, es, ep, hoL, hdL, _⟩ := id F0.ns
    refine refused_spec rfl rfl (by intro q; cases q) hoL (by intro vs q; rw [hdL] at q; cases q) (KX.keeps (stay_hidL F0)) (T.keeps (stay_hidL F0)) ((rm.le (by decide)).deeper _) (hfr.mono fun a o y => news_hidL N0 (.tail _ (.tail _ (.tail _ (.tail _ (.tail _ (.tail _ (.tail _ (.tail _ (.tail _ y)))))))))) ok (news_hidL N0 (.tail _ hpt)) bad ?_
    intro h' tk' sl st hL'
    obtain ⟨F3, N3⟩ := back_slots F0 N0 hoL st hL'
    clear F0 N0
    ktr_unf
    exact ⟨rfl, _, _, rfl, by assumption, by assumption⟩)
end Mine
end
theorem PySem.Challenge.cw_nt0546_01_holds : PySem.Challenge.rw_nt0546_01.Holds :=
  Mine.law_holds
