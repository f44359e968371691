import PyProof.Rows.All
import Wide.All
import OpenK.AllK
import Wide.FinOn
import Lean
import PySem.Challenge.RW_sa0591_01
open PySem PySem.W PySem.Spec PySem.Calls PyProof.Rows
set_option Elab.async false
set_option compiler.extract_closed false
set_option maxRecDepth 100000
namespace Mine

theorem off_top : True := by w_top off; exact trivial
/-- the statement i of the text, and the statement j of its class i -/
def nthS : List Stmt → Nat → Stmt
  | s :: _, 0 => s
  | _ :: l, n + 1 => nthS l n
  | [], _ => .Pass default
noncomputable def kst (i : Nat) : Stmt := nthS PySem.Challenge.pw_sa0591_01.main.body i
noncomputable def kmt (i j : Nat) : Stmt := match kst i with
  | .ClassDef _ _ _ body _ _ _ _ _ _ _ => nthS body j
  | s => s
/-- the def that a statement leaves -/
noncomputable def kfd (st : Stmt) (nm qn : Str) (g : Addr) (cl : List (Str × Addr)) (dV kV doc pm : Value) (an : Option Addr) (cd ct : Value) (b : Addr) : Data := match st with
  | .FunctionDef _ args body _ _ _ scope _ _ _ => .func ⟨nm, qn, args, .stmts body, scope, g, cl, dV, kV, doc, pm, an, cd, ct, b⟩
  | _ => .plain
noncomputable abbrev kde (P : Params) (s : String) (t : Tok) (v : Value) : DictEntry := ⟨PyData.keyHash P (Str.ofString s), .str (Str.ofString s) t, v⟩
set_option maxHeartbeats 4000000 in
/-- the objects that the text's run leaves and the law's call can come to -/
noncomputable def kf : Params → Frag := fun P =>
  (nat_lit 2, ⟨.none, none, (.dict [kde P "type.__subclasses__.Exception.0" 219 (.int 34 0), kde P "type.__subclasses__.Exception.n" 220 (.int 1 0)].toArray 2), [].toArray⟩) ::
  (nat_lit 3, ⟨(.type "dict"), none, (.dict [kde P "__name__" 165 (.str (.ofString "law_sa0591_01") 503), kde P "__doc__" 166 .none, kde P "__package__" 167 .none, kde P "__loader__" 168 (.builtin "__main__.__loader__#opaque"), kde P "__spec__" 169 .none, kde P "__annotations__" 170 (.ref 6), kde P "__builtins__" 171 (.ref 4), kde P "__file__" 173 (.str (.ofString "/claim/cut.py") 172), kde P "__cached__" 174 .none, kde P "SnobolError" 222 (.ref 34), kde P "Failure" 242 (.ref 47), kde P "Pattern" 271 (.ref 68), kde P "is_fail" 278 (.ref 79), kde P "fits" 286 (.ref 86), kde P "whole_of_text" 297 (.ref 93), kde P "text_of_whole" 306 (.ref 100), kde P "to_whole" 314 (.ref 107), kde P "to_text" 321 (.ref 114), kde P "need_whole" 330 (.ref 121), kde P "need_text" 338 (.ref 128), kde P "need_size" 347 (.ref 135), kde P "replaced_signs" 355 (.ref 140), kde P "padded" 366 (.ref 147), kde P "part_of" 375 (.ref 154), kde P "told_or_fail" 382 (.ref 161), kde P "text_replace" 392 (.ref 168), kde P "text_dupl" 402 (.ref 175), kde P "text_reverse" 410 (.ref 182), kde P "text_lpad" 418 (.ref 189), kde P "pad_text" 429 (.ref 196), kde P "text_substr" 439 (.ref 203), kde P "World" 502 (.ref 221), kde P "_law_signs" 506 (.str (.ofString "abcdef12") 505), kde P "_law_dipped" 516 (.ref 232), kde P "_law_value" 523 (.ref 239), kde P "_law_by" 533 (.ref 246), kde P "_law_own" 539 (.ref 251), kde P "_law_rounds" 545 (.ref 256), kde P "_law_same" 553 (.ref 263), kde P "_law_through" 572 (.ref 270), kde P "_law_fails" 587 (.ref 277), kde P "law" 593 (.ref 282)].toArray 42), [].toArray⟩) ::
  (nat_lit 15, ⟨(.type "tuple"), none, (.seq [(.type "Exception")].toArray 0), [].toArray⟩) ::
  (nat_lit 18, ⟨(.type "cell"), none, (.cell (some (.ref 34))), [].toArray⟩) ::
  (nat_lit 23, ⟨(.type "tuple"), none, (.seq [(.str (.ofString "") 201)].toArray 0), [].toArray⟩) ::
  (nat_lit 24, ⟨(.type "tuple"), none, (.seq [(.ref 18)].toArray 0), [].toArray⟩) ::
  (nat_lit 25, ⟨(.type "tuple"), none, (.seq [(.str (.ofString "__class__") 205)].toArray 0), [].toArray⟩) ::
  (nat_lit 27, ⟨(.type "tuple"), none, (.seq [(.str (.ofString "self") 206), (.str (.ofString "number") 207), (.str (.ofString "told") 208)].toArray 0), [].toArray⟩) ::
  (nat_lit 28, ⟨(.type "tuple"), none, (.seq [].toArray 0), [].toArray⟩) ::
  (nat_lit 30, ⟨(.type "code"), none, (.fields [(.str (.ofString "__init__") 202), (.str (.ofString "SnobolError.__init__") 203), (.str (.ofString "/claim/cut.py") 204), (.int 4 0), (.int 3 0), (.int 0 0), (.int 0 0), (.int 3 0), (.ref 25), (.bool true), (.int 181 0), (.ref 26), .none, (.ref 27), (.ref 28), (.ref 29), (.int 209 0), (.int 4 0), (.str (.ofString "/claim/cut.py") 210)].toArray), [].toArray⟩) ::
  (nat_lit 31, ⟨(.type "function"), none, (kfd (kmt 1 0) (.ofString "__init__") (.ofString "SnobolError.__init__") 3 [((.ofString "__class__"), 18)] (.ref 23) .none .none (.str (.ofString "snobol.values") 187) none (.ref 30) (.ref 24) 0), [].toArray⟩) ::
  (nat_lit 32, ⟨(.type "tuple"), none, (.seq [(.str (.ofString "number") 212), (.str (.ofString "told") 213)].toArray 0), [].toArray⟩) ::
  (nat_lit 33, ⟨(.type "dict"), none, (.dict [kde P "__module__" 196 (.str (.ofString "snobol.values") 187), kde P "__firstlineno__" 200 (.int 2 199), kde P "__init__" 211 (.ref 31), kde P "__static_attributes__" 214 (.ref 32), kde P "__weakref__" 217 (.ref 35), kde P "__doc__" 218 .none].toArray 4), [].toArray⟩) ::
  (nat_lit 34, ⟨(.type "type"), none, (.cls ⟨(.ofString "SnobolError"), [(.type "Exception")], [(.ref 34), (.type "Exception"), (.type "BaseException"), (.type "object")], 33, (.ofString "SnobolError"), true, [], [], false, none, false⟩), [(some (.ref 15)), none, (some (.str (.ofString "SnobolError") 189)), (some (.str (.ofString "SnobolError") 197)), (some (.builtin "Exception.__new__")), (some (.bool true))].toArray⟩) ::
  (nat_lit 35, ⟨(.type "getset_descriptor"), none, (.fields [(.str (.ofString "__weakref__") 216), (.ref 34), (.builtin "ExceptionGroup.__weakref__"), .none].toArray), [].toArray⟩) ::
  (nat_lit 45, ⟨(.type "tuple"), none, (.seq [].toArray 0), [].toArray⟩) ::
  (nat_lit 46, ⟨(.type "dict"), none, (.dict [kde P "__module__" 230 (.str (.ofString "snobol.values") 187), kde P "__firstlineno__" 234 (.int 8 233), kde P "__static_attributes__" 235 (.ref 45), kde P "__dict__" 237 (.ref 48), kde P "__weakref__" 239 (.ref 49), kde P "__doc__" 240 .none].toArray 4), [].toArray⟩) ::
  (nat_lit 47, ⟨(.type "type"), none, (.cls ⟨(.ofString "Failure"), [(.type "object")], [(.ref 47), (.type "object")], 46, (.ofString "Failure"), true, [], [], false, none, false⟩), [none, none, (some (.str (.ofString "Failure") 223)), (some (.str (.ofString "Failure") 231)), (some (.builtin "object.__new__")), (some (.bool true))].toArray⟩) ::
  (nat_lit 48, ⟨(.type "getset_descriptor"), none, (.fields [(.str (.ofString "__dict__") 236), (.ref 47), (.builtin "function.__dict__"), (.builtin "function.__dict__#set")].toArray), [].toArray⟩) ::
  (nat_lit 49, ⟨(.type "getset_descriptor"), none, (.fields [(.str (.ofString "__weakref__") 238), (.ref 47), (.builtin "ExceptionGroup.__weakref__"), .none].toArray), [].toArray⟩) ::
  (nat_lit 59, ⟨(.type "tuple"), none, (.seq [].toArray 0), [].toArray⟩) ::
  (nat_lit 61, ⟨(.type "tuple"), none, (.seq [(.str (.ofString "self") 258), (.str (.ofString "node") 259)].toArray 0), [].toArray⟩) ::
  (nat_lit 62, ⟨(.type "tuple"), none, (.seq [].toArray 0), [].toArray⟩) ::
  (nat_lit 64, ⟨(.type "code"), none, (.fields [(.str (.ofString "__init__") 255), (.str (.ofString "Pattern.__init__") 256), (.str (.ofString "/claim/cut.py") 257), (.int 12 0), (.int 2 0), (.int 0 0), (.int 0 0), (.int 3 0), (.ref 59), (.bool true), (.int 181 0), (.ref 60), .none, (.ref 61), (.ref 62), (.ref 63), (.int 260 0), (.int 12 0), (.str (.ofString "/claim/cut.py") 261)].toArray), [].toArray⟩) ::
  (nat_lit 65, ⟨(.type "function"), none, (kfd (kmt 3 0) (.ofString "__init__") (.ofString "Pattern.__init__") 3 [] .none .none .none (.str (.ofString "snobol.values") 187) none (.ref 64) .none 0), [].toArray⟩) ::
  (nat_lit 66, ⟨(.type "tuple"), none, (.seq [(.str (.ofString "node") 263)].toArray 0), [].toArray⟩) ::
  (nat_lit 67, ⟨(.type "dict"), none, (.dict [kde P "__module__" 250 (.str (.ofString "snobol.values") 187), kde P "__firstlineno__" 254 (.int 10 253), kde P "__init__" 262 (.ref 65), kde P "__static_attributes__" 264 (.ref 66), kde P "__dict__" 266 (.ref 69), kde P "__weakref__" 268 (.ref 70), kde P "__doc__" 269 .none].toArray 4), [].toArray⟩) ::
  (nat_lit 68, ⟨(.type "type"), none, (.cls ⟨(.ofString "Pattern"), [(.type "object")], [(.ref 68), (.type "object")], 67, (.ofString "Pattern"), true, [], [], false, none, false⟩), [none, none, (some (.str (.ofString "Pattern") 243)), (some (.str (.ofString "Pattern") 251)), (some (.builtin "object.__new__")), (some (.bool true))].toArray⟩) ::
  (nat_lit 69, ⟨(.type "getset_descriptor"), none, (.fields [(.str (.ofString "__dict__") 265), (.ref 68), (.builtin "function.__dict__"), (.builtin "function.__dict__#set")].toArray), [].toArray⟩) ::
  (nat_lit 70, ⟨(.type "getset_descriptor"), none, (.fields [(.str (.ofString "__weakref__") 267), (.ref 68), (.builtin "ExceptionGroup.__weakref__"), .none].toArray), [].toArray⟩) ::
  (nat_lit 73, ⟨(.type "tuple"), none, (.seq [].toArray 0), [].toArray⟩) ::
  (nat_lit 75, ⟨(.type "tuple"), none, (.seq [(.str (.ofString "value") 275)].toArray 0), [].toArray⟩) ::
  (nat_lit 76, ⟨(.type "tuple"), none, (.seq [].toArray 0), [].toArray⟩) ::
  (nat_lit 78, ⟨(.type "code"), none, (.fields [(.str (.ofString "is_fail") 272), (.str (.ofString "is_fail") 273), (.str (.ofString "/claim/cut.py") 274), (.int 14 0), (.int 1 0), (.int 0 0), (.int 0 0), (.int 3 0), (.ref 73), (.bool true), (.int 181 0), (.ref 74), .none, (.ref 75), (.ref 76), (.ref 77), (.int 276 0), (.int 14 0), (.str (.ofString "/claim/cut.py") 277)].toArray), [].toArray⟩) ::
  (nat_lit 79, ⟨(.type "function"), none, (kfd (kst 4) (.ofString "is_fail") (.ofString "is_fail") 3 [] .none .none .none (.str (.ofString "snobol.values") 187) none (.ref 78) .none 0), [].toArray⟩) ::
  (nat_lit 80, ⟨(.type "tuple"), none, (.seq [].toArray 0), [].toArray⟩) ::
  (nat_lit 82, ⟨(.type "tuple"), none, (.seq [(.str (.ofString "number") 282), (.str (.ofString "width") 283)].toArray 0), [].toArray⟩) ::
  (nat_lit 83, ⟨(.type "tuple"), none, (.seq [].toArray 0), [].toArray⟩) ::
  (nat_lit 85, ⟨(.type "code"), none, (.fields [(.str (.ofString "fits") 279), (.str (.ofString "fits") 280), (.str (.ofString "/claim/cut.py") 281), (.int 16 0), (.int 2 0), (.int 0 0), (.int 0 0), (.int 3 0), (.ref 80), (.bool true), (.int 181 0), (.ref 81), .none, (.ref 82), (.ref 83), (.ref 84), (.int 284 0), (.int 16 0), (.str (.ofString "/claim/cut.py") 285)].toArray), [].toArray⟩) ::
  (nat_lit 86, ⟨(.type "function"), none, (kfd (kst 5) (.ofString "fits") (.ofString "fits") 3 [] .none .none .none (.str (.ofString "snobol.values") 187) none (.ref 85) .none 0), [].toArray⟩) ::
  (nat_lit 87, ⟨(.type "tuple"), none, (.seq [].toArray 0), [].toArray⟩) ::
  (nat_lit 89, ⟨(.type "tuple"), none, (.seq [(.str (.ofString "text") 290), (.str (.ofString "width") 291), (.str (.ofString "digits") 292), (.str (.ofString "number") 293), (.str (.ofString "sign") 294)].toArray 0), [].toArray⟩) ::
  (nat_lit 90, ⟨(.type "tuple"), none, (.seq [].toArray 0), [].toArray⟩) ::
  (nat_lit 92, ⟨(.type "code"), none, (.fields [(.str (.ofString "whole_of_text") 287), (.str (.ofString "whole_of_text") 288), (.str (.ofString "/claim/cut.py") 289), (.int 18 0), (.int 2 0), (.int 0 0), (.int 0 0), (.int 3 0), (.ref 87), (.bool true), (.int 181 0), (.ref 88), .none, (.ref 89), (.ref 90), (.ref 91), (.int 295 0), (.int 18 0), (.str (.ofString "/claim/cut.py") 296)].toArray), [].toArray⟩) ::
  (nat_lit 93, ⟨(.type "function"), none, (kfd (kst 6) (.ofString "whole_of_text") (.ofString "whole_of_text") 3 [] .none .none .none (.str (.ofString "snobol.values") 187) none (.ref 92) .none 0), [].toArray⟩) ::
  (nat_lit 94, ⟨(.type "tuple"), none, (.seq [].toArray 0), [].toArray⟩) ::
  (nat_lit 96, ⟨(.type "tuple"), none, (.seq [(.str (.ofString "number") 301), (.str (.ofString "left") 302), (.str (.ofString "found") 303)].toArray 0), [].toArray⟩) ::
  (nat_lit 97, ⟨(.type "tuple"), none, (.seq [].toArray 0), [].toArray⟩) ::
  (nat_lit 99, ⟨(.type "code"), none, (.fields [(.str (.ofString "text_of_whole") 298), (.str (.ofString "text_of_whole") 299), (.str (.ofString "/claim/cut.py") 300), (.int 31 0), (.int 1 0), (.int 0 0), (.int 0 0), (.int 3 0), (.ref 94), (.bool true), (.int 181 0), (.ref 95), .none, (.ref 96), (.ref 97), (.ref 98), (.int 304 0), (.int 31 0), (.str (.ofString "/claim/cut.py") 305)].toArray), [].toArray⟩) ::
  (nat_lit 100, ⟨(.type "function"), none, (kfd (kst 7) (.ofString "text_of_whole") (.ofString "text_of_whole") 3 [] .none .none .none (.str (.ofString "snobol.values") 187) none (.ref 99) .none 0), [].toArray⟩) ::
  (nat_lit 101, ⟨(.type "tuple"), none, (.seq [].toArray 0), [].toArray⟩) ::
  (nat_lit 103, ⟨(.type "tuple"), none, (.seq [(.str (.ofString "value") 310), (.str (.ofString "width") 311)].toArray 0), [].toArray⟩) ::
  (nat_lit 104, ⟨(.type "tuple"), none, (.seq [].toArray 0), [].toArray⟩) ::
  (nat_lit 106, ⟨(.type "code"), none, (.fields [(.str (.ofString "to_whole") 307), (.str (.ofString "to_whole") 308), (.str (.ofString "/claim/cut.py") 309), (.int 37 0), (.int 2 0), (.int 0 0), (.int 0 0), (.int 3 0), (.ref 101), (.bool true), (.int 181 0), (.ref 102), .none, (.ref 103), (.ref 104), (.ref 105), (.int 312 0), (.int 37 0), (.str (.ofString "/claim/cut.py") 313)].toArray), [].toArray⟩) ::
  (nat_lit 107, ⟨(.type "function"), none, (kfd (kst 8) (.ofString "to_whole") (.ofString "to_whole") 3 [] .none .none .none (.str (.ofString "snobol.values") 187) none (.ref 106) .none 0), [].toArray⟩) ::
  (nat_lit 108, ⟨(.type "tuple"), none, (.seq [].toArray 0), [].toArray⟩) ::
  (nat_lit 110, ⟨(.type "tuple"), none, (.seq [(.str (.ofString "value") 318)].toArray 0), [].toArray⟩) ::
  (nat_lit 111, ⟨(.type "tuple"), none, (.seq [].toArray 0), [].toArray⟩) ::
  (nat_lit 113, ⟨(.type "code"), none, (.fields [(.str (.ofString "to_text") 315), (.str (.ofString "to_text") 316), (.str (.ofString "/claim/cut.py") 317), (.int 41 0), (.int 1 0), (.int 0 0), (.int 0 0), (.int 3 0), (.ref 108), (.bool true), (.int 181 0), (.ref 109), .none, (.ref 110), (.ref 111), (.ref 112), (.int 319 0), (.int 41 0), (.str (.ofString "/claim/cut.py") 320)].toArray), [].toArray⟩) ::
  (nat_lit 114, ⟨(.type "function"), none, (kfd (kst 9) (.ofString "to_text") (.ofString "to_text") 3 [] .none .none .none (.str (.ofString "snobol.values") 187) none (.ref 113) .none 0), [].toArray⟩) ::
  (nat_lit 115, ⟨(.type "tuple"), none, (.seq [].toArray 0), [].toArray⟩) ::
  (nat_lit 117, ⟨(.type "tuple"), none, (.seq [(.str (.ofString "value") 325), (.str (.ofString "width") 326), (.str (.ofString "number") 327)].toArray 0), [].toArray⟩) ::
  (nat_lit 118, ⟨(.type "tuple"), none, (.seq [].toArray 0), [].toArray⟩) ::
  (nat_lit 120, ⟨(.type "code"), none, (.fields [(.str (.ofString "need_whole") 322), (.str (.ofString "need_whole") 323), (.str (.ofString "/claim/cut.py") 324), (.int 45 0), (.int 2 0), (.int 0 0), (.int 0 0), (.int 3 0), (.ref 115), (.bool true), (.int 181 0), (.ref 116), .none, (.ref 117), (.ref 118), (.ref 119), (.int 328 0), (.int 45 0), (.str (.ofString "/claim/cut.py") 329)].toArray), [].toArray⟩) ::
  (nat_lit 121, ⟨(.type "function"), none, (kfd (kst 10) (.ofString "need_whole") (.ofString "need_whole") 3 [] .none .none .none (.str (.ofString "snobol.values") 187) none (.ref 120) .none 0), [].toArray⟩) ::
  (nat_lit 122, ⟨(.type "tuple"), none, (.seq [].toArray 0), [].toArray⟩) ::
  (nat_lit 124, ⟨(.type "tuple"), none, (.seq [(.str (.ofString "value") 334), (.str (.ofString "text") 335)].toArray 0), [].toArray⟩) ::
  (nat_lit 125, ⟨(.type "tuple"), none, (.seq [].toArray 0), [].toArray⟩) ::
  (nat_lit 127, ⟨(.type "code"), none, (.fields [(.str (.ofString "need_text") 331), (.str (.ofString "need_text") 332), (.str (.ofString "/claim/cut.py") 333), (.int 50 0), (.int 1 0), (.int 0 0), (.int 0 0), (.int 3 0), (.ref 122), (.bool true), (.int 181 0), (.ref 123), .none, (.ref 124), (.ref 125), (.ref 126), (.int 336 0), (.int 50 0), (.str (.ofString "/claim/cut.py") 337)].toArray), [].toArray⟩) ::
  (nat_lit 128, ⟨(.type "function"), none, (kfd (kst 11) (.ofString "need_text") (.ofString "need_text") 3 [] .none .none .none (.str (.ofString "snobol.values") 187) none (.ref 127) .none 0), [].toArray⟩) ::
  (nat_lit 129, ⟨(.type "tuple"), none, (.seq [].toArray 0), [].toArray⟩) ::
  (nat_lit 131, ⟨(.type "tuple"), none, (.seq [(.str (.ofString "value") 342), (.str (.ofString "width") 343), (.str (.ofString "number") 344)].toArray 0), [].toArray⟩) ::
  (nat_lit 132, ⟨(.type "tuple"), none, (.seq [].toArray 0), [].toArray⟩) ::
  (nat_lit 134, ⟨(.type "code"), none, (.fields [(.str (.ofString "need_size") 339), (.str (.ofString "need_size") 340), (.str (.ofString "/claim/cut.py") 341), (.int 55 0), (.int 2 0), (.int 0 0), (.int 0 0), (.int 3 0), (.ref 129), (.bool true), (.int 181 0), (.ref 130), .none, (.ref 131), (.ref 132), (.ref 133), (.int 345 0), (.int 55 0), (.str (.ofString "/claim/cut.py") 346)].toArray), [].toArray⟩) ::
  (nat_lit 135, ⟨(.type "function"), none, (kfd (kst 12) (.ofString "need_size") (.ofString "need_size") 3 [] .none .none .none (.str (.ofString "snobol.values") 187) none (.ref 134) .none 0), [].toArray⟩) ::
  (nat_lit 136, ⟨(.type "tuple"), none, (.seq [].toArray 0), [].toArray⟩) ::
  (nat_lit 139, ⟨(.type "code"), none, (.fields [(.str (.ofString "replaced_signs") 350), (.str (.ofString "replaced_signs") 351), (.str (.ofString "/claim/cut.py") 352), (.int 61 0), (.int 3 0), (.int 0 0), (.int 0 0), (.int 3 0), (.ref 136), (.bool true), (.int 181 0), (.ref 137), .none, .none, .none, (.ref 138), (.int 353 0), (.int 61 0), (.str (.ofString "/claim/cut.py") 354)].toArray), [].toArray⟩) ::
  (nat_lit 140, ⟨(.type "function"), none, (kfd (kst 14) (.ofString "replaced_signs") (.ofString "replaced_signs") 3 [] .none .none .none (.str (.ofString "snobol.strings") 348) none (.ref 139) .none 0), [].toArray⟩) ::
  (nat_lit 141, ⟨(.type "tuple"), none, (.seq [].toArray 0), [].toArray⟩) ::
  (nat_lit 143, ⟨(.type "tuple"), none, (.seq [(.str (.ofString "text") 359), (.str (.ofString "many") 360), (.str (.ofString "fill") 361), (.str (.ofString "is_left") 362), (.str (.ofString "more") 363)].toArray 0), [].toArray⟩) ::
  (nat_lit 144, ⟨(.type "tuple"), none, (.seq [].toArray 0), [].toArray⟩) ::
  (nat_lit 146, ⟨(.type "code"), none, (.fields [(.str (.ofString "padded") 356), (.str (.ofString "padded") 357), (.str (.ofString "/claim/cut.py") 358), (.int 68 0), (.int 4 0), (.int 0 0), (.int 0 0), (.int 3 0), (.ref 141), (.bool true), (.int 181 0), (.ref 142), .none, (.ref 143), (.ref 144), (.ref 145), (.int 364 0), (.int 68 0), (.str (.ofString "/claim/cut.py") 365)].toArray), [].toArray⟩) ::
  (nat_lit 147, ⟨(.type "function"), none, (kfd (kst 15) (.ofString "padded") (.ofString "padded") 3 [] .none .none .none (.str (.ofString "snobol.strings") 348) none (.ref 146) .none 0), [].toArray⟩) ::
  (nat_lit 148, ⟨(.type "tuple"), none, (.seq [].toArray 0), [].toArray⟩) ::
  (nat_lit 150, ⟨(.type "tuple"), none, (.seq [(.str (.ofString "text") 370), (.str (.ofString "begin") 371), (.str (.ofString "many") 372)].toArray 0), [].toArray⟩) ::
  (nat_lit 151, ⟨(.type "tuple"), none, (.seq [].toArray 0), [].toArray⟩) ::
  (nat_lit 153, ⟨(.type "code"), none, (.fields [(.str (.ofString "part_of") 367), (.str (.ofString "part_of") 368), (.str (.ofString "/claim/cut.py") 369), (.int 71 0), (.int 3 0), (.int 0 0), (.int 0 0), (.int 3 0), (.ref 148), (.bool true), (.int 181 0), (.ref 149), .none, (.ref 150), (.ref 151), (.ref 152), (.int 373 0), (.int 71 0), (.str (.ofString "/claim/cut.py") 374)].toArray), [].toArray⟩) ::
  (nat_lit 154, ⟨(.type "function"), none, (kfd (kst 16) (.ofString "part_of") (.ofString "part_of") 3 [] .none .none .none (.str (.ofString "snobol.strings") 348) none (.ref 153) .none 0), [].toArray⟩) ::
  (nat_lit 155, ⟨(.type "tuple"), none, (.seq [].toArray 0), [].toArray⟩) ::
  (nat_lit 157, ⟨(.type "tuple"), none, (.seq [(.str (.ofString "value") 379)].toArray 0), [].toArray⟩) ::
  (nat_lit 158, ⟨(.type "tuple"), none, (.seq [].toArray 0), [].toArray⟩) ::
  (nat_lit 160, ⟨(.type "code"), none, (.fields [(.str (.ofString "told_or_fail") 376), (.str (.ofString "told_or_fail") 377), (.str (.ofString "/claim/cut.py") 378), (.int 77 0), (.int 1 0), (.int 0 0), (.int 0 0), (.int 3 0), (.ref 155), (.bool true), (.int 181 0), (.ref 156), .none, (.ref 157), (.ref 158), (.ref 159), (.int 380 0), (.int 77 0), (.str (.ofString "/claim/cut.py") 381)].toArray), [].toArray⟩) ::
  (nat_lit 161, ⟨(.type "function"), none, (kfd (kst 17) (.ofString "told_or_fail") (.ofString "told_or_fail") 3 [] .none .none .none (.str (.ofString "snobol.strings") 348) none (.ref 160) .none 0), [].toArray⟩) ::
  (nat_lit 162, ⟨(.type "tuple"), none, (.seq [].toArray 0), [].toArray⟩) ::
  (nat_lit 164, ⟨(.type "tuple"), none, (.seq [(.str (.ofString "world") 386), (.str (.ofString "args") 387), (.str (.ofString "text") 388), (.str (.ofString "olds") 389)].toArray 0), [].toArray⟩) ::
  (nat_lit 165, ⟨(.type "tuple"), none, (.seq [].toArray 0), [].toArray⟩) ::
  (nat_lit 167, ⟨(.type "code"), none, (.fields [(.str (.ofString "text_replace") 383), (.str (.ofString "text_replace") 384), (.str (.ofString "/claim/cut.py") 385), (.int 79 0), (.int 2 0), (.int 0 0), (.int 0 0), (.int 3 0), (.ref 162), (.bool true), (.int 181 0), (.ref 163), .none, (.ref 164), (.ref 165), (.ref 166), (.int 390 0), (.int 79 0), (.str (.ofString "/claim/cut.py") 391)].toArray), [].toArray⟩) ::
  (nat_lit 168, ⟨(.type "function"), none, (kfd (kst 18) (.ofString "text_replace") (.ofString "text_replace") 3 [] .none .none .none (.str (.ofString "snobol.strings") 348) none (.ref 167) .none 0), [].toArray⟩) ::
  (nat_lit 169, ⟨(.type "tuple"), none, (.seq [].toArray 0), [].toArray⟩) ::
  (nat_lit 171, ⟨(.type "tuple"), none, (.seq [(.str (.ofString "world") 396), (.str (.ofString "args") 397), (.str (.ofString "text") 398), (.str (.ofString "many") 399)].toArray 0), [].toArray⟩) ::
  (nat_lit 172, ⟨(.type "tuple"), none, (.seq [].toArray 0), [].toArray⟩) ::
  (nat_lit 174, ⟨(.type "code"), none, (.fields [(.str (.ofString "text_dupl") 393), (.str (.ofString "text_dupl") 394), (.str (.ofString "/claim/cut.py") 395), (.int 82 0), (.int 2 0), (.int 0 0), (.int 0 0), (.int 3 0), (.ref 169), (.bool true), (.int 181 0), (.ref 170), .none, (.ref 171), (.ref 172), (.ref 173), (.int 400 0), (.int 82 0), (.str (.ofString "/claim/cut.py") 401)].toArray), [].toArray⟩) ::
  (nat_lit 175, ⟨(.type "function"), none, (kfd (kst 19) (.ofString "text_dupl") (.ofString "text_dupl") 3 [] .none .none .none (.str (.ofString "snobol.strings") 348) none (.ref 174) .none 0), [].toArray⟩) ::
  (nat_lit 176, ⟨(.type "tuple"), none, (.seq [].toArray 0), [].toArray⟩) ::
  (nat_lit 178, ⟨(.type "tuple"), none, (.seq [(.str (.ofString "world") 406), (.str (.ofString "args") 407)].toArray 0), [].toArray⟩) ::
  (nat_lit 179, ⟨(.type "tuple"), none, (.seq [].toArray 0), [].toArray⟩) ::
  (nat_lit 181, ⟨(.type "code"), none, (.fields [(.str (.ofString "text_reverse") 403), (.str (.ofString "text_reverse") 404), (.str (.ofString "/claim/cut.py") 405), (.int 89 0), (.int 2 0), (.int 0 0), (.int 0 0), (.int 3 0), (.ref 176), (.bool true), (.int 181 0), (.ref 177), .none, (.ref 178), (.ref 179), (.ref 180), (.int 408 0), (.int 89 0), (.str (.ofString "/claim/cut.py") 409)].toArray), [].toArray⟩) ::
  (nat_lit 182, ⟨(.type "function"), none, (kfd (kst 20) (.ofString "text_reverse") (.ofString "text_reverse") 3 [] .none .none .none (.str (.ofString "snobol.strings") 348) none (.ref 181) .none 0), [].toArray⟩) ::
  (nat_lit 183, ⟨(.type "tuple"), none, (.seq [].toArray 0), [].toArray⟩) ::
  (nat_lit 185, ⟨(.type "tuple"), none, (.seq [(.str (.ofString "world") 414), (.str (.ofString "args") 415)].toArray 0), [].toArray⟩) ::
  (nat_lit 186, ⟨(.type "tuple"), none, (.seq [].toArray 0), [].toArray⟩) ::
  (nat_lit 188, ⟨(.type "code"), none, (.fields [(.str (.ofString "text_lpad") 411), (.str (.ofString "text_lpad") 412), (.str (.ofString "/claim/cut.py") 413), (.int 91 0), (.int 2 0), (.int 0 0), (.int 0 0), (.int 3 0), (.ref 183), (.bool true), (.int 181 0), (.ref 184), .none, (.ref 185), (.ref 186), (.ref 187), (.int 416 0), (.int 91 0), (.str (.ofString "/claim/cut.py") 417)].toArray), [].toArray⟩) ::
  (nat_lit 189, ⟨(.type "function"), none, (kfd (kst 21) (.ofString "text_lpad") (.ofString "text_lpad") 3 [] .none .none .none (.str (.ofString "snobol.strings") 348) none (.ref 188) .none 0), [].toArray⟩) ::
  (nat_lit 190, ⟨(.type "tuple"), none, (.seq [].toArray 0), [].toArray⟩) ::
  (nat_lit 192, ⟨(.type "tuple"), none, (.seq [(.str (.ofString "world") 422), (.str (.ofString "args") 423), (.str (.ofString "is_left") 424), (.str (.ofString "text") 425), (.str (.ofString "many") 426)].toArray 0), [].toArray⟩) ::
  (nat_lit 193, ⟨(.type "tuple"), none, (.seq [].toArray 0), [].toArray⟩) ::
  (nat_lit 195, ⟨(.type "code"), none, (.fields [(.str (.ofString "pad_text") 419), (.str (.ofString "pad_text") 420), (.str (.ofString "/claim/cut.py") 421), (.int 93 0), (.int 3 0), (.int 0 0), (.int 0 0), (.int 3 0), (.ref 190), (.bool true), (.int 181 0), (.ref 191), .none, (.ref 192), (.ref 193), (.ref 194), (.int 427 0), (.int 93 0), (.str (.ofString "/claim/cut.py") 428)].toArray), [].toArray⟩) ::
  (nat_lit 196, ⟨(.type "function"), none, (kfd (kst 22) (.ofString "pad_text") (.ofString "pad_text") 3 [] .none .none .none (.str (.ofString "snobol.strings") 348) none (.ref 195) .none 0), [].toArray⟩) ::
  (nat_lit 197, ⟨(.type "tuple"), none, (.seq [].toArray 0), [].toArray⟩) ::
  (nat_lit 199, ⟨(.type "tuple"), none, (.seq [(.str (.ofString "world") 433), (.str (.ofString "args") 434), (.str (.ofString "text") 435), (.str (.ofString "begin") 436)].toArray 0), [].toArray⟩) ::
  (nat_lit 200, ⟨(.type "tuple"), none, (.seq [].toArray 0), [].toArray⟩) ::
  (nat_lit 202, ⟨(.type "code"), none, (.fields [(.str (.ofString "text_substr") 430), (.str (.ofString "text_substr") 431), (.str (.ofString "/claim/cut.py") 432), (.int 98 0), (.int 2 0), (.int 0 0), (.int 0 0), (.int 3 0), (.ref 197), (.bool true), (.int 181 0), (.ref 198), .none, (.ref 199), (.ref 200), (.ref 201), (.int 437 0), (.int 98 0), (.str (.ofString "/claim/cut.py") 438)].toArray), [].toArray⟩) ::
  (nat_lit 203, ⟨(.type "function"), none, (kfd (kst 23) (.ofString "text_substr") (.ofString "text_substr") 3 [] .none .none .none (.str (.ofString "snobol.strings") 348) none (.ref 202) .none 0), [].toArray⟩) ::
  (nat_lit 211, ⟨(.type "tuple"), none, (.seq [(.int 32 454), (.int 5000 455), (.int 30 456), (.int 5000 457)].toArray 0), [].toArray⟩) ::
  (nat_lit 212, ⟨(.type "tuple"), none, (.seq [].toArray 0), [].toArray⟩) ::
  (nat_lit 214, ⟨(.type "tuple"), none, (.seq [(.str (.ofString "self") 461), (.str (.ofString "width") 462), (.str (.ofString "most_steps") 463), (.str (.ofString "most_depth") 464), (.str (.ofString "most_length") 465)].toArray 0), [].toArray⟩) ::
  (nat_lit 215, ⟨(.type "tuple"), none, (.seq [].toArray 0), [].toArray⟩) ::
  (nat_lit 217, ⟨(.type "code"), none, (.fields [(.str (.ofString "__init__") 458), (.str (.ofString "World.__init__") 459), (.str (.ofString "/claim/cut.py") 460), (.int 104 0), (.int 5 0), (.int 0 0), (.int 0 0), (.int 3 0), (.ref 212), (.bool true), (.int 181 0), (.ref 213), .none, (.ref 214), (.ref 215), (.ref 216), (.int 466 0), (.int 104 0), (.str (.ofString "/claim/cut.py") 467)].toArray), [].toArray⟩) ::
  (nat_lit 218, ⟨(.type "function"), none, (kfd (kmt 25 0) (.ofString "__init__") (.ofString "World.__init__") 3 [] (.ref 211) .none .none (.str (.ofString "snobol.world") 440) none (.ref 217) .none 0), [].toArray⟩) ::
  (nat_lit 219, ⟨(.type "tuple"), none, (.seq [(.str (.ofString "aside") 469), (.str (.ofString "depth") 470), (.str (.ofString "evaluate") 471), (.str (.ofString "functions") 472), (.str (.ofString "holders") 473), (.str (.ofString "inputs") 474), (.str (.ofString "kept_names") 475), (.str (.ofString "keywords") 476), (.str (.ofString "labels") 477), (.str (.ofString "made") 478), (.str (.ofString "make_code") 479), (.str (.ofString "matcher") 480), (.str (.ofString "most_depth") 481), (.str (.ofString "most_items") 482), (.str (.ofString "most_length") 483), (.str (.ofString "most_steps") 484), (.str (.ofString "nested") 485), (.str (.ofString "opsyns") 486), (.str (.ofString "outputs") 487), (.str (.ofString "read_names") 488), (.str (.ofString "steps") 489), (.str (.ofString "store") 490), (.str (.ofString "traced") 491), (.str (.ofString "traces") 492), (.str (.ofString "width") 493), (.str (.ofString "write_names") 494)].toArray 0), [].toArray⟩) ::
  (nat_lit 220, ⟨(.type "dict"), none, (.dict [kde P "__module__" 449 (.str (.ofString "snobol.world") 440), kde P "__firstlineno__" 453 (.int 102 452), kde P "__init__" 468 (.ref 218), kde P "__static_attributes__" 495 (.ref 219), kde P "__dict__" 497 (.ref 222), kde P "__weakref__" 499 (.ref 223), kde P "__doc__" 500 .none].toArray 4), [].toArray⟩) ::
  (nat_lit 221, ⟨(.type "type"), none, (.cls ⟨(.ofString "World"), [(.type "object")], [(.ref 221), (.type "object")], 220, (.ofString "World"), true, [], [], false, none, false⟩), [none, none, (some (.str (.ofString "World") 442)), (some (.str (.ofString "World") 450)), (some (.builtin "object.__new__")), (some (.bool true))].toArray⟩) ::
  (nat_lit 222, ⟨(.type "getset_descriptor"), none, (.fields [(.str (.ofString "__dict__") 496), (.ref 221), (.builtin "function.__dict__"), (.builtin "function.__dict__#set")].toArray), [].toArray⟩) ::
  (nat_lit 223, ⟨(.type "getset_descriptor"), none, (.fields [(.str (.ofString "__weakref__") 498), (.ref 221), (.builtin "ExceptionGroup.__weakref__"), .none].toArray), [].toArray⟩) ::
  (nat_lit 226, ⟨(.type "tuple"), none, (.seq [].toArray 0), [].toArray⟩) ::
  (nat_lit 228, ⟨(.type "tuple"), none, (.seq [(.str (.ofString "well") 510), (.str (.ofString "many") 511), (.str (.ofString "cells") 512), (.str (.ofString "turn") 513)].toArray 0), [].toArray⟩) ::
  (nat_lit 229, ⟨(.type "tuple"), none, (.seq [].toArray 0), [].toArray⟩) ::
  (nat_lit 231, ⟨(.type "code"), none, (.fields [(.str (.ofString "_law_dipped") 507), (.str (.ofString "_law_dipped") 508), (.str (.ofString "/claim/cut.py") 509), (.int 133 0), (.int 2 0), (.int 0 0), (.int 0 0), (.int 3 0), (.ref 226), (.bool true), (.int 181 0), (.ref 227), .none, (.ref 228), (.ref 229), (.ref 230), (.int 514 0), (.int 133 0), (.str (.ofString "/claim/cut.py") 515)].toArray), [].toArray⟩) ::
  (nat_lit 232, ⟨(.type "function"), none, (kfd (kst 28) (.ofString "_law_dipped") (.ofString "_law_dipped") 3 [] .none .none .none (.str (.ofString "law_sa0591_01") 503) none (.ref 231) .none 0), [].toArray⟩) ::
  (nat_lit 233, ⟨(.type "tuple"), none, (.seq [].toArray 0), [].toArray⟩) ::
  (nat_lit 235, ⟨(.type "tuple"), none, (.seq [(.str (.ofString "text") 520)].toArray 0), [].toArray⟩) ::
  (nat_lit 236, ⟨(.type "tuple"), none, (.seq [].toArray 0), [].toArray⟩) ::
  (nat_lit 238, ⟨(.type "code"), none, (.fields [(.str (.ofString "_law_value") 517), (.str (.ofString "_law_value") 518), (.str (.ofString "/claim/cut.py") 519), (.int 137 0), (.int 1 0), (.int 0 0), (.int 0 0), (.int 3 0), (.ref 233), (.bool true), (.int 181 0), (.ref 234), .none, (.ref 235), (.ref 236), (.ref 237), (.int 521 0), (.int 137 0), (.str (.ofString "/claim/cut.py") 522)].toArray), [].toArray⟩) ::
  (nat_lit 239, ⟨(.type "function"), none, (kfd (kst 29) (.ofString "_law_value") (.ofString "_law_value") 3 [] .none .none .none (.str (.ofString "law_sa0591_01") 503) none (.ref 238) .none 0), [].toArray⟩) ::
  (nat_lit 240, ⟨(.type "tuple"), none, (.seq [].toArray 0), [].toArray⟩) ::
  (nat_lit 242, ⟨(.type "tuple"), none, (.seq [(.str (.ofString "world") 527), (.str (.ofString "text") 528), (.str (.ofString "olds") 529), (.str (.ofString "news") 530)].toArray 0), [].toArray⟩) ::
  (nat_lit 243, ⟨(.type "tuple"), none, (.seq [].toArray 0), [].toArray⟩) ::
  (nat_lit 245, ⟨(.type "code"), none, (.fields [(.str (.ofString "_law_by") 524), (.str (.ofString "_law_by") 525), (.str (.ofString "/claim/cut.py") 526), (.int 139 0), (.int 4 0), (.int 0 0), (.int 0 0), (.int 3 0), (.ref 240), (.bool true), (.int 181 0), (.ref 241), .none, (.ref 242), (.ref 243), (.ref 244), (.int 531 0), (.int 139 0), (.str (.ofString "/claim/cut.py") 532)].toArray), [].toArray⟩) ::
  (nat_lit 246, ⟨(.type "function"), none, (kfd (kst 30) (.ofString "_law_by") (.ofString "_law_by") 3 [] .none .none .none (.str (.ofString "law_sa0591_01") 503) none (.ref 245) .none 0), [].toArray⟩) ::
  (nat_lit 247, ⟨(.type "tuple"), none, (.seq [].toArray 0), [].toArray⟩) ::
  (nat_lit 250, ⟨(.type "code"), none, (.fields [(.str (.ofString "_law_own") 534), (.str (.ofString "_law_own") 535), (.str (.ofString "/claim/cut.py") 536), (.int 141 0), (.int 3 0), (.int 0 0), (.int 0 0), (.int 3 0), (.ref 247), (.bool true), (.int 181 0), (.ref 248), .none, .none, .none, (.ref 249), (.int 537 0), (.int 141 0), (.str (.ofString "/claim/cut.py") 538)].toArray), [].toArray⟩) ::
  (nat_lit 251, ⟨(.type "function"), none, (kfd (kst 31) (.ofString "_law_own") (.ofString "_law_own") 3 [] .none .none .none (.str (.ofString "law_sa0591_01") 503) none (.ref 250) .none 0), [].toArray⟩) ::
  (nat_lit 252, ⟨(.type "tuple"), none, (.seq [].toArray 0), [].toArray⟩) ::
  (nat_lit 255, ⟨(.type "code"), none, (.fields [(.str (.ofString "_law_rounds") 540), (.str (.ofString "_law_rounds") 541), (.str (.ofString "/claim/cut.py") 542), (.int 143 0), (.int 2 0), (.int 0 0), (.int 0 0), (.int 3 0), (.ref 252), (.bool true), (.int 181 0), (.ref 253), .none, .none, .none, (.ref 254), (.int 543 0), (.int 143 0), (.str (.ofString "/claim/cut.py") 544)].toArray), [].toArray⟩) ::
  (nat_lit 256, ⟨(.type "function"), none, (kfd (kst 32) (.ofString "_law_rounds") (.ofString "_law_rounds") 3 [] .none .none .none (.str (.ofString "law_sa0591_01") 503) none (.ref 255) .none 0), [].toArray⟩) ::
  (nat_lit 257, ⟨(.type "tuple"), none, (.seq [].toArray 0), [].toArray⟩) ::
  (nat_lit 259, ⟨(.type "tuple"), none, (.seq [(.str (.ofString "one") 549), (.str (.ofString "other") 550)].toArray 0), [].toArray⟩) ::
  (nat_lit 260, ⟨(.type "tuple"), none, (.seq [].toArray 0), [].toArray⟩) ::
  (nat_lit 262, ⟨(.type "code"), none, (.fields [(.str (.ofString "_law_same") 546), (.str (.ofString "_law_same") 547), (.str (.ofString "/claim/cut.py") 548), (.int 151 0), (.int 2 0), (.int 0 0), (.int 0 0), (.int 3 0), (.ref 257), (.bool true), (.int 181 0), (.ref 258), .none, (.ref 259), (.ref 260), (.ref 261), (.int 551 0), (.int 151 0), (.str (.ofString "/claim/cut.py") 552)].toArray), [].toArray⟩) ::
  (nat_lit 263, ⟨(.type "function"), none, (kfd (kst 33) (.ofString "_law_same") (.ofString "_law_same") 3 [] .none .none .none (.str (.ofString "law_sa0591_01") 503) none (.ref 262) .none 0), [].toArray⟩) ::
  (nat_lit 264, ⟨(.type "tuple"), none, (.seq [].toArray 0), [].toArray⟩) ::
  (nat_lit 266, ⟨(.type "tuple"), none, (.seq [(.str (.ofString "world") 557), (.str (.ofString "well") 558), (.str (.ofString "text") 559), (.str (.ofString "more") 560), (.str (.ofString "olds") 561), (.str (.ofString "news") 562), (.str (.ofString "here") 563), (.str (.ofString "there") 564), (.str (.ofString "many") 565), (.str (.ofString "begin") 566), (.str (.ofString "part") 567), (.str (.ofString "fill") 568), (.str (.ofString "due") 569)].toArray 0), [].toArray⟩) ::
  (nat_lit 267, ⟨(.type "tuple"), none, (.seq [].toArray 0), [].toArray⟩) ::
  (nat_lit 269, ⟨(.type "code"), none, (.fields [(.str (.ofString "_law_through") 554), (.str (.ofString "_law_through") 555), (.str (.ofString "/claim/cut.py") 556), (.int 153 0), (.int 6 0), (.int 0 0), (.int 0 0), (.int 3 0), (.ref 264), (.bool true), (.int 181 0), (.ref 265), .none, (.ref 266), (.ref 267), (.ref 268), (.int 570 0), (.int 153 0), (.str (.ofString "/claim/cut.py") 571)].toArray), [].toArray⟩) ::
  (nat_lit 270, ⟨(.type "function"), none, (kfd (kst 34) (.ofString "_law_through") (.ofString "_law_through") 3 [] .none .none .none (.str (.ofString "law_sa0591_01") 503) none (.ref 269) .none 0), [].toArray⟩) ::
  (nat_lit 271, ⟨(.type "tuple"), none, (.seq [].toArray 0), [].toArray⟩) ::
  (nat_lit 273, ⟨(.type "tuple"), none, (.seq [(.str (.ofString "world") 576), (.str (.ofString "text") 577), (.str (.ofString "olds") 578), (.str (.ofString "news") 579), (.str (.ofString "one") 580), (.str (.ofString "other") 581), (.str (.ofString "at") 582), (.str (.ofString "args") 583), (.str (.ofString "error") 584)].toArray 0), [].toArray⟩) ::
  (nat_lit 274, ⟨(.type "tuple"), none, (.seq [].toArray 0), [].toArray⟩) ::
  (nat_lit 276, ⟨(.type "code"), none, (.fields [(.str (.ofString "_law_fails") 573), (.str (.ofString "_law_fails") 574), (.str (.ofString "/claim/cut.py") 575), (.int 170 0), (.int 4 0), (.int 0 0), (.int 0 0), (.int 3 0), (.ref 271), (.bool true), (.int 181 0), (.ref 272), .none, (.ref 273), (.ref 274), (.ref 275), (.int 585 0), (.int 170 0), (.str (.ofString "/claim/cut.py") 586)].toArray), [].toArray⟩) ::
  (nat_lit 277, ⟨(.type "function"), none, (kfd (kst 35) (.ofString "_law_fails") (.ofString "_law_fails") 3 [] .none .none .none (.str (.ofString "law_sa0591_01") 503) none (.ref 276) .none 0), [].toArray⟩) ::
  (nat_lit 278, ⟨(.type "tuple"), none, (.seq [].toArray 0), [].toArray⟩) ::
  (nat_lit 281, ⟨(.type "code"), none, (.fields [(.str (.ofString "law") 588), (.str (.ofString "law") 589), (.str (.ofString "/claim/cut.py") 590), (.int 184 0), (.int 1 0), (.int 0 0), (.int 0 0), (.int 3 0), (.ref 278), (.bool true), (.int 181 0), (.ref 279), .none, .none, .none, (.ref 280), (.int 591 0), (.int 184 0), (.str (.ofString "/claim/cut.py") 592)].toArray), [].toArray⟩) ::
  (nat_lit 282, ⟨(.type "function"), none, (kfd (kst 36) (.ofString "law") (.ofString "law") 3 [] .none .none .none (.str (.ofString "law_sa0591_01") 503) none (.ref 281) .none 0), [].toArray⟩) ::
  []
noncomputable def vw : Program := PySem.W.view PySem.Challenge.pw_sa0591_01 [1, 2, 3, 4, 5, 6, 7, 8, 9, 10, 11, 12, 14, 15, 16, 17, 18, 19, 20, 21, 22, 23, 25, 27, 28, 29, 30, 31, 32, 33, 34, 35, 36]
def adA : List Addr := [2, 3, 15, 18, 23, 24, 25, 27, 28, 30, 31, 32, 33, 34, 35, 45, 46, 47, 48, 49, 59, 61, 62, 64, 65, 66, 67, 68, 69, 70, 73, 75, 76, 78, 79, 80, 82, 83, 85, 86, 87, 89, 90, 92, 93, 94, 96, 97, 99, 100, 101, 103, 104, 106, 107, 108, 110, 111, 113, 114, 115, 117, 118, 120, 121, 122, 124, 125, 127, 128, 129, 131, 132, 134, 135, 136, 139, 140, 141, 143, 144, 146, 147, 148, 150, 151]
def adB : List Addr := [153, 154, 155, 157, 158, 160, 161, 162, 164, 165, 167, 168, 169, 171, 172, 174, 175, 176, 178, 179, 181, 182, 183, 185, 186, 188, 189, 190, 192, 193, 195, 196, 197, 199, 200, 202, 203, 211, 212, 214, 215, 217, 218, 219, 220, 221, 222, 223, 226, 228, 229, 231, 232, 233, 235, 236, 238, 239, 240, 242, 243, 245, 246, 247, 250, 251, 252, 255, 256, 257, 259, 260, 262, 263, 264, 266, 267, 269, 270, 271, 273, 274, 276, 277, 278, 281, 282]
theorem ad_is (P : Params) : adA ++ adB = (kf P).map (·.1) := by kernel_rfl
noncomputable abbrev xt (s : Shared) : Bool := xlAt vw [] s && recOk (RowW.records PySem.Challenge.rw_sa0591_01.row.toRowW) s
noncomputable abbrev s0 (w : World) (os : OsState) : Shared := ⟨boot_heap w.params, #[], boot_drawn, boot_toks, os⟩
theorem open_boot : ∀ w : World, (fencedOpening treeTable PySem.Challenge.pw_sa0591_01 w 3768).map (fun s => (s.heap, s.gens, s.drawn, s.toks)) = some (boot_heap w.params, Array.mk [], boot_drawn, boot_toks) :=
  boot_open (by kernel_rfl) (by kernel_rfl) (fun s => by kernel_rfl)
theorem run_seen : ∀ w : World, (fun os => (topFrom treeTable PySem.Challenge.pw_sa0591_01 w 3768 (s0 w os)).map (fun s => openSeen vw [Str.ofString "SnobolError"] (importedModules PySem.Challenge.pw_sa0591_01.main.body) xt true s)) = fun _ => some (openGood vw [Str.ofString "SnobolError"]) := by
  unfold topFrom
  rw [PySem.W.Fast.te14082659384304107361, PySem.W.Fast.te14364793385576792824, PySem.W.Fast.te4187177175401517315, PySem.W.Fast.te5923862056798008813]
  intro w
  kernel_rfl
theorem run_A : ∀ w : World, (fun os => (topFrom treeTable PySem.Challenge.pw_sa0591_01 w 3768 (s0 w os)).map (fun s => adA.map s.heap.get?)) = fun _ => some ((kf w.params).take 86 |>.map fun p => some p.2) := by
  unfold topFrom
  rw [PySem.W.Fast.te14082659384304107361, PySem.W.Fast.te14364793385576792824]
  intro w
  kernel_rfl
theorem run_B : ∀ w : World, (fun os => (topFrom treeTable PySem.Challenge.pw_sa0591_01 w 3768 (s0 w os)).map (fun s => adB.map s.heap.get?)) = fun _ => some ((kf w.params).drop 86 |>.map fun p => some p.2) := by
  unfold topFrom
  rw [PySem.W.Fast.te14082659384304107361, PySem.W.Fast.te14364793385576792824]
  intro w
  kernel_rfl
theorem map_two {σ α β : Type} {x : Option σ} {f : σ → α} {g : σ → β} {a : α} {b : β} (h1 : x.map f = some a) (h2 : x.map g = some b) : x.map (fun s => (f s, g s)) = some (a, b) := by
  obtain ⟨s, rfl, rfl⟩ := Option.map_eq_some_iff.mp h1
  rw [Option.map_some, Option.some.injEq] at h2
  rw [← h2]; rfl
theorem map_app {σ α β : Type} {x : Option σ} {f : σ → α → β} {as bs : List α} {u v : List β} (h1 : x.map (fun s => as.map (f s)) = some u) (h2 : x.map (fun s => bs.map (f s)) = some v) : x.map (fun s => (as ++ bs).map (f s)) = some (u ++ v) := by
  obtain ⟨s, rfl, rfl⟩ := Option.map_eq_some_iff.mp h1
  rw [Option.map_some, Option.some.injEq] at h2
  rw [← h2, Option.map_some, List.map_append]
theorem of_boot {α : Type} {p : Program} {N : Nat} {G : Shared → α} {g : World → α}
    (o : ∀ w : World, (fencedOpening treeTable p w N).map (fun s => (s.heap, s.gens, s.drawn, s.toks)) = some (boot_heap w.params, Array.mk [], boot_drawn, boot_toks))
    (r : ∀ (w : World) (os : OsState), (topFrom treeTable p w N (s0 w os)).map G = some (g w)) (w : World) : (openEnds treeTable p w N).map G = some (g w) := by
  obtain ⟨⟨h, gs, d, k, os⟩, e, e'⟩ := Option.map_eq_some_iff.mp (o w)
  obtain ⟨rfl, rfl, rfl, rfl⟩ : h = boot_heap w.params ∧ gs = Array.mk [] ∧ d = boot_drawn ∧ k = boot_toks := by simpa using e'
  unfold openEnds
  rw [e]
  exact r w os
theorem left_o : LeftO PySem.Challenge.rw_sa0591_01.row.toRowW.prog vw [Str.ofString "SnobolError"] xt (kHook kf (adA ++ adB) ad_is).obs (kHook kf (adA ++ adB) ad_is).val 3768 := by
  refine of_boot open_boot fun w os => map_two (congrFun (run_seen w) os) ?_
  have h := map_app (congrFun (run_A w) os) (congrFun (run_B w) os)
  rw [← List.map_append, List.take_append_drop] at h
  exact h
theorem law_said : PySem.Challenge.rw_sa0591_01.wellSaid = true := by
  rw [PySem.W.Fast.te9446332074065402090]
  kernel_rfl
theorem law_opens : (chainsOk vw && opensWell PySem.Challenge.rw_sa0591_01.row.prog && (frees PySem.Challenge.rw_sa0591_01.row.toRowW && PySem.Challenge.rw_sa0591_01.row.within.isEmpty)) = true := by kernel_rfl
theorem law_told : PySem.Challenge.rw_sa0591_01.row.toRowW.promised := by w_witness2
set_option maxHeartbeats 4000000 in
theorem top_holds {d : DefRec} {kwd : List (Str × Expr)} (hdef : defOf vw PySem.Challenge.rw_sa0591_01.row.name = some (d, kwd)) (hp : PySem.Challenge.rw_sa0591_01.row.prog.theDef PySem.Challenge.rw_sa0591_01.row.name = some (d.params, d.body, d.scope)) (hk : kwWritten? d.params.kwonlyargs d.params.kw_defaults = some kwd)
    (walk : WalkO vw [Str.ofString "SnobolError"] (XL vw []) (kHook kf (adA ++ adB) ad_is).says PySem.Challenge.rw_sa0591_01.row.toRowW d kwd fun f vs => PySem.call f vs) : PySem.Challenge.rw_sa0591_01.Holds :=
  holds_law law_said fun said => holds_open (q := vw) (loose := [Str.ofString "SnobolError"]) (Xt := xt) (XP := XL vw []) (YP := (kHook kf (adA ++ adB) ad_is).says) (N := 3768) left_o (Hook.of _) (Hook.keeps _) (fun s e => xl_of s (Bool.and_eq_true_iff.mp e).1) XL.keeps hdef hp hk (fun s e => recFacts_of (Bool.and_eq_true_iff.mp e).2) (by rfl) said law_opens ⟨rfl, rfl, rfl, rfl, rfl, by kernel_rfl⟩ law_told walk

theorem off_base : True := by w_top off; exact trivial
noncomputable abbrev pg : Program := PySem.Challenge.rw_sa0591_01.row.toRowW.prog
noncomputable abbrev lz : List Str := looseW vw [Str.ofString "SnobolError"]

/-- the end of a body: what it made lies above g -/
def EndO (g : Heap) (P : Value → Heap → List (Addr × Obj) → Prop) (s : Shared) (v : Value) (s' : Shared) : Prop :=
  ∃ L' m' own' h' tk', s' = { s with heap := h', toks := tk' } ∧ Fr g L' h' m' ∧ News g L' h' own' ∧ P v h' own'

/-- Q is what Q' came of -/
def Back {β : Type} (Q Q' : β → Shared → Prop) : Prop := ∀ v s, Q v s → Q' v s
theorem Back.use {β : Type} {Q Q' : β → Shared → Prop} {v : β} {s : Shared} (b : Back Q Q') (h : Q v s) : Q' v s := b v s h
theorem absQE {M : Model} {A : Around} {β : Type} {t : Sem β} {Q : β → Shared → Prop} {E : Value → Shared → Prop} {s : Shared} (h : ∀ Q' E', Back Q Q' → wpAny M A t Q' E' s) : wpAny M A t Q E s := h Q E fun _ _ x => x
theorem absTok {M : Model} {A : Around} {β : Type} {t : Sem β} {Q : β → Shared → Prop} {E : Value → Shared → Prop} {h : Heap} {gs : Array GenState} {d : Drawn} {k : Nat} {os : OsState} (H : ∀ k, wpAny M A t Q E ⟨h, gs, d, k, os⟩) : wpAny M A t Q E ⟨h, gs, d, k, os⟩ := H k
theorem News.drop1 {g h : Heap} {L x d : Addr} {c : Nat} {p : Addr × Obj} {l : List (Addr × Obj)} (N : News g L h (p :: (x, instObj c d) :: l)) : News g L h ((x, instObj c d) :: l) := fun q hq => N q (.tail _ hq)
theorem EndO.mk {g : Heap} {P : Value → Heap → List (Addr × Obj) → Prop} {s : Shared} {v : Value} {L' : Addr} {m' : Str → Option Value} {own' all : List (Addr × Obj)} {h' : Heap} {tk' : Nat}
    (F : Fr g L' h' m') (N : News g L' h' all) (hs : ∀ p ∈ own', p ∈ all) (hP : P v h' own') : EndO g P s v { s with heap := h', toks := tk' } :=
  ⟨L', m', own', h', tk', rfl, F, fun p hp => N p (hs p hp), hP⟩

theorem news_two {h₀ h : Heap} {L : Addr} {a b : Addr × Obj} {news : List (Addr × Obj)} (N : News h₀ L h news) (M : News h₀ L h [a, b]) : News h₀ L h (a :: b :: news) := by
  intro p hp
  rcases List.mem_cons.mp hp with rfl | hp
  · exact M _ (.head _)
  · rcases List.mem_cons.mp hp with rfl | hp
    · exact M _ (.tail _ (.head _))
    · exact N p hp
/-- a claim about a call: own lists the objects that the call may turn -/
def Cl (w : World) (mean : ExcName → Option Value) (mg mb : Str → Option Value) (n : Nat) (f : Addr) (vs : List Value) (own : List (Addr × Obj)) (pre : Heap → Prop) (R : Value → Heap → Heap → List (Addr × Obj) → Prop) : Prop :=
  ∀ (dp un : Nat) (gd : Option (List Code)) (cn : Str) (cs : Scope) (a : Addr) (ccd : Value) (cl : List (Str × Addr)) (outer : List Env) (A₀ : Around) (base h₀ : Heap) (L : Addr) (m : Str → Option Value) (s : Shared) (Q E : Value → Shared → Prop),
    Below A₀ base outer h₀ → Fr h₀ L s.heap m → (kf w.params).In h₀ → News h₀ L s.heap own → Top vw lz mean mg mb h₀ → cs.kind = .function →
    dp + n < recursionLimit → un + 8 * n < cLine → pre s.heap →
    (∀ v own' h' tk', R v s.heap h' own' → Fr h₀ L h' m → News h₀ L h' own' → (∀ b o, b ∉ own.map (·.1) → s.heap.get? b = some o → h'.get? b = some o) → Q v { s with heap := h', toks := tk' }) →
    wpAny (model pg w) (ktrTop dp un gd cn cs L a ccd cl outer) (call (.ref f) vs) Q E s

theorem Cl.use {w : World} {mean : ExcName → Option Value} {mg mb : Str → Option Value} {n : Nat} {f : Addr} {vs : List Value} {own : List (Addr × Obj)} {pre : Heap → Prop} {R : Value → Heap → Heap → List (Addr × Obj) → Prop}
    {dp un : Nat} {gd : Option (List Code)} {cn : Str} {cs : Scope} {a : Addr} {ccd : Value} {cl : List (Str × Addr)} {outer : List Env} {A₀ : Around} {base h₀ : Heap} {L : Addr} {m : Str → Option Value} {s : Shared} {Q E : Value → Shared → Prop} {news rest : List (Addr × Obj)}
    (B : Below A₀ base outer h₀) (F : Fr h₀ L s.heap m) (X : (kf w.params).In h₀) (N : News h₀ L s.heap news) (T : Top vw lz mean mg mb h₀) (hk : cs.kind = .function)
    (C : Cl w mean mg mb n f vs own pre R) (hd : dp + n < recursionLimit) (hu : un + 8 * n < cLine) (hp : pre s.heap)
    (ho : ∀ p ∈ own, p ∈ news) (hr : ∀ p ∈ rest, p ∈ news ∧ p.1 ∉ own.map (·.1))
    (ret : ∀ v own' h' tk', R v s.heap h' own' → Fr h₀ L h' m → News h₀ L h' (own' ++ rest) → (∀ b o, b ∉ own.map (·.1) → s.heap.get? b = some o → h'.get? b = some o) → Q v { s with heap := h', toks := tk' }) :
    wpAny (model pg w) (ktrTop dp un gd cn cs L a ccd cl outer) (call (.ref f) vs) Q E s := by
  refine C dp un gd cn cs a ccd cl outer A₀ base h₀ L m s Q E B F X (fun p hp => N p (ho p hp)) T hk hd hu hp fun v own' h' tk' hR F' N' keep => ret v own' h' tk' hR F' (fun p hp => ?_) keep
  rcases List.mem_append.mp hp with hp | hp
  · exact N' p hp
  · have z := N p (hr p hp).1
    exact ⟨keep _ _ (hr p hp).2 z.1, z.2⟩

/-- a call that turns nothing -/
theorem Cl.use0 {w : World} {mean : ExcName → Option Value} {mg mb : Str → Option Value} {n : Nat} {f : Addr} {vs : List Value} {pre : Heap → Prop} {R : Value → Heap → Heap → List (Addr × Obj) → Prop}
    {dp un : Nat} {gd : Option (List Code)} {cn : Str} {cs : Scope} {a : Addr} {ccd : Value} {cl : List (Str × Addr)} {outer : List Env} {A₀ : Around} {base h₀ : Heap} {L : Addr} {m : Str → Option Value} {s : Shared} {Q E : Value → Shared → Prop} {news : List (Addr × Obj)}
    (B : Below A₀ base outer h₀) (F : Fr h₀ L s.heap m) (X : (kf w.params).In h₀) (N : News h₀ L s.heap news) (T : Top vw lz mean mg mb h₀) (hk : cs.kind = .function)
    (C : Cl w mean mg mb n f vs [] pre R) (hd : dp + n < recursionLimit) (hu : un + 8 * n < cLine) (hp : pre s.heap)
    (ret : ∀ v own' h' tk', R v s.heap h' own' → Fr h₀ L h' m → News h₀ L h' news → News h₀ L h' own' → (∀ b o, s.heap.get? b = some o → h'.get? b = some o) → Q v { s with heap := h', toks := tk' }) :
    wpAny (model pg w) (ktrTop dp un gd cn cs L a ccd cl outer) (call (.ref f) vs) Q E s :=
  C dp un gd cn cs a ccd cl outer A₀ base h₀ L m s Q E B F X (fun _ hp => nomatch hp) T hk hd hu hp fun v own' h' tk' hR F' N' keep =>
    ret v own' h' tk' hR F' (fun p hp => ⟨keep _ _ (fun h => nomatch h) (N p hp).1, (N p hp).2⟩) N' fun b o e => keep b o (fun h => nomatch h) e
theorem Cl.use2 {w : World} {mean : ExcName → Option Value} {mg mb : Str → Option Value} {n : Nat} {f : Addr} {vs : List Value} {pre : Heap → Prop} {R : Value → Heap → Heap → List (Addr × Obj) → Prop}
    {dp un : Nat} {gd : Option (List Code)} {cn : Str} {cs : Scope} {a : Addr} {ccd : Value} {cl : List (Str × Addr)} {outer : List Env} {A₀ : Around} {base h₀ : Heap} {L : Addr} {m : Str → Option Value} {s : Shared} {Q E : Value → Shared → Prop} {news : List (Addr × Obj)}
    (B : Below A₀ base outer h₀) (F : Fr h₀ L s.heap m) (X : (kf w.params).In h₀) (N : News h₀ L s.heap news) (T : Top vw lz mean mg mb h₀) (hk : cs.kind = .function)
    (hd : dp + n < recursionLimit) (hu : un + 8 * n < cLine) (hp : pre s.heap) (C : Cl w mean mg mb n f vs [] pre R)
    (ret : ∀ v own' h' tk', R v s.heap h' own' → Fr h₀ L h' m → News h₀ L h' news → News h₀ L h' own' → (∀ b o, s.heap.get? b = some o → h'.get? b = some o) → Q v { s with heap := h', toks := tk' }) :
    wpAny (model pg w) (ktrTop dp un gd cn cs L a ccd cl outer) (call (.ref f) vs) Q E s :=
  Cl.use0 B F X N T hk C hd hu hp ret
theorem Cl.useS {w : World} {mean : ExcName → Option Value} {mg mb : Str → Option Value} {n : Nat} {f : Addr} {vs : List Value} {pre : Heap → Prop} {G : Tok → Value}
    {dp un : Nat} {gd : Option (List Code)} {cn : Str} {cs : Scope} {a : Addr} {ccd : Value} {cl : List (Str × Addr)} {outer : List Env} {A₀ : Around} {base h₀ : Heap} {L : Addr} {m : Str → Option Value} {s : Shared} {Q E : Value → Shared → Prop} {news : List (Addr × Obj)}
    (B : Below A₀ base outer h₀) (F : Fr h₀ L s.heap m) (X : (kf w.params).In h₀) (N : News h₀ L s.heap news) (T : Top vw lz mean mg mb h₀) (hk : cs.kind = .function)
    (hd : dp + n < recursionLimit) (hu : un + 8 * n < cLine) (hp : pre s.heap) (C : Cl w mean mg mb n f vs [] pre (fun v _ _ _ => ∃ t', v = G t'))
    (ret : ∀ t' h' tk', Fr h₀ L h' m → News h₀ L h' news → (∀ b o, s.heap.get? b = some o → h'.get? b = some o) → Q (G t') { s with heap := h', toks := tk' }) :
    wpAny (model pg w) (ktrTop dp un gd cn cs L a ccd cl outer) (call (.ref f) vs) Q E s :=
  Cl.use0 B F X N T hk C hd hu hp fun v own' h' tk' ⟨t', e⟩ F' N' _ keep => e ▸ ret t' h' tk' F' N' keep

section
variable {w : World} {mean : ExcName → Option Value} {mg mb : Str → Option Value} {n : Nat} {f : Addr} {vs : List Value} {own : List (Addr × Obj)} {pre : Heap → Prop} {R : Value → Heap → Heap → List (Addr × Obj) → Prop}
  {name qual : Str} {params : Arguments} {body : List Stmt} {scope : Scope} {dV kV doc pm cdv ct oc : Value} {an od : Option Addr} {osl : Array (Option Value)} {binds : List (Str × Value)}

/-- what the body of a def is handed -/
abbrev BodyP (w : World) (mean : ExcName → Option Value) (mg mb : Str → Option Value) (n : Nat) (own : List (Addr × Obj)) (pre : Heap → Prop) (R : Value → Heap → Heap → List (Addr × Obj) → Prop) (mk : Addr → Str → Option Value) (cells : Addr → List (Addr × Obj) → Prop) (body : List Stmt) (env' : Addr → Env) : Prop :=
  ∀ (dp un : Nat) (gd : Option (List Code)) (cn : Str) (cs : Scope) (L a : Addr) (ccd : Value) (cl : List (Str × Addr)) (outer : List Env) (base : Heap) (s : Shared) (g : Heap) (L' : Addr) (h₁ : Heap) (tk : Nat) (cs' : List (Addr × Obj)) (E : Value → Shared → Prop),
    Fr g L' h₁ (mk L') → News g L' h₁ (cs' ++ own) → cells L' cs' → Below (ktrTop dp un gd cn cs L a ccd cl outer) base (envX cn cs L a ccd cl :: outer) g → (kf w.params).In g → Top vw lz mean mg mb g → (∀ p ∈ own, p.1 < L') → GSub s.heap g (own.map (·.1)) →
    dp + n < recursionLimit → un + 8 * n < cLine → pre s.heap →
    wpAny (model pg w) ((ktrTop dp un gd cn cs L a ccd cl outer).deeper (env' L')) (execs body (env' L'))
      (fun fl s' => EndO g (fun v h' own' => R v s.heap h' own') s (match fl with | .ret v => v | _ => .none) s')
      (fun e s' => wpAny (model pg w) ((ktrTop dp un gd cn cs L a ccd cl outer).deeper (env' L')) (leaving (env' L') e) (fun _ s'' => E e s'') (fun e' s'' => E e' s'') s') { s with heap := h₁, toks := tk }

theorem Cl.enter (ho : (kf w.params).lookup f = some ⟨oc, od, .func (fnOf name qual params body scope dV kV doc pm an cdv ct), osl⟩) (hcd : codeIn (kf w.params) cdv qual = true) (h1 : 0 < n)
    (hbind : bindArgs (fnOf name qual params body scope dV kV doc pm an cdv ct) ⟨vs, []⟩ = pure binds) (hloc : ∀ y ∈ binds, scope.names.lookup y.1 = some .local)
    (h : BodyP w mean mg mb n own pre R (fun _ y => binds.reverse.lookup y) (fun _ cs' => cs' = []) body (fun L' => envOf qual scope L' f cdv))
    (hco : scope.isCoroutine = false) (hgen : scope.isGenerator = false) (hk : scope.kind = .function) (hcell : ∀ x ∈ scope.names, x.2 ≠ .cell) : Cl w mean mg mb n f vs own pre R := by
  intro dp un gd cn cs a ccd cl outer A₀ base h₀ L m s Q E B F X N T hks hd hu hp hret
  refine wpAny_call ?_
  obtain ⟨FG, BG, st, lv⟩ := groundX (A := ktrTop dp un gd cn cs L a ccd cl outer) (R := fun r s' => match r with | .ok (.ret v) => Q v s' | .ok _ => False | .error e => E e s') B F N (env := envX cn cs L a ccd cl) rfl rfl hks
  refine codeAny_call_def (fd := fnX name qual params body scope [] dV kV doc pm an cdv ct) (body := body) (binds := binds) (by show dp < recursionLimit; omega) ((X.keeps F.keep) _ _ ho) rfl (T.nolimit.keeps F.keep) (codeRec_of (X.keeps F.keep) hcd) rfl (BindsTo.of_eq hbind) hcell hloc (fun h₁ hns hk₁ => ?_) hco hgen hk
  refine wpAny_mono (h dp un gd cn cs L a ccd cl outer base s _ s.heap.objs.size h₁ _ [] _ ⟨hns, fun b o e => hk₁ b o (of_hideAll _ e), Nat.le_of_eq (hideAll_size _ _)⟩
    (fun p hp => ⟨hk₁ _ _ (N p hp).1, Nat.ne_of_lt (Heap.lt_size (N p hp).1), hideAll_none _ (List.mem_map_of_mem hp)⟩) rfl BG (X.keeps st) (T.keeps st) (fun p hp => Heap.lt_size (N p hp).1) (fun b o e n => hideAll_get _ e n) hd hu hp)
    (fun fl s' he => lv _ _ ?_) fun _ _ y => y
  obtain ⟨L'', m'', own', h', tk', rfl, F'', N'', hR⟩ := he
  exact ⟨L'', m'', own', F'', N'', fun Fz Nz => hret _ own' h' tk' hR Fz Nz fun b o hb e => F''.keep b o (hideAll_get _ e hb)⟩

theorem Cl.enterC (ho : (kf w.params).lookup f = some ⟨oc, od, .func (fnOf name qual params body scope dV kV doc pm an cdv ct), osl⟩) (hcd : codeIn (kf w.params) cdv qual = true) (h1 : 0 < n)
    (hbind : bindArgs (fnOf name qual params body scope dV kV doc pm an cdv ct) ⟨vs, []⟩ = pure binds) (hkind : (binds.all fun y => scope.names.lookup y.1 == some .local || scope.names.lookup y.1 == some .cell) = true)
    (hnd : ((cellsFrom 0 scope.names []).map (·.1)).Nodup)
    (h : BodyP w mean mg mb n own pre R (fun L' => bindL (envOfC qual scope L' f cdv).kindOf binds fun _ => none) (fun L' cs' => CellsAre (bindC (envOfC qual scope L' f cdv).kindOf binds fun _ => none) (cellsFrom (L' + 1) scope.names []) cs') body (fun L' => envOfC qual scope L' f cdv))
    (hco : scope.isCoroutine = false) (hgen : scope.isGenerator = false) (hk : scope.kind = .function) : Cl w mean mg mb n f vs own pre R := by
  intro dp un gd cn cs a ccd cl outer A₀ base h₀ L m s Q E B F X N T hks hd hu hp hret
  refine wpAny_call ?_
  obtain ⟨FG, BG, st, lv⟩ := groundX (A := ktrTop dp un gd cn cs L a ccd cl outer) (R := fun r s' => match r with | .ok (.ret v) => Q v s' | .ok _ => False | .error e => E e s') B F N (env := envX cn cs L a ccd cl) rfl rfl hks
  refine codeAny_call_function (by show dp < recursionLimit; omega) ((X.keeps F.keep) _ _ ho) (fd := fnX name qual params body scope [] dV kV doc pm an cdv ct) rfl hco hgen rfl (codeRec_of (X.keeps F.keep) hcd) ((BindsTo.of_eq hbind) _ _ _ _ ?_)
  refine wpAny_newFunctionEnv_cells hk (kindsX hkind _) fun env' he s' x => ?_
  subst he
  refine ⟨(T.nolimit.keeps F.keep).keeps x.toInCall.keep, codeAny_func ?_⟩
  obtain ⟨h₁, tk, rfl, _⟩ := x.done
  have hk₁ := x.toInCall.keep
  obtain ⟨cells, NC, Y⟩ := _root_.PyProof.Rows.Cl.news (h₀ := s.heap) (Nat.le_refl _) fun n c hm => ⟨x.cell n c (lookup_of_mem_nodup (cellsFrom_names scope.names 0 (s.heap.objs.size + 1) [] [] rfl ▸ hnd) hm), x.above n c hm⟩
  refine wpAny_mono (h dp un gd cn cs L a ccd cl outer base s _ s.heap.objs.size h₁ tk cells _ ⟨x.toInCall.ns, fun b o e => hk₁ b o (of_hideAll _ e), Nat.le_of_eq (hideAll_size _ _)⟩
    (fun p hp => ?_) Y BG (X.keeps st) (T.keeps st) (fun p hp => Heap.lt_size (N p hp).1) (fun b o e n => hideAll_get _ e n) hd hu hp)
    (fun fl s' he => lv _ _ ?_) fun _ _ y => y
  · rcases List.mem_append.mp hp with hp | hp
    · refine ⟨(NC p hp).1, (NC p hp).2.1, ?_⟩
      cases q : (hideAll s.heap (own.map (·.1))).get? p.1 with
      | none => rfl
      | some o => have := of_hideAll _ q; rw [(NC p hp).2.2] at this; cases this
    · exact ⟨hk₁ _ _ (N p hp).1, Nat.ne_of_lt (Heap.lt_size (N p hp).1), hideAll_none _ (List.mem_map_of_mem hp)⟩
  · obtain ⟨L'', m'', own', h', tk', rfl, F'', N'', hR⟩ := he
    exact ⟨L'', m'', own', F'', N'', fun Fz Nz => hret _ own' h' tk' hR Fz Nz fun b o hb e => F''.keep b o (hideAll_get _ e hb)⟩
end
/-- for k_fill -/
def Here : Prop := PySem.Challenge.rw_sa0591_01 = PySem.Challenge.rw_sa0591_01 ∧ kf = kf
theorem here : Here := ⟨rfl, rfl⟩
theorem here_in {P : Prop} (h : (PySem.Challenge.rw_sa0591_01 = PySem.Challenge.rw_sa0591_01 ∧ kf = kf) → P) : P := h ⟨rfl, rfl⟩
local macro_rules | `(tactic| k_ne) => `(tactic| with_reducible first | assumption | (apply Ne.symm; assumption))
local macro_rules | `(tactic| k_room) => `(tactic| ((try simp only [depth_mark, depth_under_make, depth_under_kw, depth_in1, depth_deeper, depth_caller]); (try dsimp only [ktrTop]); omega))
local macro_rules | `(tactic| k_units) => `(tactic| ((try simp only [units_in1, units_deeper, Around.mark_units, units_caller]); (try dsimp only [ktrTop]); omega))

theorem off_strs : True := by w_top off; exact trivial
/-- a text by the numbers of its signs -/
def S (l : List Nat) : Str := ⟨l.toArray⟩
theorem S_len (l : List Nat) : (S l).length = l.length := by simp [S, PySem.Str.length]
theorem S_inj {a b : List Nat} : S a = S b ↔ a = b := by
  constructor
  · intro h
    have := congrArg (fun x : Str => x.cps.toList) h
    simpa [S] using this
  · intro h; rw [h]
theorem S_beq (a b : List Nat) : (S a == S b) = decide (a = b) := by
  rw [Bool.eq_iff_iff, beq_iff_eq, decide_eq_true_iff]; exact S_inj
theorem S_app (a b : List Nat) : S a ++ S b = S (a ++ b) := by
  apply PySem.Str.ext'
  rw [PySem.Str.cps_append]
  simp [S]
theorem lit_nil : Str.ofString "" = S [] := by decide +kernel
theorem lit_sp : Str.ofString " " = S [32] := by decide +kernel
theorem lit_12 : Str.ofString "12" = S [49, 50] := by decide +kernel
theorem lit_a : Str.ofString "a" = S [97] := by decide +kernel
theorem lit_minus : Str.ofString "-" = S [45] := by decide +kernel
section
variable {prog : Program} {w : World} {A : Around} {E : Value → Shared → Prop} {s : Shared} {x y : Str} {l k : List Nat} {t u : Tok} {Q : Value → Shared → Prop}
theorem eq_S {b : Bool} (hx : x = S l) (hy : y = S k) (hb : decide (l = k) = b) (h : Q (.bool b) s) : wpAny (model prog w) A (compareOp .Eq (.str x t) (.str y u)) Q E s := by
  subst hx hy
  refine PyProof.Rows.eq_str ?_
  rw [S_beq, hb]; exact h
theorem ne_S {b : Bool} (hx : x = S l) (hy : y = S k) (hb : (!decide (l = k)) = b) (h : Q (.bool b) s) : wpAny (model prog w) A (compareOp .NotEq (.str x t) (.str y u)) Q E s := by
  subst hx hy
  refine PyProof.Rows.ne_str ?_
  rw [show (S l != S k) = !(S l == S k) from rfl, S_beq, hb]; exact h
theorem len_S (hx : x = S l) (hl : l.length ≤ 16777216) (h : ∀ t' k', Q (.int (l.length : Int) t') { s with toks := k' }) : wpAny (model prog w) A (call (.builtin "len") [.str x t]) Q E s := by
  subst hx
  refine PyProof.Rows.len_str (by rw [S_len]; omega) ?_
  rw [S_len]; exact h _ _
end
local macro_rules | `(tactic| kopn_code) => `(tactic| first | exact lit_nil | exact lit_sp | exact lit_12 | exact lit_a | exact lit_minus | exact rfl)
local macro_rules | `(tactic| kopn_word) => `(tactic| first | (refine decide_eq_true ?_; first | assumption | exact rfl | omega) | (refine decide_eq_false ?_; first | assumption | omega | (intro h9; first | contradiction | (simp at h9; done))) | exact rfl)
section
variable {prog : Program} {w : World} {A : Around} {E : Value → Shared → Prop} {s : Shared} {x : Str} {l : List Nat} {t : Tok} {Q : Value → Shared → Prop} {value slice : Expr}
theorem charAt_S {l : List Nat} {i : Int} {c : Nat} (h0 : 0 ≤ i) (hc : l[i.toNat]? = some c) : Txt.charAt (S l) i = some c := by
  obtain ⟨hl, he⟩ := List.getElem?_eq_some_iff.mp hc
  unfold Txt.charAt seqIndex?
  rw [S_len]
  have h1 : ¬ i < 0 := by omega
  have h2 : i < (l.length : Int) := by omega
  simp [h1, h0, h2, S, (List.getElem?_eq_some_iff.mp hc).2]
theorem item_S {i : Int} {u : Tok} {c : Nat} (hx : x = S l) (h0 : 0 ≤ i) (hc : l[i.toNat]? = some c) (hl : l.length ≤ 16777216) (h : ∀ t' k, Q (.str (S [c]) t') { s with toks := k })
    (hs : subscripted slice false (.str x t) (.int i u) = operate [.str x t, .int i u] (getItem (.str x t) (.int i u)) := by with_unfolding_all rfl)
    (ht : ∀ r, letTemporaryGo value (.str x t) r = pure () := by intro _; with_unfolding_all rfl) :
    wpAny (model prog w) A (subscriptTail value slice (.str x t) (.int i u)) Q E s := by
  have lt : i.toNat < l.length := (List.getElem?_eq_some_iff.mp hc).1
  subst hx
  have e : Txt.item (S l) i = S [c] := by unfold Txt.item; rw [charAt_S h0 hc]; rfl
  refine item_str (by unfold fitsSsize; simp; omega) (by rw [S_len]; omega) (by rw [S_len]; omega) (fun _ => ?_) hs ht
  rw [e]; exact h _ _
theorem join_flat (ls : List (List Nat)) : Txt.join (S []) (ls.map S) = S ls.flatten := by
  show Builtin.Str.glued (S []) (ls.map S) = S ls.flatten
  have go : ∀ (r : List (List Nat)) (acc : Array Nat), ((r.map S).foldl (fun acc p => acc ++ (S []).cps ++ p.cps) acc) = acc ++ r.flatten.toArray := by
    intro r
    induction r with
    | nil => intro acc; simp
    | cons a r ih =>
      intro acc
      rw [List.map_cons, List.foldl_cons, ih]
      simp [S, Array.append_assoc]
  cases ls with
  | nil => rfl
  | cons a r =>
    unfold Builtin.Str.glued
    simp only [List.map_cons, List.drop_succ_cons, List.drop_zero, List.headD_cons]
    rw [go]
    simp [S]
theorem join_S {D : Addr} {items : Array Value} {ls : List (List Nat)} (hx : x = S []) (hl : s.heap.IsList D items) (hi : StrsAre items.toList (ls.map S)) (hok : ls.flatten.length ≤ 16777216)
    (h : ∀ t' k, Q (.str (S ls.flatten) t') { s with toks := k }) : wpAny (model prog w) A (call (.builtin "str.join") [.str x t, .ref D]) Q E s := by
  subst hx
  refine join_list hl hi ?_ (fun t' k => by rw [join_flat]; exact h t' k)
  have : ((ls.map S).map (·.length)).sum = ls.flatten.length := by
    rw [List.map_map, List.length_flatten]
    exact congrArg List.sum (List.map_congr_left fun a _ => S_len a)
  rw [this, S_len]
  simpa using hok
end
theorem InvPostN.mk {h₀ : Heap} {L : Addr} {J : (Str → Option Value) → List (Addr × Obj) → Prop} {own all nx : List (Addr × Obj)} {adr : List Addr} {s₁ : Shared} {Q : Flow → Shared → Prop} {h' : Heap} {tk : Nat} {m' : Str → Option Value}
    (F : Fr h₀ L h' m') (N : News h₀ L h' all) (hn : ∀ p ∈ nx, p ∈ all) (ho : ∀ p ∈ own, p ∈ all) (ha : nx.map (·.1) = adr) (hJ : J m' nx) : InvPostN h₀ L J own adr s₁ Q .next { s₁ with heap := h', toks := tk } :=
  ⟨h', tk, m', all, nx, rfl, F, N, hn, ho, ha, hJ⟩
/-- the walk stops here -/
def Stop (p : Prop) : Prop := p
theorem stop {p : Prop} (h : Stop p) : p := h
theorem unstop {p : Prop} (h : p) : Stop p := h
section
variable {prog : Program} {w : World} {A : Around} {E : Value → Shared → Prop} {s : Shared} {x y : Str} {l k : List Nat} {t u : Tok} {Q : Value → Shared → Prop}
theorem add_S (hx : x = S l) (hy : y = S k) (hl : l.length + k.length ≤ 16777216) (h : ∀ t' k', Q (.str (S (l ++ k)) t') { s with toks := k' }) : wpAny (model prog w) A (binaryOp .Add (.str x t) (.str y u)) Q E s := by
  subst hx hy
  refine KOpn.add (by rw [S_len, S_len]; exact hl) fun t' k' _ => ?_
  rw [S_app]; exact h _ _
end

theorem off_loops : True := by w_top off; exact trivial
section
variable {prog : Program} {w : World} {A : Around} {E : Value → Shared → Prop} {s : Shared} {env : Env} {h₀ : Heap} {m : Str → Option Value} {news : List (Addr × Obj)} {body : List Stmt} {Q : Flow → Shared → Prop}

/-- for i, c in enumerate(text): what P says stands between the turns; the two names alone turn in the frame -/
theorem pair_str {l : List Nat} {xi xc : Str} {xv : Value} (hic : xi ≠ xc) (H : PairSrc prog w A E h₀ env ItemKind.str (signs (S l)) xv s m news) (P : Nat → List (Addr × Obj) → Prop) (h0 : P 0 news)
    (turn : ∀ i c t u news₁ h tk own, l[i]? = some c → P i news₁ → news₁.map (·.1) = news.map (·.1) → OwnOff own (news.map (·.1)) →
      Fr h₀ env.locals h (fun y => if y = xc then some (.str (S [c]) u) else if y = xi then some (.int (i : Int) t) else m y) → News h₀ env.locals h (news₁ ++ own) →
      wpAny (model prog w) A (execs body env) (InvPostN h₀ env.locals (fun m' nx => (∀ z, z ≠ xc → z ≠ xi → m' z = m z) ∧ P (i + 1) nx) own (news.map (·.1)) { s with heap := h, toks := tk } Q) E { s with heap := h, toks := tk })
    (done : ∀ h tk news' vi vc, P l.length news' → Fr h₀ env.locals h (fun y => if y = xc then vc else if y = xi then vi else m y) → News h₀ env.locals h news' → Q .next { s with heap := h, toks := tk }) :
    wpAny (model prog w) A (pyIter xv) (fun it s₂ => PairAt3 prog w A h₀ env xi xc body Q E it s₂) E s := by
  have sl : ∀ (i : Nat) (a : Str), (signs (S l))[i]? = some a → ∃ c, l[i]? = some c ∧ a = S [c] := by
    intro i a h
    simp only [signs, S, List.getElem?_map, Option.map_eq_some_iff] at h
    obtain ⟨c, h1, h2⟩ := h
    exact ⟨c, by simpa using h1, h2.symm⟩
  have same : ∀ (m₁ : Str → Option Value) (v1 v0 : Option Value), (∀ z, z ≠ xc → z ≠ xi → m₁ z = m z) → (fun y => if y = xc then v1 else if y = xi then v0 else m₁ y) = fun y => if y = xc then v1 else if y = xi then v0 else m y := by
    intro m₁ v1 v0 h
    funext y
    by_cases h1 : y = xc
    · simp [h1]
    · by_cases h2 : y = xi
      · simp [h2]
      · simp [h1, h2, h y h1 h2]
  have same' : ∀ (m₁ : Str → Option Value), (∀ z, z ≠ xc → z ≠ xi → m₁ z = m z) → m₁ = fun y => if y = xc then m₁ xc else if y = xi then m₁ xi else m y := by
    intro m₁ h
    funext y
    by_cases h1 : y = xc
    · simp [h1]
    · by_cases h2 : y = xi
      · simp [h2, hic]
      · simp [h1, h2, h y h1 h2]
  refine H xi xc body Q (fun i m₁ news₁ => (∀ z, z ≠ xc → z ≠ xi → m₁ z = m z) ∧ P i news₁) ⟨fun _ _ _ => rfl, h0⟩ ?_ ?_
  · rintro i a t v m₁ news₁ s₁ own ⟨h, tk, rfl⟩ ha hk ⟨hm, hP⟩ hadr hoff F₁ N₁
    obtain ⟨c, hc, rfl⟩ := sl i a ha
    obtain ⟨u, rfl⟩ := hk
    rw [same m₁ _ _ hm] at F₁
    have ho : OwnOff own (news.map (·.1)) := fun p hp b hb e => by
      obtain ⟨q, hq, rfl⟩ := List.mem_map.mp hb
      exact hoff p hp q hq e
    refine wpAny_mono (turn i c t u news₁ h tk own hc hP hadr ho F₁ fun p hp => N₁ p ?_) (fun f s₂ p => ?_) fun _ _ e => e
    · rcases List.mem_append.mp hp with q | q
      · exact List.mem_append_right _ q
      · exact List.mem_append_left _ q
    · have key : InvEndN h₀ env.locals (fun m' nx => (∀ z, z ≠ xc → z ≠ xi → m' z = m z) ∧ P (i + 1) nx) own (news.map (·.1)) { s with heap := h, toks := tk } s₂ →
          LoopStep2 h₀ env.locals own news₁ (fun m' nx => (∀ z, z ≠ xc → z ≠ xi → m' z = m z) ∧ P (i + 1) nx) { s with heap := h, toks := tk } .next s₂ := by
        rintro ⟨h', tk', m', news', nx, e, F', N', h1, h2, h3, h4⟩
        exact ⟨rfl, h', tk', m', nx, e, F', fun q hq => N' q ((List.mem_append.mp hq).elim (h2 q) (h1 q)), h3.trans hadr.symm, h4⟩
      cases f with
      | ret v => exact p
      | brk => exact p
      | next => exact key p
      | cont => exact key p
  · rintro h' tk m' news' F' N' _ ⟨hm, hP⟩
    have hl : (signs (S l)).length = l.length := by rw [signs_length, S_len]
    rw [hl] at hP
    rw [same' m' hm] at F'
    exact done h' tk news' _ _ hP F' N'

/-- a comprehension over a text, sign by sign -/
def CompSrcS (prog : Program) (w : World) (A : Around) (h₀ : Heap) (L : Addr) (m : Str → Option Value) (env : Env) (elt : Expr) (x : Str) (scope : Scope) (cl : List (Str × Addr)) (news : List (Addr × Obj)) (Q : Value → Shared → Prop) (xv : Value) (s₁ : Shared) : Prop :=
  ∃ l tx, xv = .str (S l) tx ∧ A.handled = none ∧ Fr h₀ L s₁.heap m ∧ News h₀ L s₁.heap news ∧ l.length ≤ sizeLine ∧
      ∀ g, LCg.CompRest prog w A h₀ L m env elt x scope cl { s₁ with heap := g } (fun _ => True) (fun i v => ∃ c u, l[i]? = some c ∧ v = .str (S [c]) u) (LCg.FinE h₀ L m { s₁ with heap := g } Q) l.length 0 [] news
theorem ListComp_S {L : Addr} {elt iter : Expr} {x : Str} {px : Pos} {scope : Scope} {cl : List (Str × Addr)} {pos : Pos} {Q : Value → Shared → Prop} (_F : Fr h₀ L s.heap m) (_N : News h₀ L s.heap news)
    (hclos : closureFor scope env = pure cl) (hcell : ∀ y ∈ scope.names, y.2 ≠ .cell) (hkind : scope.kind = .function)
    (hnames : ∀ y ∈ scope.names, y.2 = .local → scope.names.lookup y.1 = some .local) (hx : scope.names.lookup x = some .local)
    (h : wpAny (model prog w) A (eval iter env) (CompSrcS prog w A h₀ L m env elt x scope cl news Q) E s)
    (hs : ∀ x, foldedSetIterable iter env x = pure x := by intro _; rfl) :
    wpAny (model prog w) A (eval (.ListComp elt [⟨.Name x px, iter, [], 0⟩] scope pos) env) Q E s := by
  rw [eval_ListComp]
  refine wpAny_comprehension_free (use := none) rfl hs hclos hkind hnames (wpAny_mono h (fun xv s₁ h₁ => ?_) fun _ _ e => e)
  obtain ⟨l, tx, rfl, hh, F, N, hsz, R⟩ := h₁
  have fin : ∀ (n : Nat) (P : Nat → Value → Prop) (St : Nat → Heap → Prop) (o : Obj), Walks prog w A s₁.heap.objs.size [s₁.heap.objs.size] [s₁.heap.objs.size] n P St → n = l.length → (∀ i v, P i v → ∃ c u, l[i]? = some c ∧ v = .str (S [c]) u) →
      (∀ i h, St i h → ∃ o, h.get? s₁.heap.objs.size = some o) → St 0 (s₁.heap.push o) → o.isFreed = false →
      wpAny (model prog w) A (newList []) (fun acc s₃ => wpAny (model prog w) A (newFunctionEnv scope env.globals cl [] env.qual none .none (some env)) (fun cenv s₄ =>
        codeAny (model prog w) A (.compStart (.ListComp elt [⟨.Name x px, iter, [], 0⟩] scope pos) 0 (.ref s₁.heap.objs.size) acc { cenv with scope := relabel scope env })
          (compPost (model prog w) A E none Q acc cenv.locals) s₄) E s₃) E { s₁ with heap := s₁.heap.push o } := by
    rintro n P St o W rfl hP hIo hst hfree
    have up : ∀ b o', s₁.heap.get? b = some o' → (s₁.heap.push o).get? b = some o' := fun b o' e => Heap.get?_push_of_some _ e
    have W' : Walks prog w A s₁.heap.objs.size [s₁.heap.objs.size] [s₁.heap.objs.size] l.length (fun i v => ∃ c u, l[i]? = some c ∧ v = .str (S [c]) u) St :=
      { sub := W.sub, frame := W.frame, done := W.done, self := W.self,
        item := fun i s Q E hi st hQ => W.item i s Q E hi st fun v h' tk hp => hQ v h' tk (hP i v hp) }
    refine wpAny_mono (LCg.block_U (RR := fun acc C => compPost (model prog w) A E none Q acc C) (S := fun _ => True) (Fin := LCg.FinE h₀ L m { s₁ with heap := s₁.heap.push o } Q) (h₀ := h₀) (L := L) (m := m) (news := news) (px := px) (iter := iter) (pos := pos) W' hsz hIo
      (fun i h h' o' nw st e e' _ _ _ => W.frame _ _ _ st fun b hb ob eb => by rw [List.mem_singleton.mp hb] at eb ⊢; rw [e] at eb; cases eb; exact e') hcell hkind hx hst (fun b hb => ?_)
      (F.keeps up) (N.grown up) (Nat.ne_of_lt F.ns.lt) (next_is_new F) (fun p hp => Nat.ne_of_lt (Heap.lt_size (N p hp).1)) trivial (R _) ?_) (fun _ _ z => z) fun _ _ z => z
    · rw [List.mem_singleton.mp hb]
      show s₁.heap.objs.size < (s₁.heap.push _).objs.size
      rw [Heap.size_push]; exact Nat.lt_succ_self _
    · intro D C h tk m' ys news' F' N' o1 hn hC₀ hD₀ hCL hDL hCD offC fin
      refine ⟨m', hn, fun h'' hs'' => fin D h'' tk (F'.change hs'' hCL hC₀) (fun p hp => ?_) o1⟩
      refine ⟨hs''.extBut _ _ ?_ (N' p hp).1, (N' p hp).2⟩
      rcases List.mem_cons.mp hp with rfl | hp
      · exact Ne.symm hCD
      · exact offC p hp
  have hP : ∀ i v, SignAt (S l) i v → ∃ c u, l[i]? = some c ∧ v = .str (S [c]) u := by
    rintro i v ⟨c, u, hc, rfl⟩
    exact ⟨c, u, by simpa [S] using hc, rfl⟩
  have hn : (S l).cps.size = l.length := by simp [S]
  cases ha : (S l).cps.all (· < 128)
  · exact wpAny_pyIter_wide ha (fin _ _ _ { cls := .type "str_iterator", data := .fields #[.str (S l) tx, .int 0 0] } (Walks.strWide hh _ (S l) tx) hn hP (fun i h st => by obtain ⟨o, e, _⟩ := st; exact ⟨o, e⟩) ⟨_, Heap.get?_push_size _ rfl, rfl, rfl⟩ rfl)
  · exact wpAny_pyIter_ascii ha (fin _ _ _ { cls := .type "str_ascii_iterator", data := .fields #[.str (S l) tx, .int 0 0] } (Walks.strAscii hh _ (S l) tx) hn hP (fun i h st => by obtain ⟨o, e, _⟩ := st; exact ⟨o, e⟩) ⟨_, Heap.get?_push_size _ rfl, rfl, rfl⟩ rfl)

theorem comp_flat (f : Nat → Nat) (x : List Nat) : ((List.range x.length).map fun i => [f (x.getD i 0)]).flatten = x.map f := by
  have : ((List.range x.length).map fun i => [f (x.getD i 0)]) = x.map fun c => [f c] := by
    apply List.ext_getElem
    · simp
    · intro i h1 h2
      simp at h1
      simp [h1]
  rw [this]
  clear this
  induction x with
  | nil => rfl
  | cons a r ih => rw [List.map_cons, List.map_cons, List.flatten_cons, ih]; rfl
/-- the turns of a comprehension whose element is one sign -/
theorem comp_signs {L : Addr} {elt : Expr} {x : Str} {scope : Scope} {cl : List (Str × Addr)} {s : Shared} {SS : List (Addr × Obj) → Prop} {Fin : List Value → List (Addr × Obj) → Prop} {n : Nat} {P : Nat → Value → Prop} (g : Nat → List Nat) (hP : SS news)
    (turn : ∀ i v I oI C oC D m₂ ys h tk (E' : Value → Shared → Prop), i < n → P i v → LCg.NsObj oC m₂ → m₂ x = some v → Fr h₀ L h m → News h₀ L h ((I, oI) :: (C, oC) :: (D, LCg.lst ys) :: news) → LCg.Off3 I C D news → ((@Ne Nat I C) ∧ (@Ne Nat I D) ∧ (@Ne Nat C D)) →
      wpAny (model prog w) A (eval elt (compEnvC scope cl C env)) (LCg.CompEnd h₀ L m { s with heap := h, toks := tk } I oI C oC D (LCg.lst ys) SS (fun y news' => news' = news ∧ ∃ t, y = .str (S (g i)) t)) E' { s with heap := h, toks := tk })
    (fin : ∀ ys, StrsAre ys (((List.range n).map g).map S) → Fin ys news) : LCg.CompRest prog w A h₀ L m env elt x scope cl s SS P Fin n 0 [] news := by
  have key : ∀ (j i : Nat) (ys : List Value), i + j = n → StrsAre ys (((List.range i).map g).map S) → LCg.CompRest prog w A h₀ L m env elt x scope cl s SS P Fin j i ys news := by
    intro j
    induction j with
    | zero =>
      intro i ys hi hy
      have e : i = n := by omega
      subst e
      exact LCg.CompRest.zero (fin ys hy)
    | succ j ih =>
      intro i ys hi hy
      refine LCg.CompRest.succ ?_
      intro v I oI C oC D m₂ h tk E' hv hC hx F N off ne
      refine wpAny_mono (turn i v I oI C oC D m₂ ys h tk E' (by omega) hv hC hx F N off ne) (fun y s₂ hq => ?_) fun _ _ e => e
      obtain ⟨h', tk', nw, e, F', N', off', hS, rfl, t', rfl⟩ := hq
      refine ⟨h', tk', nw, e, F', N', off', hS, ?_⟩
      refine ih (i + 1) _ (by omega) ?_
      rw [List.range_succ, List.map_append, List.map_append]
      exact KStt.strs_snoc hy
  exact key n 0 [] (by omega) .nil
end
/-- a while loop: x is what stands between the turns; V tells the names that turn and their values, led the objects -/
def WEnd {α : Type} (h₀ : Heap) (L : Addr) (s : Shared) (led : α → List (Addr × Obj)) (V : α → List (Str × (Tok → Value))) (stored : List Str) (m₀ : Str → Option Value) (P : α → Prop) (μ : α → Nat) (Q : Flow → Shared → Prop) (x : α) (f : Flow) (s₂ : Shared) : Prop :=
  match f with
  | .ret v => Q (.ret v) s₂
  | .brk => Q .next s₂
  | _ => ∃ (x' : α) (h' : Heap) (tk : Nat) (m' : Str → Option Value) (news' : List (Addr × Obj)), s₂ = { s with heap := h', toks := tk } ∧ Fr h₀ L h' m' ∧ News h₀ L h' news' ∧ (∀ p ∈ led x', p ∈ news') ∧
      (∀ p ∈ V x', ∃ t, m' p.1 = some (p.2 t)) ∧ (∀ z, (∀ p ∈ V x', z ≠ p.1) → stored.contains z = false → m' z = m₀ z) ∧ P x' ∧ μ x' < μ x
theorem WEnd.mk {α : Type} {h₀ : Heap} {L : Addr} {s : Shared} {led : α → List (Addr × Obj)} {V : α → List (Str × (Tok → Value))} {stored : List Str} {m₀ m' : Str → Option Value} {P : α → Prop} {μ : α → Nat} {Q : Flow → Shared → Prop} {x : α} {h' : Heap} {tk : Nat} {news' : List (Addr × Obj)} (x' : α)
    (F : Fr h₀ L h' m') (N : News h₀ L h' news') (hl : ∀ p ∈ led x', p ∈ news') (hv : ∀ p ∈ V x', ∃ t, m' p.1 = some (p.2 t)) (hm : ∀ z, (∀ p ∈ V x', z ≠ p.1) → stored.contains z = false → m' z = m₀ z) (hp : P x') (hμ : μ x' < μ x) :
    WEnd h₀ L s led V stored m₀ P μ Q x .next { s with heap := h', toks := tk } := ⟨x', h', tk, m', news', rfl, F, N, hl, hv, hm, hp, hμ⟩
theorem toks_of {m : Str → Option Value} {l : List (Str × (Tok → Value))} (hn : (l.map (·.1)).Nodup) (h : ∀ p ∈ l, ∃ t, m p.1 = some (p.2 t)) : ∃ ts : Str → Tok, ∀ p ∈ l, m p.1 = some (p.2 (ts p.1)) := by
  induction l with
  | nil => exact ⟨fun _ => 0, fun _ h => nomatch h⟩
  | cons q r ih =>
    rw [List.map_cons, List.nodup_cons] at hn
    obtain ⟨ts, hts⟩ := ih hn.2 fun p hp => h p (.tail _ hp)
    obtain ⟨t, ht⟩ := h q (.head _)
    refine ⟨fun z => if z = q.1 then t else ts z, fun p hp => ?_⟩
    rcases List.mem_cons.mp hp with rfl | hp
    · simpa using ht
    · have : p.1 ≠ q.1 := fun e => hn.1 (e ▸ List.mem_map_of_mem hp)
      simpa [this] using hts p hp
theorem while_g {prog : Program} {w : World} {A : Around} {E : Value → Shared → Prop} {Q : Flow → Shared → Prop} {s : Shared} {env : Env} {h₀ : Heap} {L : Addr} {α : Type} {test : Expr} {body : List Stmt} {pos : Pos} {m₀ : Str → Option Value}
    (led : α → List (Addr × Obj)) (V : α → List (Str × (Tok → Value))) (stored : List Str) (P : α → Prop) (μ : α → Nat) (x₀ : α) (hn : ∀ x, ((V x).map (·.1)).Nodup)
    (F : Fr h₀ L s.heap m₀) (N : News h₀ L s.heap (led x₀)) (hv : ∀ p ∈ V x₀, ∃ t, m₀ p.1 = some (p.2 t)) (hp : P x₀)
    (turn : ∀ (x : α) (ts : Str → Tok) (u : Str → Option Value) h tk, P x → Fr h₀ L h (kstB (fun z => if stored.contains z then u z else m₀ z) ((V x).map fun p => (p.1, p.2 (ts p.1)))) → News h₀ L h (led x) →
      wpAny (model prog w) A (isTrue test env (eval test env)) (fun b s₂ =>
        if b = true then wpAny (model prog w) A (execs body env) (WEnd h₀ L s led V stored m₀ P μ Q x) E s₂ else Q .next s₂) E { s with heap := h, toks := tk })
    (hE : PassesOwn (model prog w) A env E := by passes_own) :
    wpAny (model prog w) A (exec (.While test body [] pos) env) Q E s := by
  obtain ⟨ts₀, h0⟩ := toks_of (hn x₀) hv
  refine ksw_while (σ := α × (Str → Tok)) (fun c => led c.1) (fun c => (V c.1).map fun p => (p.1, p.2 (c.2 p.1))) (fun _ => True) stored (fun c => P c.1) (fun c => μ c.1) (x₀, ts₀) F N trivial ?_ hp ?_ hE
  · intro p hp
    obtain ⟨q, hq, rfl⟩ := List.mem_map.mp hp
    exact h0 q hq
  · rintro ⟨x, ts⟩ u h tk _ hp F' N'
    refine wpAny_mono (turn x ts u h tk hp F' N') (fun b s₂ p => ?_) fun _ _ e => e
    cases b with
    | false => simpa using p
    | true =>
      simp only [if_true] at p ⊢
      refine wpAny_mono p (fun f s₃ q => ?_) fun _ _ e => e
      have key : WEnd h₀ L s led V stored m₀ P μ Q x .next s₃ → KswEnd h₀ L s (fun c : α × (Str → Tok) => led c.1) (fun c => (V c.1).map fun p => (p.1, p.2 (c.2 p.1))) (fun _ => True) stored m₀ (fun c => P c.1) (fun c => μ c.1) (x, ts) s₃ := by
        rintro ⟨x', h', tk', m', news', rfl, F9, N9, hl, hv9, hm, hp9, hμ⟩
        obtain ⟨ts', h9⟩ := toks_of (hn x') hv9
        refine ⟨(x', ts'), h', tk', m', news', rfl, F9, N9, hl, trivial, ?_, ?_, hp9, hμ⟩
        · intro p hp
          obtain ⟨q, hq, rfl⟩ := List.mem_map.mp hp
          exact h9 q hq
        · intro z hz
          exact hm z fun p hp => hz _ (List.mem_map_of_mem (f := fun p : Str × (Tok → Value) => (p.1, p.2 (ts' p.1))) hp)
      cases f with
      | ret v => exact q
      | brk => exact q
      | next => exact key q
      | cont => exact key q

theorem off_repl : True := by w_top off; exact trivial
section
variable {K : Type} [DecidableEq K]
theorem valueAt_stored (kvs : List (K × Value)) (k : K) (v : Value) (k' : K) : valueAt (stored kvs k v) k' = if k' = k then some v else valueAt kvs k' := by
  unfold stored
  by_cases h : kvs.any (fun kv => kv.1 = k) = true
  · rw [if_pos h]
    induction kvs with
    | nil => simp at h
    | cons p r ih =>
      unfold valueAt at ih ⊢
      by_cases hp : p.1 = k
      · simp only [List.map_cons, if_pos hp, List.find?_cons]
        by_cases hk : k' = k
        · subst hk; simp [hp]
        · have h1 : ¬ p.1 = k' := fun e => hk (by rw [← e, hp])
          have h2 : ∀ r : List (K × Value), ((r.map fun kv => if kv.1 = k then (kv.1, v) else kv).find? fun kv => kv.1 = k') = (r.find? fun kv => kv.1 = k') := by
            intro r
            induction r with
            | nil => rfl
            | cons q r ihr =>
              rw [List.map_cons, List.find?_cons, List.find?_cons, ihr]
              by_cases hq : q.1 = k
              · have : ¬ q.1 = k' := fun e => hk (by rw [← e, hq])
                simp [hq, this]
                simp [hq] at this
                simp [this]
              · simp [hq]
          simp [h1, hk, h2]
      · have h' : r.any (fun kv => kv.1 = k) = true := by simpa [hp] using h
        have ih' := ih h'
        simp only [List.map_cons, if_neg hp, List.find?_cons]
        by_cases hk : p.1 = k'
        · have : ¬ k' = k := fun e => hp (by rw [hk, e])
          simp [hk, this]
        · simp only [hk, decide_false]
          exact ih'
  · rw [if_neg h]
    have hn : ∀ p ∈ kvs, ¬ p.1 = k := by
      intro p hp e
      exact h (List.any_eq_true.mpr ⟨p, hp, by simpa using e⟩)
    unfold valueAt
    rw [List.find?_append]
    by_cases hk : k' = k
    · subst hk
      have : kvs.find? (fun kv => kv.1 = k') = none := by
        rw [List.find?_eq_none]
        intro p hp
        simpa using hn p hp
      simp [this]
    · simp only [if_neg hk, List.find?_cons, List.find?_nil]
      have : decide (k = k') = false := by simp; exact fun e => hk e.symm
      rw [this]
      simp
theorem stored_len (kvs : List (K × Value)) (k : K) (v : Value) : (stored kvs k v).length ≤ kvs.length + 1 := by
  unfold stored
  split <;> simp
end

/-- what a table says of a sign: its last row counts -/
def look (ps : List (Nat × Nat)) (x : Nat) : Option Nat := (ps.reverse.lookup x)
theorem look_nil (x : Nat) : look [] x = none := rfl
theorem look_snoc (ps : List (Nat × Nat)) (c e x : Nat) : look (ps ++ [(c, e)]) x = if x = c then some e else look ps x := by
  unfold look
  rw [List.reverse_append]
  simp only [List.reverse_cons, List.reverse_nil, List.nil_append, List.singleton_append, List.lookup_cons]
  by_cases h : x = c
  · simp [h]
  · have : (x == c) = false := by simpa using h
    simp [this, h]
/-- the one sign, the whole text -/
def mapS (o n : List Nat) (x : Nat) : Nat := (look (o.zip n) x).getD x
def rep (o n : List Nat) (l : List Nat) : List Nat := l.map (mapS o n)
theorem rep_len (o n l : List Nat) : (rep o n l).length = l.length := by simp [rep]

def DRel (ps : List (Nat × Nat)) (kvs : List (Str × Value)) : Prop := ∀ x, match look ps x with
  | none => valueAt kvs (S [x]) = none
  | some e => ∃ t, valueAt kvs (S [x]) = some (.str (S [e]) t)
theorem DRel.nil : DRel [] [] := fun _ => rfl
theorem DRel.snoc {ps : List (Nat × Nat)} {kvs : List (Str × Value)} (h : DRel ps kvs) (c e : Nat) (t : Tok) : DRel (ps ++ [(c, e)]) (stored kvs (S [c]) (.str (S [e]) t)) := by
  intro x
  rw [look_snoc, valueAt_stored]
  by_cases hx : x = c
  · subst hx; simp only [if_pos]; exact ⟨t, rfl⟩
  · rw [if_neg hx, if_neg (fun q => hx (by simpa using S_inj.mp q))]
    exact h x
theorem take_snoc {o n : List Nat} {i c e : Nat} (h1 : o[i]? = some c) (h2 : n[i]? = some e) : (o.zip n).take (i + 1) = (o.zip n).take i ++ [(c, e)] := by
  rw [List.take_add_one]
  have : (o.zip n)[i]? = some (c, e) := by simp [List.getElem?_zip_eq_some, h1, h2]
  rw [this]; rfl
section
variable {w : World} {A : Around} {E : Value → Shared → Prop} {s : Shared} {env : Env} {h₀ : Heap} {m : Str → Option Value} {body : List Stmt} {Q : Flow → Shared → Prop}
theorem repl_loop {o n : List Nat} {xi xc : Str} {xv : Value} {d c : Addr} {od oc : Obj} (H : PairSrc pg w A E h₀ env ItemKind.str (signs (S o)) xv s m [(d, od), (c, oc)]) (hic : xi ≠ xc) (hon : o.length = n.length) (hd : od.IsDictOf (PySem.strKind pg w) [])
    (turn : ∀ i cc e t u od' kvs h tk own, o[i]? = some cc → n[i]? = some e → i < n.length → od'.IsDictOf (PySem.strKind pg w) kvs → kvs.length ≤ i → DRel ((o.zip n).take i) kvs → AllLt 0 [] → OwnOff own [d, c] →
      Fr h₀ env.locals h (fun y => if y = xc then some (.str (S [cc]) u) else if y = xi then some (.int (i : Int) t) else m y) → News h₀ env.locals h ((d, od') :: (c, oc) :: own) →
      wpAny (model pg w) A (execs body env) (InvPostN h₀ env.locals (fun m' nx => (∀ z, z ≠ xc → z ≠ xi → m' z = m z) ∧ ∃ od'' kvs', nx = [(d, od''), (c, oc)] ∧ od''.IsDictOf (PySem.strKind pg w) kvs' ∧ kvs'.length ≤ i + 1 ∧ DRel ((o.zip n).take (i + 1)) kvs') own [d, c] { s with heap := h, toks := tk } Q) E { s with heap := h, toks := tk })
    (done : ∀ h tk vi vc od' kvs, od'.IsDictOf (PySem.strKind pg w) kvs → DRel (o.zip n) kvs → Fr h₀ env.locals h (fun y => if y = xc then vc else if y = xi then vi else m y) → News h₀ env.locals h [(d, od'), (c, oc)] → Q .next { s with heap := h, toks := tk }) :
    wpAny (model pg w) A (pyIter xv) (fun it s₂ => PairAt3 pg w A h₀ env xi xc body Q E it s₂) E s := by
  refine pair_str hic H (fun i nx => ∃ od' kvs, nx = [(d, od'), (c, oc)] ∧ od'.IsDictOf (PySem.strKind pg w) kvs ∧ kvs.length ≤ i ∧ DRel ((o.zip n).take i) kvs) ⟨od, [], rfl, hd, Nat.le_refl _, DRel.nil⟩ ?_ ?_
  · rintro i cc t u _ h tk own hi ⟨od', kvs, rfl, hd', hl, hr⟩ _ ho F N
    have lt : i < o.length := by
      rcases List.getElem?_eq_some_iff.mp hi with ⟨q, _⟩
      exact q
    have hn : n[i]? = some n[i] := by simp [hon ▸ lt]
    exact turn i cc _ t u od' kvs h tk own hi hn (hon ▸ lt) hd' hl hr trivial ho F N
  · rintro h tk _ vi vc ⟨od', kvs, rfl, hd', hl, hr⟩ F N
    refine done h tk vi vc od' kvs hd' ?_ F N
    rwa [List.take_of_length_le (by simp [hon])] at hr
end
set_option maxHeartbeats 1000000 in
theorem replaced (w : World) (mean mg mb) (x o n : List Nat) (t t1 t2 : Tok) (hx : x.length ≤ 64) (ho : o.length ≤ 16) (hn : n.length ≤ 16) (h0 : o ≠ []) (hon : o.length = n.length) :
    Cl w mean mg mb 4 140 [.str (S x) t, .str (S o) t1, .str (S n) t2] [] (fun _ => True) (fun v _ _ _ => (∃ t', v = .str (S (rep o n x)) t')) := by
  k_dflt ((refine here_in ?_; k_fill; intro _; (first | (refine Mine.Cl.enter (by k_is) (by k_is) (by decide) (by w_strict (exact rfl)) (by w_strict (exact locs rfl)) ?_ (by w_strict (exact rfl)) (by w_strict (exact rfl)) (by w_strict (exact rfl)) (by decide); (intro z9dp z9un z9gd z9cn z9cs z9L z9a z9ccd z9cl z9outer z9base z9s z9g z9L' z9h₁ z9tk z9cs' z9E z9F' z9N' z9hc z9B' z9X' z9T' z9hlt z9G z9hd z9hu z9hp); subst z9hc; (try simp only [List.cons_append, List.nil_append] at z9N'); (try dsimp only)) | (refine Mine.Cl.enterC (by k_is) (by k_is) (by decide) (by w_strict (exact rfl)) (by w_strict (exact rfl)) (by w_strict (decide +kernel)) ?_ (by w_strict (exact rfl)) (by w_strict (exact rfl)) (by w_strict (exact rfl)); (intro z9dp z9un z9gd z9cn z9cs z9L z9a z9ccd z9cl z9outer z9base z9s z9g z9L' z9h₁ z9tk z9cs' z9E z9F' z9N' z9Y' z9B' z9X' z9T' z9hlt z9G z9hd z9hu z9hp); k_cells z9Y'; (try simp only [List.cons_append, List.nil_append] at z9N'); (try dsimp only)))))
  (repeat' (first | (k_unfold; (try dsimp only)) | (k_end; wrow_close) | ((with_reducible show wpAny _ _ (execs (_ :: _) _) _ _ ⟨_, _, _, _ + _, _⟩); refine absTok ?_; intro tk) | (with_reducible first | ((with_reducible show wpAny _ _ (eval (Expr.ListComp _ _ _ _) _) _ _ _); (k_here; k_dflt (refine ListComp_S (by k_asm) (by k_asm) (by w_strict (with_unfolding_all rfl)) (by decide) (by rfl) (by decide) (by rfl) ?_ (by w_strict ((intro _; rfl))); k_whole; walk1; (refine ⟨_, _, rfl, rfl, by k_asm, by k_asm, by (rw [PySem.sizeLine_eq]; omega), ?_⟩; intro g')))) | (k_here; (with_reducible show wpAny _ _ (subscriptTail _ _ (Value.str _ _) (Value.int _ _)) _ _ _); (refine item_S (by kopn_code) (by w_strict (omega)) (by w_strict (first | assumption | (simp; assumption))) (by w_strict (omega)) ?_; intro _ _)) | (k_here; (with_reducible show wpAny _ _ (call (Value.builtin "len") [Value.str _ _]) _ _ _); (refine len_S (by kopn_code) (by w_strict (((try simp only [List.length_append, List.length_cons, List.length_nil]); omega))) ?_; intro _ _)) | (k_here; (with_reducible show wpAny _ _ (compareOp CmpOp.Eq (Value.str _ _) (Value.str _ _)) _ _ _); (refine eq_S (by kopn_code) (by kopn_code) (by kopn_word) ?_))) | walk1 | (dsimp only; first | (with_reducible first | ((with_reducible show wpAny _ _ (eval (Expr.ListComp _ _ _ _) _) _ _ _); (k_here; k_dflt (refine ListComp_S (by k_asm) (by k_asm) (by w_strict (with_unfolding_all rfl)) (by decide) (by rfl) (by decide) (by rfl) ?_ (by w_strict ((intro _; rfl))); k_whole; walk1; (refine ⟨_, _, rfl, rfl, by k_asm, by k_asm, by (rw [PySem.sizeLine_eq]; omega), ?_⟩; intro g')))) | (k_here; (with_reducible show wpAny _ _ (subscriptTail _ _ (Value.str _ _) (Value.int _ _)) _ _ _); (refine item_S (by kopn_code) (by w_strict (omega)) (by w_strict (first | assumption | (simp; assumption))) (by w_strict (omega)) ?_; intro _ _)) | (k_here; (with_reducible show wpAny _ _ (call (Value.builtin "len") [Value.str _ _]) _ _ _); (refine len_S (by kopn_code) (by w_strict (((try simp only [List.length_append, List.length_cons, List.length_nil]); omega))) ?_; intro _ _)) | (k_here; (with_reducible show wpAny _ _ (compareOp CmpOp.Eq (Value.str _ _) (Value.str _ _)) _ _ _); (refine eq_S (by kopn_code) (by kopn_code) (by kopn_word) ?_))) | walk1) | (leave1; walk_say "STEP leave1"; try dsimp only) | fail "no step"))
  all_goals (try (exfalso; omega))
  rename PairSrcL _ _ _ _ _ _ _ _ _ _ _ _ => HP
  refine repl_loop (HP.at _ rfl) (by decide) hon (by assumption) ?_ ?_
  · intro i cc e t9 u9 od9 kvs9 h9 tk9 own9 hi hin hlt9 hd9 hl9 hr9 _ hoff9 F9 N9
    (repeat' (first | (k_unfold; (try dsimp only)) | (k_end; wrow_close) | ((with_reducible show wpAny _ _ (execs (_ :: _) _) _ _ ⟨_, _, _, _ + _, _⟩); refine absTok ?_; intro tk) | (with_reducible first | ((with_reducible show wpAny _ _ (eval (Expr.ListComp _ _ _ _) _) _ _ _); (k_here; k_dflt (refine ListComp_S (by k_asm) (by k_asm) (by w_strict (with_unfolding_all rfl)) (by decide) (by rfl) (by decide) (by rfl) ?_ (by w_strict ((intro _; rfl))); k_whole; walk1; (refine ⟨_, _, rfl, rfl, by k_asm, by k_asm, by (rw [PySem.sizeLine_eq]; omega), ?_⟩; intro g')))) | (k_here; (with_reducible show wpAny _ _ (subscriptTail _ _ (Value.str _ _) (Value.int _ _)) _ _ _); (refine item_S (by kopn_code) (by w_strict (omega)) (by w_strict (first | assumption | (simp; assumption))) (by w_strict (omega)) ?_; intro _ _)) | (k_here; (with_reducible show wpAny _ _ (call (Value.builtin "len") [Value.str _ _]) _ _ _); (refine len_S (by kopn_code) (by w_strict (((try simp only [List.length_append, List.length_cons, List.length_nil]); omega))) ?_; intro _ _)) | (k_here; (with_reducible show wpAny _ _ (compareOp CmpOp.Eq (Value.str _ _) (Value.str _ _)) _ _ _); (refine eq_S (by kopn_code) (by kopn_code) (by kopn_word) ?_))) | walk1 | (dsimp only; first | (with_reducible first | ((with_reducible show wpAny _ _ (eval (Expr.ListComp _ _ _ _) _) _ _ _); (k_here; k_dflt (refine ListComp_S (by k_asm) (by k_asm) (by w_strict (with_unfolding_all rfl)) (by decide) (by rfl) (by decide) (by rfl) ?_ (by w_strict ((intro _; rfl))); k_whole; walk1; (refine ⟨_, _, rfl, rfl, by k_asm, by k_asm, by (rw [PySem.sizeLine_eq]; omega), ?_⟩; intro g')))) | (k_here; (with_reducible show wpAny _ _ (subscriptTail _ _ (Value.str _ _) (Value.int _ _)) _ _ _); (refine item_S (by kopn_code) (by w_strict (omega)) (by w_strict (first | assumption | (simp; assumption))) (by w_strict (omega)) ?_; intro _ _)) | (k_here; (with_reducible show wpAny _ _ (call (Value.builtin "len") [Value.str _ _]) _ _ _); (refine len_S (by kopn_code) (by w_strict (((try simp only [List.length_append, List.length_cons, List.length_nil]); omega))) ?_; intro _ _)) | (k_here; (with_reducible show wpAny _ _ (compareOp CmpOp.Eq (Value.str _ _) (Value.str _ _)) _ _ _); (refine eq_S (by kopn_code) (by kopn_code) (by kopn_word) ?_))) | walk1) | (leave1; walk_say "STEP leave1"; try dsimp only) | fail "no step"))
    refine kda_set F9 N9 (.head ?_) hd9 (k := S [cc]) (by simp [PySem.strKind, Value.isStrOf]) (by rw [sizeLine_eq]; omega) ?_
    · intro p hp
      rcases List.mem_cons.mp hp with rfl | hp
      · k_ne
      · exact hoff9 p hp _ (.head _)
    · intro h8 o8 F8 N8 hd8
      dsimp only
      refine wpAny_execs_nil ?_
      refine InvPostN.mk (nx := [_, _]) F8 N8 ?_ ?_ rfl ⟨fun z h1 h2 => by simp [h1, h2], o8, _, rfl, hd8, ?_, ?_⟩
      · intro p hp
        simp only [List.mem_cons, List.not_mem_nil, or_false] at hp ⊢
        rcases hp with rfl | rfl
        · exact .inl rfl
        · exact .inr (.inl rfl)
      · intro p hp
        exact .tail _ (.tail _ hp)
      · exact Nat.le_trans (stored_len _ _ _) (by omega)
      · rw [take_snoc hi hin]; exact hr9.snoc _ _ _
  · intro h9 tk9 vi9 vc9 od9 kvs9 hd9 hr9 F9 N9
    (repeat' (first | (k_unfold; (try dsimp only)) | (k_end; wrow_close) | ((with_reducible show wpAny _ _ (execs (_ :: _) _) _ _ ⟨_, _, _, _ + _, _⟩); refine absTok ?_; intro tk) | (with_reducible first | ((with_reducible show wpAny _ _ (eval (Expr.ListComp _ _ _ _) _) _ _ _); (k_here; k_dflt (refine ListComp_S (by k_asm) (by k_asm) (by w_strict (with_unfolding_all rfl)) (by decide) (by rfl) (by decide) (by rfl) ?_ (by w_strict ((intro _; rfl))); k_whole; walk1; (refine ⟨_, _, rfl, rfl, by k_asm, by k_asm, by (rw [PySem.sizeLine_eq]; omega), ?_⟩; intro g')))) | (k_here; (with_reducible show wpAny _ _ (subscriptTail _ _ (Value.str _ _) (Value.int _ _)) _ _ _); (refine item_S (by kopn_code) (by w_strict (omega)) (by w_strict (first | assumption | (simp; assumption))) (by w_strict (omega)) ?_; intro _ _)) | (k_here; (with_reducible show wpAny _ _ (call (Value.builtin "len") [Value.str _ _]) _ _ _); (refine len_S (by kopn_code) (by w_strict (((try simp only [List.length_append, List.length_cons, List.length_nil]); omega))) ?_; intro _ _)) | (k_here; (with_reducible show wpAny _ _ (compareOp CmpOp.Eq (Value.str _ _) (Value.str _ _)) _ _ _); (refine eq_S (by kopn_code) (by kopn_code) (by kopn_word) ?_))) | walk1 | (dsimp only; first | (with_reducible first | ((with_reducible show wpAny _ _ (eval (Expr.ListComp _ _ _ _) _) _ _ _); (k_here; k_dflt (refine ListComp_S (by k_asm) (by k_asm) (by w_strict (with_unfolding_all rfl)) (by decide) (by rfl) (by decide) (by rfl) ?_ (by w_strict ((intro _; rfl))); k_whole; walk1; (refine ⟨_, _, rfl, rfl, by k_asm, by k_asm, by (rw [PySem.sizeLine_eq]; omega), ?_⟩; intro g')))) | (k_here; (with_reducible show wpAny _ _ (subscriptTail _ _ (Value.str _ _) (Value.int _ _)) _ _ _); (refine item_S (by kopn_code) (by w_strict (omega)) (by w_strict (first | assumption | (simp; assumption))) (by w_strict (omega)) ?_; intro _ _)) | (k_here; (with_reducible show wpAny _ _ (call (Value.builtin "len") [Value.str _ _]) _ _ _); (refine len_S (by kopn_code) (by w_strict (((try simp only [List.length_append, List.length_cons, List.length_nil]); omega))) ?_; intro _ _)) | (k_here; (with_reducible show wpAny _ _ (compareOp CmpOp.Eq (Value.str _ _) (Value.str _ _)) _ _ _); (refine eq_S (by kopn_code) (by kopn_code) (by kopn_word) ?_))) | walk1) | (leave1; walk_say "STEP leave1"; try dsimp only) | fail "no step"))
    refine comp_signs (fun i => [mapS o n (x.getD i 0)]) trivial ?_ ?_
    · rintro i v I oI C oC D m₂ ys h8 tk8 E8 hi8 ⟨c, u, hc8, rfl⟩ hC hx8 F8 N8 off8 ne8
      have hg : x.getD i 0 = c := by simp [List.getD, hc8]
      have hlk := hr9 c
      rcases hq : look (o.zip n) c with _ | e
      · rw [show mapS o n (x.getD i 0) = c by rw [hg]; simp [mapS, hq]]
        simp only [hq] at hlk
        (repeat' (first | (k_unfold; (try dsimp only)) | (k_end; wrow_close) | ((with_reducible show wpAny _ _ (execs (_ :: _) _) _ _ ⟨_, _, _, _ + _, _⟩); refine absTok ?_; intro tk) | (with_reducible first | ((with_reducible show wpAny _ _ (eval (Expr.ListComp _ _ _ _) _) _ _ _); (k_here; k_dflt (refine ListComp_S (by k_asm) (by k_asm) (by w_strict (with_unfolding_all rfl)) (by decide) (by rfl) (by decide) (by rfl) ?_ (by w_strict ((intro _; rfl))); k_whole; walk1; (refine ⟨_, _, rfl, rfl, by k_asm, by k_asm, by (rw [PySem.sizeLine_eq]; omega), ?_⟩; intro g')))) | (k_here; (with_reducible show wpAny _ _ (subscriptTail _ _ (Value.str _ _) (Value.int _ _)) _ _ _); (refine item_S (by kopn_code) (by w_strict (omega)) (by w_strict (first | assumption | (simp; assumption))) (by w_strict (omega)) ?_; intro _ _)) | (k_here; (with_reducible show wpAny _ _ (call (Value.builtin "len") [Value.str _ _]) _ _ _); (refine len_S (by kopn_code) (by w_strict (((try simp only [List.length_append, List.length_cons, List.length_nil]); omega))) ?_; intro _ _)) | (k_here; (with_reducible show wpAny _ _ (compareOp CmpOp.Eq (Value.str _ _) (Value.str _ _)) _ _ _); (refine eq_S (by kopn_code) (by kopn_code) (by kopn_word) ?_))) | walk1 | (dsimp only; first | (with_reducible first | ((with_reducible show wpAny _ _ (eval (Expr.ListComp _ _ _ _) _) _ _ _); (k_here; k_dflt (refine ListComp_S (by k_asm) (by k_asm) (by w_strict (with_unfolding_all rfl)) (by decide) (by rfl) (by decide) (by rfl) ?_ (by w_strict ((intro _; rfl))); k_whole; walk1; (refine ⟨_, _, rfl, rfl, by k_asm, by k_asm, by (rw [PySem.sizeLine_eq]; omega), ?_⟩; intro g')))) | (k_here; (with_reducible show wpAny _ _ (subscriptTail _ _ (Value.str _ _) (Value.int _ _)) _ _ _); (refine item_S (by kopn_code) (by w_strict (omega)) (by w_strict (first | assumption | (simp; assumption))) (by w_strict (omega)) ?_; intro _ _)) | (k_here; (with_reducible show wpAny _ _ (call (Value.builtin "len") [Value.str _ _]) _ _ _); (refine len_S (by kopn_code) (by w_strict (((try simp only [List.length_append, List.length_cons, List.length_nil]); omega))) ?_; intro _ _)) | (k_here; (with_reducible show wpAny _ _ (compareOp CmpOp.Eq (Value.str _ _) (Value.str _ _)) _ _ _); (refine eq_S (by kopn_code) (by kopn_code) (by kopn_word) ?_))) | walk1) | (leave1; walk_say "STEP leave1"; try dsimp only) | fail "no step"))
        refine kdg_get2 N8 (by k_mem) hd9 (by assumption) (k := S [c]) (by simp [PySem.strKind, Value.isStrOf]) none hlk ?_
        exact LCg.CompEnd.intro F8 N8 [_, _] (fun _ h => h) off8 trivial ⟨rfl, _, rfl⟩
      · rw [show mapS o n (x.getD i 0) = e by rw [hg]; simp [mapS, hq]]
        simp only [hq] at hlk
        obtain ⟨t8, hlk⟩ := hlk
        (repeat' (first | (k_unfold; (try dsimp only)) | (k_end; wrow_close) | ((with_reducible show wpAny _ _ (execs (_ :: _) _) _ _ ⟨_, _, _, _ + _, _⟩); refine absTok ?_; intro tk) | (with_reducible first | ((with_reducible show wpAny _ _ (eval (Expr.ListComp _ _ _ _) _) _ _ _); (k_here; k_dflt (refine ListComp_S (by k_asm) (by k_asm) (by w_strict (with_unfolding_all rfl)) (by decide) (by rfl) (by decide) (by rfl) ?_ (by w_strict ((intro _; rfl))); k_whole; walk1; (refine ⟨_, _, rfl, rfl, by k_asm, by k_asm, by (rw [PySem.sizeLine_eq]; omega), ?_⟩; intro g')))) | (k_here; (with_reducible show wpAny _ _ (subscriptTail _ _ (Value.str _ _) (Value.int _ _)) _ _ _); (refine item_S (by kopn_code) (by w_strict (omega)) (by w_strict (first | assumption | (simp; assumption))) (by w_strict (omega)) ?_; intro _ _)) | (k_here; (with_reducible show wpAny _ _ (call (Value.builtin "len") [Value.str _ _]) _ _ _); (refine len_S (by kopn_code) (by w_strict (((try simp only [List.length_append, List.length_cons, List.length_nil]); omega))) ?_; intro _ _)) | (k_here; (with_reducible show wpAny _ _ (compareOp CmpOp.Eq (Value.str _ _) (Value.str _ _)) _ _ _); (refine eq_S (by kopn_code) (by kopn_code) (by kopn_word) ?_))) | walk1 | (dsimp only; first | (with_reducible first | ((with_reducible show wpAny _ _ (eval (Expr.ListComp _ _ _ _) _) _ _ _); (k_here; k_dflt (refine ListComp_S (by k_asm) (by k_asm) (by w_strict (with_unfolding_all rfl)) (by decide) (by rfl) (by decide) (by rfl) ?_ (by w_strict ((intro _; rfl))); k_whole; walk1; (refine ⟨_, _, rfl, rfl, by k_asm, by k_asm, by (rw [PySem.sizeLine_eq]; omega), ?_⟩; intro g')))) | (k_here; (with_reducible show wpAny _ _ (subscriptTail _ _ (Value.str _ _) (Value.int _ _)) _ _ _); (refine item_S (by kopn_code) (by w_strict (omega)) (by w_strict (first | assumption | (simp; assumption))) (by w_strict (omega)) ?_; intro _ _)) | (k_here; (with_reducible show wpAny _ _ (call (Value.builtin "len") [Value.str _ _]) _ _ _); (refine len_S (by kopn_code) (by w_strict (((try simp only [List.length_append, List.length_cons, List.length_nil]); omega))) ?_; intro _ _)) | (k_here; (with_reducible show wpAny _ _ (compareOp CmpOp.Eq (Value.str _ _) (Value.str _ _)) _ _ _); (refine eq_S (by kopn_code) (by kopn_code) (by kopn_word) ?_))) | walk1) | (leave1; walk_say "STEP leave1"; try dsimp only) | fail "no step"))
        refine kdg_get2 N8 (by k_mem) hd9 (by assumption) (k := S [c]) (by simp [PySem.strKind, Value.isStrOf]) _ hlk ?_
        exact LCg.CompEnd.intro F8 N8 [_, _] (fun _ h => h) off8 trivial ⟨rfl, _, rfl⟩
    · intro ys hys
      (repeat' (first | (k_unfold; (try dsimp only)) | (k_end; wrow_close) | ((with_reducible show wpAny _ _ (execs (_ :: _) _) _ _ ⟨_, _, _, _ + _, _⟩); refine absTok ?_; intro tk) | (with_reducible first | ((with_reducible show wpAny _ _ (eval (Expr.ListComp _ _ _ _) _) _ _ _); (k_here; k_dflt (refine ListComp_S (by k_asm) (by k_asm) (by w_strict (with_unfolding_all rfl)) (by decide) (by rfl) (by decide) (by rfl) ?_ (by w_strict ((intro _; rfl))); k_whole; walk1; (refine ⟨_, _, rfl, rfl, by k_asm, by k_asm, by (rw [PySem.sizeLine_eq]; omega), ?_⟩; intro g')))) | (k_here; (with_reducible show wpAny _ _ (subscriptTail _ _ (Value.str _ _) (Value.int _ _)) _ _ _); (refine item_S (by kopn_code) (by w_strict (omega)) (by w_strict (first | assumption | (simp; assumption))) (by w_strict (omega)) ?_; intro _ _)) | (k_here; (with_reducible show wpAny _ _ (call (Value.builtin "len") [Value.str _ _]) _ _ _); (refine len_S (by kopn_code) (by w_strict (((try simp only [List.length_append, List.length_cons, List.length_nil]); omega))) ?_; intro _ _)) | (k_here; (with_reducible show wpAny _ _ (compareOp CmpOp.Eq (Value.str _ _) (Value.str _ _)) _ _ _); (refine eq_S (by kopn_code) (by kopn_code) (by kopn_word) ?_))) | walk1 | (dsimp only; first | (with_reducible first | ((with_reducible show wpAny _ _ (eval (Expr.ListComp _ _ _ _) _) _ _ _); (k_here; k_dflt (refine ListComp_S (by k_asm) (by k_asm) (by w_strict (with_unfolding_all rfl)) (by decide) (by rfl) (by decide) (by rfl) ?_ (by w_strict ((intro _; rfl))); k_whole; walk1; (refine ⟨_, _, rfl, rfl, by k_asm, by k_asm, by (rw [PySem.sizeLine_eq]; omega), ?_⟩; intro g')))) | (k_here; (with_reducible show wpAny _ _ (subscriptTail _ _ (Value.str _ _) (Value.int _ _)) _ _ _); (refine item_S (by kopn_code) (by w_strict (omega)) (by w_strict (first | assumption | (simp; assumption))) (by w_strict (omega)) ?_; intro _ _)) | (k_here; (with_reducible show wpAny _ _ (call (Value.builtin "len") [Value.str _ _]) _ _ _); (refine len_S (by kopn_code) (by w_strict (((try simp only [List.length_append, List.length_cons, List.length_nil]); omega))) ?_; intro _ _)) | (k_here; (with_reducible show wpAny _ _ (compareOp CmpOp.Eq (Value.str _ _) (Value.str _ _)) _ _ _); (refine eq_S (by kopn_code) (by kopn_code) (by kopn_word) ?_))) | walk1) | (leave1; walk_say "STEP leave1"; try dsimp only) | fail "no step"))
      refine join_S lit_nil (by is_list) hys ?_ ?_
      · rw [comp_flat]; simp; omega
      · intro t7 k7
        rw [comp_flat]
        (repeat' (first | (k_unfold; (try dsimp only)) | (k_end; wrow_close) | ((with_reducible show wpAny _ _ (execs (_ :: _) _) _ _ ⟨_, _, _, _ + _, _⟩); refine absTok ?_; intro tk) | (with_reducible first | ((with_reducible show wpAny _ _ (eval (Expr.ListComp _ _ _ _) _) _ _ _); (k_here; k_dflt (refine ListComp_S (by k_asm) (by k_asm) (by w_strict (with_unfolding_all rfl)) (by decide) (by rfl) (by decide) (by rfl) ?_ (by w_strict ((intro _; rfl))); k_whole; walk1; (refine ⟨_, _, rfl, rfl, by k_asm, by k_asm, by (rw [PySem.sizeLine_eq]; omega), ?_⟩; intro g')))) | (k_here; (with_reducible show wpAny _ _ (subscriptTail _ _ (Value.str _ _) (Value.int _ _)) _ _ _); (refine item_S (by kopn_code) (by w_strict (omega)) (by w_strict (first | assumption | (simp; assumption))) (by w_strict (omega)) ?_; intro _ _)) | (k_here; (with_reducible show wpAny _ _ (call (Value.builtin "len") [Value.str _ _]) _ _ _); (refine len_S (by kopn_code) (by w_strict (((try simp only [List.length_append, List.length_cons, List.length_nil]); omega))) ?_; intro _ _)) | (k_here; (with_reducible show wpAny _ _ (compareOp CmpOp.Eq (Value.str _ _) (Value.str _ _)) _ _ _); (refine eq_S (by kopn_code) (by kopn_code) (by kopn_word) ?_))) | walk1 | (dsimp only; first | (with_reducible first | ((with_reducible show wpAny _ _ (eval (Expr.ListComp _ _ _ _) _) _ _ _); (k_here; k_dflt (refine ListComp_S (by k_asm) (by k_asm) (by w_strict (with_unfolding_all rfl)) (by decide) (by rfl) (by decide) (by rfl) ?_ (by w_strict ((intro _; rfl))); k_whole; walk1; (refine ⟨_, _, rfl, rfl, by k_asm, by k_asm, by (rw [PySem.sizeLine_eq]; omega), ?_⟩; intro g')))) | (k_here; (with_reducible show wpAny _ _ (subscriptTail _ _ (Value.str _ _) (Value.int _ _)) _ _ _); (refine item_S (by kopn_code) (by w_strict (omega)) (by w_strict (first | assumption | (simp; assumption))) (by w_strict (omega)) ?_; intro _ _)) | (k_here; (with_reducible show wpAny _ _ (call (Value.builtin "len") [Value.str _ _]) _ _ _); (refine len_S (by kopn_code) (by w_strict (((try simp only [List.length_append, List.length_cons, List.length_nil]); omega))) ?_; intro _ _)) | (k_here; (with_reducible show wpAny _ _ (compareOp CmpOp.Eq (Value.str _ _) (Value.str _ _)) _ _ _); (refine eq_S (by kopn_code) (by kopn_code) (by kopn_word) ?_))) | walk1) | (leave1; walk_say "STEP leave1"; try dsimp only) | fail "no step"))
        exact EndO.mk (by assumption) (by assumption) (own' := []) (by simp) ⟨_, rfl⟩

theorem off_whole : True := by w_top off; exact trivial
/-- the number that figures write -/
def val (l : List Nat) : Nat := l.foldl (fun a c => 10 * a + (c - 48)) 0
theorem val_nil : val [] = 0 := rfl
theorem val_snoc (l : List Nat) (c : Nat) : val (l ++ [c]) = 10 * val l + (c - 48) := by simp [val]
def figs (l : List Nat) : Prop := ∀ c ∈ l, c = 49 ∨ c = 50
theorem figs_snoc {l : List Nat} {c : Nat} (h : figs (l ++ [c])) : figs l ∧ (c = 49 ∨ c = 50) :=
  ⟨fun x hx => h x (List.mem_append_left _ hx), h c (List.mem_append_right _ (List.mem_singleton.mpr rfl))⟩
theorem val_pos {l : List Nat} (h : figs l) (hn : l ≠ []) : 0 < val l := by
  rcases List.eq_nil_or_concat l with rfl | ⟨r, c, rfl⟩
  · exact absurd rfl hn
  · rw [List.concat_eq_append] at h ⊢
    have := (figs_snoc h).2
    rw [val_snoc]; omega
local macro_rules | `(tactic| walk_at "exec While BoolOp cons nil") => `(tactic| (k_here; (with_reducible show wpAny _ _ (exec (Stmt.While _ _ _ _) _) _ _ _); refine stop ?_))
local macro_rules | `(tactic| walk_at "exec While Compare cons nil") => `(tactic| (k_here; (with_reducible show wpAny _ _ (exec (Stmt.While _ _ _ _) _) _ _ _); refine stop ?_))
set_option maxHeartbeats 1000000 in
theorem whole_text (w : World) (mean mg mb) (l : List Nat) (t : Tok) (hl : figs l) (hn : l ≠ []) (hs : l.length ≤ 64) :
    Cl w mean mg mb 4 100 [.int (val l : Int) t] [] (fun _ => True) (fun v _ _ _ => (∃ t', v = .str (S l) t')) := by
  k_dflt ((refine here_in ?_; k_fill; intro _; (first | (refine Mine.Cl.enter (by k_is) (by k_is) (by decide) (by w_strict (exact rfl)) (by w_strict (exact locs rfl)) ?_ (by w_strict (exact rfl)) (by w_strict (exact rfl)) (by w_strict (exact rfl)) (by decide); (intro z9dp z9un z9gd z9cn z9cs z9L z9a z9ccd z9cl z9outer z9base z9s z9g z9L' z9h₁ z9tk z9cs' z9E z9F' z9N' z9hc z9B' z9X' z9T' z9hlt z9G z9hd z9hu z9hp); subst z9hc; (try simp only [List.cons_append, List.nil_append] at z9N'); (try dsimp only)) | (refine Mine.Cl.enterC (by k_is) (by k_is) (by decide) (by w_strict (exact rfl)) (by w_strict (exact rfl)) (by w_strict (decide +kernel)) ?_ (by w_strict (exact rfl)) (by w_strict (exact rfl)) (by w_strict (exact rfl)); (intro z9dp z9un z9gd z9cn z9cs z9L z9a z9ccd z9cl z9outer z9base z9s z9g z9L' z9h₁ z9tk z9cs' z9E z9F' z9N' z9Y' z9B' z9X' z9T' z9hlt z9G z9hd z9hu z9hp); k_cells z9Y'; (try simp only [List.cons_append, List.nil_append] at z9N'); (try dsimp only)))))
  (repeat' (first | (k_unfold; (try dsimp only)) | (k_end; wrow_close) | ((with_reducible show wpAny _ _ (execs (_ :: _) _) _ _ ⟨_, _, _, _ + _, _⟩); refine absTok ?_; intro tk) | (with_reducible first | (k_here; (with_reducible show wpAny _ _ (compareOp CmpOp.Eq (Value.str _ _) (Value.str _ _)) _ _ _); (refine eq_S (by kopn_code) (by kopn_code) (by kopn_word) ?_))) | (k_here; (with_reducible show wpAny _ _ (binaryOp Operator.Add (Value.str _ _) (Value.str _ _)) _ _ _); (refine add_S (by kopn_code) (by kopn_code) (by w_strict (((try simp only [List.length_append, List.length_cons, List.length_nil, List.length_drop, List.length_take]); omega))) ?_; intro _ _)) | walk1 | (dsimp only; first | (with_reducible first | (k_here; (with_reducible show wpAny _ _ (compareOp CmpOp.Eq (Value.str _ _) (Value.str _ _)) _ _ _); (refine eq_S (by kopn_code) (by kopn_code) (by kopn_word) ?_))) | (k_here; (with_reducible show wpAny _ _ (binaryOp Operator.Add (Value.str _ _) (Value.str _ _)) _ _ _); (refine add_S (by kopn_code) (by kopn_code) (by w_strict (((try simp only [List.length_append, List.length_cons, List.length_nil, List.length_drop, List.length_take]); omega))) ?_; intro _ _)) | walk1) | (leave1; walk_say "STEP leave1"; try dsimp only) | fail "no step"))
  have hv : (if (val l : Int) < 0 then -(val l : Int) else (val l : Int)) = (val (l.take l.length) : Int) := by
    rw [List.take_length, if_neg (by omega)]
  simp only [hv] at *
  refine unstop ?_
  (with_reducible rename Fr _ _ _ _ => F9)
  (with_reducible rename News _ _ _ _ => N9)
  refine while_g (α := Nat) (fun _ => []) (fun k => [(Str.ofString "left", .int (val (l.take k) : Int)), (Str.ofString "found", .str (S (l.drop k)))]) [] (fun k => k ≤ l.length) (fun k => k) l.length (fun _ => (by decide : [Str.ofString "left", Str.ofString "found"].Nodup)) F9 (fun _ h => nomatch h) ?_ (Nat.le_refl _) ?_
  · intro p hp
    rcases List.mem_cons.mp hp with rfl | hp
    · exact ⟨_, rfl⟩
    · rcases List.mem_singleton.mp hp with rfl
      exact ⟨_, by rw [List.drop_length, ← lit_nil]; rfl⟩
  · rintro k ts u h8 tk8 hk F8 N8
    dsimp only [kstB, List.map] at F8 hk
    simp only [List.contains_nil, Bool.false_eq_true, if_false] at F8
    clear N9 F9
    rcases k with _ | j
    · have h0 : l.drop 0 = [] → False := fun e => hn (by simpa using e)
      simp only [List.take_zero, val_nil, List.drop_zero] at F8
      (repeat' (first | (k_unfold; (try dsimp only)) | (k_end; wrow_close) | ((with_reducible show wpAny _ _ (execs (_ :: _) _) _ _ ⟨_, _, _, _ + _, _⟩); refine absTok ?_; intro tk) | (with_reducible first | (k_here; (with_reducible show wpAny _ _ (compareOp CmpOp.Eq (Value.str _ _) (Value.str _ _)) _ _ _); (refine eq_S (by kopn_code) (by kopn_code) (by kopn_word) ?_))) | (k_here; (with_reducible show wpAny _ _ (binaryOp Operator.Add (Value.str _ _) (Value.str _ _)) _ _ _); (refine add_S (by kopn_code) (by kopn_code) (by w_strict (((try simp only [List.length_append, List.length_cons, List.length_nil, List.length_drop, List.length_take]); omega))) ?_; intro _ _)) | walk1 | (dsimp only; first | (with_reducible first | (k_here; (with_reducible show wpAny _ _ (compareOp CmpOp.Eq (Value.str _ _) (Value.str _ _)) _ _ _); (refine eq_S (by kopn_code) (by kopn_code) (by kopn_word) ?_))) | (k_here; (with_reducible show wpAny _ _ (binaryOp Operator.Add (Value.str _ _) (Value.str _ _)) _ _ _); (refine add_S (by kopn_code) (by kopn_code) (by w_strict (((try simp only [List.length_append, List.length_cons, List.length_nil, List.length_drop, List.length_take]); omega))) ?_; intro _ _)) | walk1) | (leave1; walk_say "STEP leave1"; try dsimp only) | fail "no step"))
      dsimp only
      exact EndO.mk (by assumption) (by assumption) (own' := []) (by simp) ⟨_, rfl⟩
    · obtain ⟨c, hc, hc2⟩ : ∃ c, l[j]? = some c ∧ (c = 49 ∨ c = 50) := by
        have : j < l.length := hk
        exact ⟨l[j], by simp [this], hl _ (List.getElem_mem _)⟩
      have e1 : val (l.take (j + 1)) = 10 * val (l.take j) + (c - 48) := by
        rw [List.take_add_one, hc]; exact val_snoc _ _
      have e2 : l.drop j = c :: l.drop (j + 1) := by
        have lt : j < l.length := hk
        rw [List.drop_eq_getElem_cons lt]
        rw [List.getElem?_eq_getElem lt] at hc
        rw [Option.some.inj hc]
      obtain ⟨v, hv9⟩ : ∃ v, val (l.take j) = v := ⟨_, rfl⟩
      rw [hv9] at e1
      rw [e1] at F8
      have e3 : Int.fmod ((10 * v + (c - 48) : Nat) : Int) 10 = ((c - 48 : Nat) : Int) := by
        rw [Int.fmod_eq_emod_of_nonneg _ (by omega)]; omega
      have e4 : Int.fdiv ((10 * v + (c - 48) : Nat) : Int) 10 = (v : Int) := by
        rw [Int.fdiv_eq_ediv_of_nonneg _ (by omega)]; omega
      (repeat' (first | (k_unfold; (try dsimp only)) | (k_end; wrow_close) | ((with_reducible show wpAny _ _ (execs (_ :: _) _) _ _ ⟨_, _, _, _ + _, _⟩); refine absTok ?_; intro tk) | (with_reducible first | (k_here; (with_reducible show wpAny _ _ (compareOp CmpOp.Eq (Value.str _ _) (Value.str _ _)) _ _ _); (refine eq_S (by kopn_code) (by kopn_code) (by kopn_word) ?_))) | (k_here; (with_reducible show wpAny _ _ (binaryOp Operator.Add (Value.str _ _) (Value.str _ _)) _ _ _); (refine add_S (by kopn_code) (by kopn_code) (by w_strict (((try simp only [List.length_append, List.length_cons, List.length_nil, List.length_drop, List.length_take]); omega))) ?_; intro _ _)) | walk1 | (dsimp only; first | (with_reducible first | (k_here; (with_reducible show wpAny _ _ (compareOp CmpOp.Eq (Value.str _ _) (Value.str _ _)) _ _ _); (refine eq_S (by kopn_code) (by kopn_code) (by kopn_word) ?_))) | (k_here; (with_reducible show wpAny _ _ (binaryOp Operator.Add (Value.str _ _) (Value.str _ _)) _ _ _); (refine add_S (by kopn_code) (by kopn_code) (by w_strict (((try simp only [List.length_append, List.length_cons, List.length_nil, List.length_drop, List.length_take]); omega))) ?_; intro _ _)) | walk1) | (leave1; walk_say "STEP leave1"; try dsimp only) | fail "no step"))
      refine WEnd.mk j (by assumption) (by assumption) (fun _ h => nomatch h) ?_ ?_ (by omega) (Nat.lt_succ_self _)
      · intro p hp
        rcases List.mem_cons.mp hp with rfl | hp
        · exact ⟨_, congrArg (fun z => some (Value.int z _)) (e4.trans (congrArg Nat.cast hv9.symm))⟩
        · rcases List.mem_singleton.mp hp with rfl
          have e5 : [(48 + Int.fmod ((10 * v + (c - 48) : Nat) : Int) 10).toNat] ++ l.drop (j + 1) = l.drop j := by
            rw [e2, show (48 + Int.fmod ((10 * v + (c - 48) : Nat) : Int) 10).toNat = c by rw [e3]; omega]
            rfl
          exact ⟨_, congrArg (fun z => some (Value.str (S z) _)) e5⟩
      · intro z hz _
        have z1 := hz _ (.head _)
        have z2 := hz _ (.tail _ (.head _))
        simp only at z1 z2
        simp [z1, z2]

theorem off_need : True := by w_top off; exact trivial
/-- a text, as itself or as the number that it writes -/
inductive TV : Value → List Nat → Prop
  | str (l : List Nat) (t : Tok) : TV (.str (S l) t) l
  | int (l : List Nat) (t : Tok) (hl : figs l) (hn : l ≠ []) : TV (.int (val l : Int) t) l
set_option maxHeartbeats 1000000 in
theorem need_text_tv (w : World) (mean mg mb) (v : Value) (l : List Nat) (hv : TV v l) (hs : l.length ≤ 64) :
    Cl w mean mg mb 8 128 [v] [] (fun _ => True) (fun v _ _ _ => (∃ t', v = .str (S l) t')) := by
  cases hv with
  | str t =>
    k_dflt ((refine here_in ?_; k_fill; intro _; (first | (refine Mine.Cl.enter (by k_is) (by k_is) (by decide) (by w_strict (exact rfl)) (by w_strict (exact locs rfl)) ?_ (by w_strict (exact rfl)) (by w_strict (exact rfl)) (by w_strict (exact rfl)) (by decide); (intro z9dp z9un z9gd z9cn z9cs z9L z9a z9ccd z9cl z9outer z9base z9s z9g z9L' z9h₁ z9tk z9cs' z9E z9F' z9N' z9hc z9B' z9X' z9T' z9hlt z9G z9hd z9hu z9hp); subst z9hc; (try simp only [List.cons_append, List.nil_append] at z9N'); (try dsimp only)) | (refine Mine.Cl.enterC (by k_is) (by k_is) (by decide) (by w_strict (exact rfl)) (by w_strict (exact rfl)) (by w_strict (decide +kernel)) ?_ (by w_strict (exact rfl)) (by w_strict (exact rfl)) (by w_strict (exact rfl)); (intro z9dp z9un z9gd z9cn z9cs z9L z9a z9ccd z9cl z9outer z9base z9s z9g z9L' z9h₁ z9tk z9cs' z9E z9F' z9N' z9Y' z9B' z9X' z9T' z9hlt z9G z9hd z9hu z9hp); k_cells z9Y'; (try simp only [List.cons_append, List.nil_append] at z9N'); (try dsimp only)))))
    (repeat' (first | (k_unfold; (try dsimp only)) | (k_end; wrow_close) | ((with_reducible show wpAny _ _ (execs (_ :: _) _) _ _ ⟨_, _, _, _ + _, _⟩); refine absTok ?_; intro tk) | (with_reducible first | ((with_reducible show wpAny _ _ (call (Value.ref _) _) _ _ _); (k_here; k_dflt (refine Mine.Cl.useS (by k_asm) (by k_asm) (by k_asm) (by k_asm) (by k_asm) (by w_strict (first | exact rfl | assumption)) (by k_room) (by k_units) trivial (whole_text _ _ _ _ _ _ (by assumption) (by assumption) (by w_strict (omega))) ?_; intro t9 h9 tk9 F9 N9 keep9; (try k_sweep); (try dsimp only))))) | walk1 | (dsimp only; first | (with_reducible first | ((with_reducible show wpAny _ _ (call (Value.ref _) _) _ _ _); (k_here; k_dflt (refine Mine.Cl.useS (by k_asm) (by k_asm) (by k_asm) (by k_asm) (by k_asm) (by w_strict (first | exact rfl | assumption)) (by k_room) (by k_units) trivial (whole_text _ _ _ _ _ _ (by assumption) (by assumption) (by w_strict (omega))) ?_; intro t9 h9 tk9 F9 N9 keep9; (try k_sweep); (try dsimp only))))) | walk1) | (leave1; walk_say "STEP leave1"; try dsimp only) | fail "no step"))
    dsimp only
    exact EndO.mk (own' := []) (by assumption) (by assumption) (by simp) ⟨_, rfl⟩
  | int t hl hn =>
    k_dflt ((refine here_in ?_; k_fill; intro _; (first | (refine Mine.Cl.enter (by k_is) (by k_is) (by decide) (by w_strict (exact rfl)) (by w_strict (exact locs rfl)) ?_ (by w_strict (exact rfl)) (by w_strict (exact rfl)) (by w_strict (exact rfl)) (by decide); (intro z9dp z9un z9gd z9cn z9cs z9L z9a z9ccd z9cl z9outer z9base z9s z9g z9L' z9h₁ z9tk z9cs' z9E z9F' z9N' z9hc z9B' z9X' z9T' z9hlt z9G z9hd z9hu z9hp); subst z9hc; (try simp only [List.cons_append, List.nil_append] at z9N'); (try dsimp only)) | (refine Mine.Cl.enterC (by k_is) (by k_is) (by decide) (by w_strict (exact rfl)) (by w_strict (exact rfl)) (by w_strict (decide +kernel)) ?_ (by w_strict (exact rfl)) (by w_strict (exact rfl)) (by w_strict (exact rfl)); (intro z9dp z9un z9gd z9cn z9cs z9L z9a z9ccd z9cl z9outer z9base z9s z9g z9L' z9h₁ z9tk z9cs' z9E z9F' z9N' z9Y' z9B' z9X' z9T' z9hlt z9G z9hd z9hu z9hp); k_cells z9Y'; (try simp only [List.cons_append, List.nil_append] at z9N'); (try dsimp only)))))
    (repeat' (first | (k_unfold; (try dsimp only)) | (k_end; wrow_close) | ((with_reducible show wpAny _ _ (execs (_ :: _) _) _ _ ⟨_, _, _, _ + _, _⟩); refine absTok ?_; intro tk) | (with_reducible first | ((with_reducible show wpAny _ _ (call (Value.ref _) _) _ _ _); (k_here; k_dflt (refine Mine.Cl.useS (by k_asm) (by k_asm) (by k_asm) (by k_asm) (by k_asm) (by w_strict (first | exact rfl | assumption)) (by k_room) (by k_units) trivial (whole_text _ _ _ _ _ _ (by assumption) (by assumption) (by w_strict (omega))) ?_; intro t9 h9 tk9 F9 N9 keep9; (try k_sweep); (try dsimp only))))) | walk1 | (dsimp only; first | (with_reducible first | ((with_reducible show wpAny _ _ (call (Value.ref _) _) _ _ _); (k_here; k_dflt (refine Mine.Cl.useS (by k_asm) (by k_asm) (by k_asm) (by k_asm) (by k_asm) (by w_strict (first | exact rfl | assumption)) (by k_room) (by k_units) trivial (whole_text _ _ _ _ _ _ (by assumption) (by assumption) (by w_strict (omega))) ?_; intro t9 h9 tk9 F9 N9 keep9; (try k_sweep); (try dsimp only))))) | walk1) | (leave1; walk_say "STEP leave1"; try dsimp only) | fail "no step"))
    dsimp only
    exact EndO.mk (own' := []) (by assumption) (by assumption) (by simp) ⟨_, rfl⟩
theorem gsub0 {h g : Heap} {l : Addr} {xs : Array Value} (G : GSub h g (([] : List (Addr × Obj)).map (·.1))) (hl : h.IsList l xs) : g.IsList l xs := by
  obtain ⟨o, ho, r⟩ := hl
  exact ⟨o, G _ _ ho (fun h => nomatch h), r⟩

theorem off_trep : True := by w_top off; exact trivial
set_option maxHeartbeats 1000000 in
theorem trep_ok (w : World) (mean mg mb) (wv v0 v1 v2 : Value) (a : Addr) (x o n : List Nat) (h0 : TV v0 x) (h1 : TV v1 o) (h2 : TV v2 n) (hx : x.length ≤ 64) (ho : o.length ≤ 16) (hn : n.length ≤ 16) (hne : o ≠ []) (hon : o.length = n.length) :
    Cl w mean mg mb 16 168 [wv, .ref a] [] (fun h => h.IsList a [v0, v1, v2].toArray) (fun v _ _ _ => (∃ t', v = .str (S (rep o n x)) t')) := by
  k_dflt ((refine here_in ?_; k_fill; intro _; (first | (refine Mine.Cl.enter (by k_is) (by k_is) (by decide) (by w_strict (exact rfl)) (by w_strict (exact locs rfl)) ?_ (by w_strict (exact rfl)) (by w_strict (exact rfl)) (by w_strict (exact rfl)) (by decide); (intro z9dp z9un z9gd z9cn z9cs z9L z9a z9ccd z9cl z9outer z9base z9s z9g z9L' z9h₁ z9tk z9cs' z9E z9F' z9N' z9hc z9B' z9X' z9T' z9hlt z9G z9hd z9hu z9hp); subst z9hc; (try simp only [List.cons_append, List.nil_append] at z9N'); (try dsimp only)) | (refine Mine.Cl.enterC (by k_is) (by k_is) (by decide) (by w_strict (exact rfl)) (by w_strict (exact rfl)) (by w_strict (decide +kernel)) ?_ (by w_strict (exact rfl)) (by w_strict (exact rfl)) (by w_strict (exact rfl)); (intro z9dp z9un z9gd z9cn z9cs z9L z9a z9ccd z9cl z9outer z9base z9s z9g z9L' z9h₁ z9tk z9cs' z9E z9F' z9N' z9Y' z9B' z9X' z9T' z9hlt z9G z9hd z9hu z9hp); k_cells z9Y'; (try simp only [List.cons_append, List.nil_append] at z9N'); (try dsimp only)))))
  (rename GSub _ _ _ => G)
  (rename Heap.IsList _ _ _ => hL)
  have hL' := gsub0 G hL
  (repeat' (first | (k_unfold; (try dsimp only)) | (k_end; wrow_close) | ((with_reducible show wpAny _ _ (execs (_ :: _) _) _ _ ⟨_, _, _, _ + _, _⟩); refine absTok ?_; intro tk) | (with_reducible first | ((with_reducible show wpAny _ _ (call (Value.ref _) _) _ _ _); (k_here; k_dflt (refine Mine.Cl.useS (by k_asm) (by k_asm) (by k_asm) (by k_asm) (by k_asm) (by w_strict (first | exact rfl | assumption)) (by k_room) (by k_units) trivial (replaced _ _ _ _ _ _ _ _ _ _ (by w_strict (omega)) (by w_strict (omega)) (by w_strict (omega)) (by assumption) (by w_strict (omega))) ?_; intro t9 h9 tk9 F9 N9 keep9; (try k_sweep); (try dsimp only)))) | ((with_reducible show wpAny _ _ (call (Value.ref _) _) _ _ _); (k_here; k_dflt (refine Mine.Cl.useS (by k_asm) (by k_asm) (by k_asm) (by k_asm) (by k_asm) (by w_strict (first | exact rfl | assumption)) (by k_room) (by k_units) trivial (need_text_tv _ _ _ _ _ _ (by w_strict (first | assumption | exact TV.str _ _)) (by w_strict (((try simp only [rep_len, List.length_append, List.length_cons, List.length_nil]); omega)))) ?_; intro t9 h9 tk9 F9 N9 keep9; (try k_sweep); (try dsimp only)))) | ((with_reducible show wpAny _ _ (call (Value.ref _) _) _ _ _); (k_here; k_dflt (refine Mine.Cl.useS (by k_asm) (by k_asm) (by k_asm) (by k_asm) (by k_asm) (by w_strict (first | exact rfl | assumption)) (by k_room) (by k_units) trivial (whole_text _ _ _ _ _ _ (by assumption) (by assumption) (by w_strict (omega))) ?_; intro t9 h9 tk9 F9 N9 keep9; (try k_sweep); (try dsimp only)))) | (k_here; (with_reducible show wpAny _ _ (call (Value.builtin "len") [Value.str _ _]) _ _ _); (refine len_S (by kopn_code) (by w_strict (((try simp only [List.length_append, List.length_cons, List.length_nil]); omega))) ?_; intro _ _)) | (k_here; (with_reducible show wpAny _ _ (compareOp CmpOp.Eq (Value.str _ _) (Value.str _ _)) _ _ _); (refine eq_S (by kopn_code) (by kopn_code) (by kopn_word) ?_))) | walk1 | (dsimp only; first | (with_reducible first | ((with_reducible show wpAny _ _ (call (Value.ref _) _) _ _ _); (k_here; k_dflt (refine Mine.Cl.useS (by k_asm) (by k_asm) (by k_asm) (by k_asm) (by k_asm) (by w_strict (first | exact rfl | assumption)) (by k_room) (by k_units) trivial (replaced _ _ _ _ _ _ _ _ _ _ (by w_strict (omega)) (by w_strict (omega)) (by w_strict (omega)) (by assumption) (by w_strict (omega))) ?_; intro t9 h9 tk9 F9 N9 keep9; (try k_sweep); (try dsimp only)))) | ((with_reducible show wpAny _ _ (call (Value.ref _) _) _ _ _); (k_here; k_dflt (refine Mine.Cl.useS (by k_asm) (by k_asm) (by k_asm) (by k_asm) (by k_asm) (by w_strict (first | exact rfl | assumption)) (by k_room) (by k_units) trivial (need_text_tv _ _ _ _ _ _ (by w_strict (first | assumption | exact TV.str _ _)) (by w_strict (((try simp only [rep_len, List.length_append, List.length_cons, List.length_nil]); omega)))) ?_; intro t9 h9 tk9 F9 N9 keep9; (try k_sweep); (try dsimp only)))) | ((with_reducible show wpAny _ _ (call (Value.ref _) _) _ _ _); (k_here; k_dflt (refine Mine.Cl.useS (by k_asm) (by k_asm) (by k_asm) (by k_asm) (by k_asm) (by w_strict (first | exact rfl | assumption)) (by k_room) (by k_units) trivial (whole_text _ _ _ _ _ _ (by assumption) (by assumption) (by w_strict (omega))) ?_; intro t9 h9 tk9 F9 N9 keep9; (try k_sweep); (try dsimp only)))) | (k_here; (with_reducible show wpAny _ _ (call (Value.builtin "len") [Value.str _ _]) _ _ _); (refine len_S (by kopn_code) (by w_strict (((try simp only [List.length_append, List.length_cons, List.length_nil]); omega))) ?_; intro _ _)) | (k_here; (with_reducible show wpAny _ _ (compareOp CmpOp.Eq (Value.str _ _) (Value.str _ _)) _ _ _); (refine eq_S (by kopn_code) (by kopn_code) (by kopn_word) ?_))) | walk1) | (leave1; walk_say "STEP leave1"; try dsimp only) | fail "no step"))
  exact EndO.mk (own' := []) (by assumption) (by assumption) (by simp) ⟨_, rfl⟩
set_option maxHeartbeats 1000000 in
theorem replaced_none (w : World) (mean mg mb) (x o n : List Nat) (t t1 t2 : Tok) (ho : o.length ≤ 16) (hn : n.length ≤ 16) (h0 : o = [] ∨ o.length ≠ n.length) :
    Cl w mean mg mb 4 140 [.str (S x) t, .str (S o) t1, .str (S n) t2] [] (fun _ => True) (fun v _ _ _ => v = .none) := by
  by_cases h1 : o = []
  · k_dflt ((refine here_in ?_; k_fill; intro _; (first | (refine Mine.Cl.enter (by k_is) (by k_is) (by decide) (by w_strict (exact rfl)) (by w_strict (exact locs rfl)) ?_ (by w_strict (exact rfl)) (by w_strict (exact rfl)) (by w_strict (exact rfl)) (by decide); (intro z9dp z9un z9gd z9cn z9cs z9L z9a z9ccd z9cl z9outer z9base z9s z9g z9L' z9h₁ z9tk z9cs' z9E z9F' z9N' z9hc z9B' z9X' z9T' z9hlt z9G z9hd z9hu z9hp); subst z9hc; (try simp only [List.cons_append, List.nil_append] at z9N'); (try dsimp only)) | (refine Mine.Cl.enterC (by k_is) (by k_is) (by decide) (by w_strict (exact rfl)) (by w_strict (exact rfl)) (by w_strict (decide +kernel)) ?_ (by w_strict (exact rfl)) (by w_strict (exact rfl)) (by w_strict (exact rfl)); (intro z9dp z9un z9gd z9cn z9cs z9L z9a z9ccd z9cl z9outer z9base z9s z9g z9L' z9h₁ z9tk z9cs' z9E z9F' z9N' z9Y' z9B' z9X' z9T' z9hlt z9G z9hd z9hu z9hp); k_cells z9Y'; (try simp only [List.cons_append, List.nil_append] at z9N'); (try dsimp only)))))
    (repeat' (first | (k_unfold; (try dsimp only)) | (k_end; wrow_close) | ((with_reducible show wpAny _ _ (execs (_ :: _) _) _ _ ⟨_, _, _, _ + _, _⟩); refine absTok ?_; intro tk) | (with_reducible first | ((with_reducible show wpAny _ _ (call (Value.ref _) _) _ _ _); (k_here; k_dflt (refine Mine.Cl.useS (by k_asm) (by k_asm) (by k_asm) (by k_asm) (by k_asm) (by w_strict (first | exact rfl | assumption)) (by k_room) (by k_units) trivial (replaced _ _ _ _ _ _ _ _ _ _ (by w_strict (omega)) (by w_strict (omega)) (by w_strict (omega)) (by assumption) (by w_strict (omega))) ?_; intro t9 h9 tk9 F9 N9 keep9; (try k_sweep); (try dsimp only)))) | ((with_reducible show wpAny _ _ (call (Value.ref _) _) _ _ _); (k_here; k_dflt (refine Mine.Cl.useS (by k_asm) (by k_asm) (by k_asm) (by k_asm) (by k_asm) (by w_strict (first | exact rfl | assumption)) (by k_room) (by k_units) trivial (need_text_tv _ _ _ _ _ _ (by w_strict (first | assumption | exact TV.str _ _)) (by w_strict (((try simp only [rep_len, List.length_append, List.length_cons, List.length_nil]); omega)))) ?_; intro t9 h9 tk9 F9 N9 keep9; (try k_sweep); (try dsimp only)))) | ((with_reducible show wpAny _ _ (call (Value.ref _) _) _ _ _); (k_here; k_dflt (refine Mine.Cl.useS (by k_asm) (by k_asm) (by k_asm) (by k_asm) (by k_asm) (by w_strict (first | exact rfl | assumption)) (by k_room) (by k_units) trivial (whole_text _ _ _ _ _ _ (by assumption) (by assumption) (by w_strict (omega))) ?_; intro t9 h9 tk9 F9 N9 keep9; (try k_sweep); (try dsimp only)))) | (k_here; (with_reducible show wpAny _ _ (call (Value.builtin "len") [Value.str _ _]) _ _ _); (refine len_S (by kopn_code) (by w_strict (((try simp only [List.length_append, List.length_cons, List.length_nil]); omega))) ?_; intro _ _)) | (k_here; (with_reducible show wpAny _ _ (compareOp CmpOp.Eq (Value.str _ _) (Value.str _ _)) _ _ _); (refine eq_S (by kopn_code) (by kopn_code) (by kopn_word) ?_))) | walk1 | (dsimp only; first | (with_reducible first | ((with_reducible show wpAny _ _ (call (Value.ref _) _) _ _ _); (k_here; k_dflt (refine Mine.Cl.useS (by k_asm) (by k_asm) (by k_asm) (by k_asm) (by k_asm) (by w_strict (first | exact rfl | assumption)) (by k_room) (by k_units) trivial (replaced _ _ _ _ _ _ _ _ _ _ (by w_strict (omega)) (by w_strict (omega)) (by w_strict (omega)) (by assumption) (by w_strict (omega))) ?_; intro t9 h9 tk9 F9 N9 keep9; (try k_sweep); (try dsimp only)))) | ((with_reducible show wpAny _ _ (call (Value.ref _) _) _ _ _); (k_here; k_dflt (refine Mine.Cl.useS (by k_asm) (by k_asm) (by k_asm) (by k_asm) (by k_asm) (by w_strict (first | exact rfl | assumption)) (by k_room) (by k_units) trivial (need_text_tv _ _ _ _ _ _ (by w_strict (first | assumption | exact TV.str _ _)) (by w_strict (((try simp only [rep_len, List.length_append, List.length_cons, List.length_nil]); omega)))) ?_; intro t9 h9 tk9 F9 N9 keep9; (try k_sweep); (try dsimp only)))) | ((with_reducible show wpAny _ _ (call (Value.ref _) _) _ _ _); (k_here; k_dflt (refine Mine.Cl.useS (by k_asm) (by k_asm) (by k_asm) (by k_asm) (by k_asm) (by w_strict (first | exact rfl | assumption)) (by k_room) (by k_units) trivial (whole_text _ _ _ _ _ _ (by assumption) (by assumption) (by w_strict (omega))) ?_; intro t9 h9 tk9 F9 N9 keep9; (try k_sweep); (try dsimp only)))) | (k_here; (with_reducible show wpAny _ _ (call (Value.builtin "len") [Value.str _ _]) _ _ _); (refine len_S (by kopn_code) (by w_strict (((try simp only [List.length_append, List.length_cons, List.length_nil]); omega))) ?_; intro _ _)) | (k_here; (with_reducible show wpAny _ _ (compareOp CmpOp.Eq (Value.str _ _) (Value.str _ _)) _ _ _); (refine eq_S (by kopn_code) (by kopn_code) (by kopn_word) ?_))) | walk1) | (leave1; walk_say "STEP leave1"; try dsimp only) | fail "no step"))
    dsimp only
    exact EndO.mk (own' := []) (by assumption) (by assumption) (by simp) rfl
  · have h2 : o.length ≠ n.length := h0.resolve_left h1
    k_dflt ((refine here_in ?_; k_fill; intro _; (first | (refine Mine.Cl.enter (by k_is) (by k_is) (by decide) (by w_strict (exact rfl)) (by w_strict (exact locs rfl)) ?_ (by w_strict (exact rfl)) (by w_strict (exact rfl)) (by w_strict (exact rfl)) (by decide); (intro z9dp z9un z9gd z9cn z9cs z9L z9a z9ccd z9cl z9outer z9base z9s z9g z9L' z9h₁ z9tk z9cs' z9E z9F' z9N' z9hc z9B' z9X' z9T' z9hlt z9G z9hd z9hu z9hp); subst z9hc; (try simp only [List.cons_append, List.nil_append] at z9N'); (try dsimp only)) | (refine Mine.Cl.enterC (by k_is) (by k_is) (by decide) (by w_strict (exact rfl)) (by w_strict (exact rfl)) (by w_strict (decide +kernel)) ?_ (by w_strict (exact rfl)) (by w_strict (exact rfl)) (by w_strict (exact rfl)); (intro z9dp z9un z9gd z9cn z9cs z9L z9a z9ccd z9cl z9outer z9base z9s z9g z9L' z9h₁ z9tk z9cs' z9E z9F' z9N' z9Y' z9B' z9X' z9T' z9hlt z9G z9hd z9hu z9hp); k_cells z9Y'; (try simp only [List.cons_append, List.nil_append] at z9N'); (try dsimp only)))))
    (repeat' (first | (k_unfold; (try dsimp only)) | (k_end; wrow_close) | ((with_reducible show wpAny _ _ (execs (_ :: _) _) _ _ ⟨_, _, _, _ + _, _⟩); refine absTok ?_; intro tk) | (with_reducible first | ((with_reducible show wpAny _ _ (call (Value.ref _) _) _ _ _); (k_here; k_dflt (refine Mine.Cl.useS (by k_asm) (by k_asm) (by k_asm) (by k_asm) (by k_asm) (by w_strict (first | exact rfl | assumption)) (by k_room) (by k_units) trivial (replaced _ _ _ _ _ _ _ _ _ _ (by w_strict (omega)) (by w_strict (omega)) (by w_strict (omega)) (by assumption) (by w_strict (omega))) ?_; intro t9 h9 tk9 F9 N9 keep9; (try k_sweep); (try dsimp only)))) | ((with_reducible show wpAny _ _ (call (Value.ref _) _) _ _ _); (k_here; k_dflt (refine Mine.Cl.useS (by k_asm) (by k_asm) (by k_asm) (by k_asm) (by k_asm) (by w_strict (first | exact rfl | assumption)) (by k_room) (by k_units) trivial (need_text_tv _ _ _ _ _ _ (by w_strict (first | assumption | exact TV.str _ _)) (by w_strict (((try simp only [rep_len, List.length_append, List.length_cons, List.length_nil]); omega)))) ?_; intro t9 h9 tk9 F9 N9 keep9; (try k_sweep); (try dsimp only)))) | ((with_reducible show wpAny _ _ (call (Value.ref _) _) _ _ _); (k_here; k_dflt (refine Mine.Cl.useS (by k_asm) (by k_asm) (by k_asm) (by k_asm) (by k_asm) (by w_strict (first | exact rfl | assumption)) (by k_room) (by k_units) trivial (whole_text _ _ _ _ _ _ (by assumption) (by assumption) (by w_strict (omega))) ?_; intro t9 h9 tk9 F9 N9 keep9; (try k_sweep); (try dsimp only)))) | (k_here; (with_reducible show wpAny _ _ (call (Value.builtin "len") [Value.str _ _]) _ _ _); (refine len_S (by kopn_code) (by w_strict (((try simp only [List.length_append, List.length_cons, List.length_nil]); omega))) ?_; intro _ _)) | (k_here; (with_reducible show wpAny _ _ (compareOp CmpOp.Eq (Value.str _ _) (Value.str _ _)) _ _ _); (refine eq_S (by kopn_code) (by kopn_code) (by kopn_word) ?_))) | walk1 | (dsimp only; first | (with_reducible first | ((with_reducible show wpAny _ _ (call (Value.ref _) _) _ _ _); (k_here; k_dflt (refine Mine.Cl.useS (by k_asm) (by k_asm) (by k_asm) (by k_asm) (by k_asm) (by w_strict (first | exact rfl | assumption)) (by k_room) (by k_units) trivial (replaced _ _ _ _ _ _ _ _ _ _ (by w_strict (omega)) (by w_strict (omega)) (by w_strict (omega)) (by assumption) (by w_strict (omega))) ?_; intro t9 h9 tk9 F9 N9 keep9; (try k_sweep); (try dsimp only)))) | ((with_reducible show wpAny _ _ (call (Value.ref _) _) _ _ _); (k_here; k_dflt (refine Mine.Cl.useS (by k_asm) (by k_asm) (by k_asm) (by k_asm) (by k_asm) (by w_strict (first | exact rfl | assumption)) (by k_room) (by k_units) trivial (need_text_tv _ _ _ _ _ _ (by w_strict (first | assumption | exact TV.str _ _)) (by w_strict (((try simp only [rep_len, List.length_append, List.length_cons, List.length_nil]); omega)))) ?_; intro t9 h9 tk9 F9 N9 keep9; (try k_sweep); (try dsimp only)))) | ((with_reducible show wpAny _ _ (call (Value.ref _) _) _ _ _); (k_here; k_dflt (refine Mine.Cl.useS (by k_asm) (by k_asm) (by k_asm) (by k_asm) (by k_asm) (by w_strict (first | exact rfl | assumption)) (by k_room) (by k_units) trivial (whole_text _ _ _ _ _ _ (by assumption) (by assumption) (by w_strict (omega))) ?_; intro t9 h9 tk9 F9 N9 keep9; (try k_sweep); (try dsimp only)))) | (k_here; (with_reducible show wpAny _ _ (call (Value.builtin "len") [Value.str _ _]) _ _ _); (refine len_S (by kopn_code) (by w_strict (((try simp only [List.length_append, List.length_cons, List.length_nil]); omega))) ?_; intro _ _)) | (k_here; (with_reducible show wpAny _ _ (compareOp CmpOp.Eq (Value.str _ _) (Value.str _ _)) _ _ _); (refine eq_S (by kopn_code) (by kopn_code) (by kopn_word) ?_))) | walk1) | (leave1; walk_say "STEP leave1"; try dsimp only) | fail "no step"))
    all_goals (try (exfalso; omega))
    all_goals dsimp only
    all_goals exact EndO.mk (own' := []) (by assumption) (by assumption) (by simp) rfl
theorem two_mem {α : Type} {a b p : α} {r : List α} (h : p ∈ [a, b]) : p ∈ a :: b :: r := by
  rcases List.mem_cons.mp h with rfl | h
  · exact .head _
  · rw [List.mem_singleton.mp h]; exact .tail _ (.head _)
set_option maxHeartbeats 1000000 in
theorem trep_fail (w : World) (mean mg mb) (wv v0 v1 v2 : Value) (a : Addr) (x o n : List Nat) (h0 : TV v0 x) (h1 : TV v1 o) (h2 : TV v2 n) (hx : x.length ≤ 64) (ho : o.length ≤ 16) (hn : n.length ≤ 16) (hno : o = [] ∨ o.length ≠ n.length) :
    Cl w mean mg mb 16 168 [wv, .ref a] [] (fun h => h.IsList a [v0, v1, v2].toArray) (fun v _ _ own' => ∃ f d es nn, v = .ref f ∧ own' = [(f, instObj 47 d), (d, dictOf es nn)]) := by
  k_dflt ((refine here_in ?_; k_fill; intro _; (first | (refine Mine.Cl.enter (by k_is) (by k_is) (by decide) (by w_strict (exact rfl)) (by w_strict (exact locs rfl)) ?_ (by w_strict (exact rfl)) (by w_strict (exact rfl)) (by w_strict (exact rfl)) (by decide); (intro z9dp z9un z9gd z9cn z9cs z9L z9a z9ccd z9cl z9outer z9base z9s z9g z9L' z9h₁ z9tk z9cs' z9E z9F' z9N' z9hc z9B' z9X' z9T' z9hlt z9G z9hd z9hu z9hp); subst z9hc; (try simp only [List.cons_append, List.nil_append] at z9N'); (try dsimp only)) | (refine Mine.Cl.enterC (by k_is) (by k_is) (by decide) (by w_strict (exact rfl)) (by w_strict (exact rfl)) (by w_strict (decide +kernel)) ?_ (by w_strict (exact rfl)) (by w_strict (exact rfl)) (by w_strict (exact rfl)); (intro z9dp z9un z9gd z9cn z9cs z9L z9a z9ccd z9cl z9outer z9base z9s z9g z9L' z9h₁ z9tk z9cs' z9E z9F' z9N' z9Y' z9B' z9X' z9T' z9hlt z9G z9hd z9hu z9hp); k_cells z9Y'; (try simp only [List.cons_append, List.nil_append] at z9N'); (try dsimp only)))))
  (rename GSub _ _ _ => G)
  (rename Heap.IsList _ _ _ => hL)
  have hL' := gsub0 G hL
  (repeat' (first | (k_unfold; (try dsimp only)) | (k_end; wrow_close) | ((with_reducible show wpAny _ _ (execs (_ :: _) _) _ _ ⟨_, _, _, _ + _, _⟩); refine absTok ?_; intro tk) | (with_reducible first | ((with_reducible show wpAny _ _ (call (Value.ref _) _) _ _ _); (k_here; k_dflt (refine Mine.Cl.use2 (by k_asm) (by k_asm) (by k_asm) (by k_asm) (by k_asm) (by w_strict (first | exact rfl | assumption)) (by k_room) (by k_units) trivial (replaced_none _ _ _ _ _ _ _ _ _ _ (by w_strict (omega)) (by w_strict (omega)) (by assumption)) ?_; intro v9 own9 h9 tk9 R9 F9 N9 M9 keep9; subst R9; clear M9; (try k_sweep); (try dsimp only)))) | ((with_reducible show wpAny _ _ (call (Value.ref _) _) _ _ _); (k_here; k_dflt (refine Mine.Cl.useS (by k_asm) (by k_asm) (by k_asm) (by k_asm) (by k_asm) (by w_strict (first | exact rfl | assumption)) (by k_room) (by k_units) trivial (replaced _ _ _ _ _ _ _ _ _ _ (by w_strict (omega)) (by w_strict (omega)) (by w_strict (omega)) (by assumption) (by w_strict (omega))) ?_; intro t9 h9 tk9 F9 N9 keep9; (try k_sweep); (try dsimp only)))) | ((with_reducible show wpAny _ _ (call (Value.ref _) _) _ _ _); (k_here; k_dflt (refine Mine.Cl.useS (by k_asm) (by k_asm) (by k_asm) (by k_asm) (by k_asm) (by w_strict (first | exact rfl | assumption)) (by k_room) (by k_units) trivial (need_text_tv _ _ _ _ _ _ (by w_strict (first | assumption | exact TV.str _ _)) (by w_strict (((try simp only [rep_len, List.length_append, List.length_cons, List.length_nil]); omega)))) ?_; intro t9 h9 tk9 F9 N9 keep9; (try k_sweep); (try dsimp only)))) | ((with_reducible show wpAny _ _ (call (Value.ref _) _) _ _ _); (k_here; k_dflt (refine Mine.Cl.useS (by k_asm) (by k_asm) (by k_asm) (by k_asm) (by k_asm) (by w_strict (first | exact rfl | assumption)) (by k_room) (by k_units) trivial (whole_text _ _ _ _ _ _ (by assumption) (by assumption) (by w_strict (omega))) ?_; intro t9 h9 tk9 F9 N9 keep9; (try k_sweep); (try dsimp only)))) | (k_here; (with_reducible show wpAny _ _ (call (Value.builtin "len") [Value.str _ _]) _ _ _); (refine len_S (by kopn_code) (by w_strict (((try simp only [List.length_append, List.length_cons, List.length_nil]); omega))) ?_; intro _ _)) | (k_here; (with_reducible show wpAny _ _ (compareOp CmpOp.Eq (Value.str _ _) (Value.str _ _)) _ _ _); (refine eq_S (by kopn_code) (by kopn_code) (by kopn_word) ?_))) | walk1 | (dsimp only; first | (with_reducible first | ((with_reducible show wpAny _ _ (call (Value.ref _) _) _ _ _); (k_here; k_dflt (refine Mine.Cl.use2 (by k_asm) (by k_asm) (by k_asm) (by k_asm) (by k_asm) (by w_strict (first | exact rfl | assumption)) (by k_room) (by k_units) trivial (replaced_none _ _ _ _ _ _ _ _ _ _ (by w_strict (omega)) (by w_strict (omega)) (by assumption)) ?_; intro v9 own9 h9 tk9 R9 F9 N9 M9 keep9; subst R9; clear M9; (try k_sweep); (try dsimp only)))) | ((with_reducible show wpAny _ _ (call (Value.ref _) _) _ _ _); (k_here; k_dflt (refine Mine.Cl.useS (by k_asm) (by k_asm) (by k_asm) (by k_asm) (by k_asm) (by w_strict (first | exact rfl | assumption)) (by k_room) (by k_units) trivial (replaced _ _ _ _ _ _ _ _ _ _ (by w_strict (omega)) (by w_strict (omega)) (by w_strict (omega)) (by assumption) (by w_strict (omega))) ?_; intro t9 h9 tk9 F9 N9 keep9; (try k_sweep); (try dsimp only)))) | ((with_reducible show wpAny _ _ (call (Value.ref _) _) _ _ _); (k_here; k_dflt (refine Mine.Cl.useS (by k_asm) (by k_asm) (by k_asm) (by k_asm) (by k_asm) (by w_strict (first | exact rfl | assumption)) (by k_room) (by k_units) trivial (need_text_tv _ _ _ _ _ _ (by w_strict (first | assumption | exact TV.str _ _)) (by w_strict (((try simp only [rep_len, List.length_append, List.length_cons, List.length_nil]); omega)))) ?_; intro t9 h9 tk9 F9 N9 keep9; (try k_sweep); (try dsimp only)))) | ((with_reducible show wpAny _ _ (call (Value.ref _) _) _ _ _); (k_here; k_dflt (refine Mine.Cl.useS (by k_asm) (by k_asm) (by k_asm) (by k_asm) (by k_asm) (by w_strict (first | exact rfl | assumption)) (by k_room) (by k_units) trivial (whole_text _ _ _ _ _ _ (by assumption) (by assumption) (by w_strict (omega))) ?_; intro t9 h9 tk9 F9 N9 keep9; (try k_sweep); (try dsimp only)))) | (k_here; (with_reducible show wpAny _ _ (call (Value.builtin "len") [Value.str _ _]) _ _ _); (refine len_S (by kopn_code) (by w_strict (((try simp only [List.length_append, List.length_cons, List.length_nil]); omega))) ?_; intro _ _)) | (k_here; (with_reducible show wpAny _ _ (compareOp CmpOp.Eq (Value.str _ _) (Value.str _ _)) _ _ _); (refine eq_S (by kopn_code) (by kopn_code) (by kopn_word) ?_))) | walk1) | (leave1; walk_say "STEP leave1"; try dsimp only) | fail "no step"))
  exact EndO.mk (own' := [(_, _), (_, _)]) (by assumption) (by assumption) (fun p hp => two_mem hp) ⟨_, _, _, _, rfl, rfl⟩

theorem off_value : True := by w_top off; exact trivial
theorem val_digits (l : List Nat) : NumText.digitsVal l = val l := by
  unfold NumText.digitsVal val
  suffices h : ∀ a, l.foldl (fun acc c => acc * 10 + (c - 48)) a = l.foldl (fun acc c => 10 * acc + (c - 48)) a from h 0
  induction l with
  | nil => intro a; rfl
  | cons c r ih => intro a; rw [List.foldl_cons, List.foldl_cons, ih, Nat.mul_comm]
section
variable {prog : Program} {w : World} {A : Around} {E : Value → Shared → Prop} {s : Shared} {x y : Str} {l k : List Nat} {t u : Tok} {Q : Value → Shared → Prop}
theorem int_S (hl : figs l) (hn : l ≠ []) (hs : l.length ≤ 64) (h : ∀ t' k, Q (.int (val l : Int) t') { s with toks := k }) : wpAny (model prog w) A (call (.type "int") [.str (S l) t]) Q E s := by
  have hc : (S l).cps.toList = l := by simp [S]
  have e : PySem.intText? (S l) = some (val l : Int) := by
    have := intText_digits (x := S l) (fun c hcm => by rw [hc] at hcm; rcases hl c hcm with rfl | rfl <;> omega) (by rw [hc]; exact hn) (by rw [S_len]; omega)
    rw [this, hc, val_digits]
  exact KIN.call_text e (by rw [S_len]; omega) (h _ _)
theorem tw_snoc (p : Nat → Bool) (c : Nat) (hc : p c = false) : ∀ xs : List Nat, ((xs ++ [c]).takeWhile p).length ≤ xs.length
  | [] => by simp [hc]
  | a :: r => by
    have ih := tw_snoc p c hc r
    simp only [List.cons_append, List.takeWhile_cons]
    split <;> simp <;> omega
theorem tw_all (p : Nat → Bool) : ∀ l : List Nat, (∀ c ∈ l, p c = true) → l.takeWhile p = l
  | [], _ => rfl
  | a :: r, h => by
    rw [List.takeWhile_cons, if_pos (h a (.head _)), tw_all p r fun c hc => h c (.tail _ hc)]
theorem tw_some (p : Nat → Bool) : ∀ l : List Nat, ¬ (∀ c ∈ l, p c = true) → ∃ c r, l.drop (l.takeWhile p).length = c :: r ∧ p c = false
  | [], h => absurd (fun _ hc => nomatch hc) h
  | a :: r, h => by
    cases ha : p a with
    | true =>
      have hr : ¬ ∀ c ∈ r, p c = true := fun q => h fun c hc => by
        rcases List.mem_cons.mp hc with rfl | hc
        · exact ha
        · exact q c hc
      obtain ⟨c, r', e1, e2⟩ := tw_some p r hr
      exact ⟨c, r', by rw [List.takeWhile_cons, if_pos ha]; exact e1, e2⟩
    | false => exact ⟨a, r, by rw [List.takeWhile_cons, if_neg (by rw [ha]; exact Bool.false_ne_true)]; rfl, ha⟩
theorem strip_by (p : Nat → Bool) (l : List Nat) : ∃ r, Txt.stripBy p true true (S l) = S r ∧ (r = [] ↔ ∀ c ∈ l, p c = true) := by
  have hc : (S l).cps.toList = l := by simp [S]
  have hlo : PySem.stripLo p true (S l) = (l.takeWhile p).length := by simp only [PySem.stripLo, if_true, hc]
  have hhi : PySem.stripHi p true (S l) (l.takeWhile p).length = l.length - ((l.drop (l.takeWhile p).length).reverse.takeWhile p).length := by
    simp only [PySem.stripHi, if_true, hc, S_len]
  unfold Txt.stripBy
  have hs : PySem.stripped p true true (S l) = S ((l.drop (l.takeWhile p).length).take (l.length - ((l.drop (l.takeWhile p).length).reverse.takeWhile p).length - (l.takeWhile p).length)) := by
    unfold PySem.stripped
    rw [hlo, hhi, PyProof.Rows.strSub_mk, hc]
    rfl
  by_cases h : ∀ c ∈ l, p c = true
  · refine ⟨[], ?_, ⟨fun _ => h, fun _ => rfl⟩⟩
    rw [tw_all p l h] at hs hlo
    have e : (l.drop l.length).take (l.length - ((l.drop l.length).reverse.takeWhile p).length - l.length) = [] := by simp
    rw [e] at hs
    split
    · rename_i q
      simp only [PySem.stripSame, Bool.and_eq_true, beq_iff_eq] at q
      rw [hlo] at q
      have := List.eq_nil_of_length_eq_zero q.1
      rw [this]
    · exact hs
  · obtain ⟨c, r', e1, e2⟩ := tw_some p l h
    have hT := tw_snoc p c e2 r'.reverse
    rw [← List.reverse_cons, ← e1] at hT
    have hlen : l.length = (l.takeWhile p).length + (r'.length + 1) := by
      have := congrArg List.length e1
      simp only [List.length_drop, List.length_cons] at this
      omega
    rw [List.length_reverse] at hT
    split
    · refine ⟨l, rfl, ?_⟩
      constructor
      · rintro rfl; simp at hlen
      · exact fun q => absurd q h
    · refine ⟨_, hs, ?_⟩
      constructor
      · intro q
        rw [e1] at q hT
        have hk : ∃ k, l.length - ((c :: r').reverse.takeWhile p).length - (l.takeWhile p).length = k + 1 := ⟨l.length - ((c :: r').reverse.takeWhile p).length - (l.takeWhile p).length - 1, by omega⟩
        obtain ⟨k, hk⟩ := hk
        rw [hk] at q
        simp at q
      · exact fun q => absurd q h
theorem strip_figs (l : List Nat) : ∃ r, Txt.stripChars (S l) (S [49, 50]) = S r ∧ (r = [] ↔ figs l) := by
  obtain ⟨r, h1, h2⟩ := strip_by (S [49, 50]).cps.contains l
  refine ⟨r, h1, h2.trans ?_⟩
  have g : ∀ c, (S [49, 50]).cps.contains c = true ↔ (c = 49 ∨ c = 50) := by intro c; simp [S]
  exact ⟨fun h c hcm => (g c).mp (h c hcm), fun h c hcm => (g c).mpr (h c hcm)⟩
theorem stripS (hy : y = S [49, 50]) (hs : l.length ≤ 64) (h : ∀ r t' k, (r = [] ↔ figs l) → Q (.str (S r) t') { s with toks := k }) : wpAny (model prog w) A (call (.builtin "str.strip") [.str (S l) t, .str y u]) Q E s := by
  subst hy
  obtain ⟨r, e, hr⟩ := strip_figs l
  refine SC.stripChars (fun t' k => ?_) (by rw [S_len, sizeLine_eq]; omega)
  rw [e]
  exact h r t' k hr
end
set_option maxHeartbeats 1000000 in
theorem value_tv (w : World) (mean mg mb) (l : List Nat) (t : Tok) (hs : l.length ≤ 64) :
    Cl w mean mg mb 4 239 [.str (S l) t] [] (fun _ => True) (fun v _ _ _ => TV v l) := by
  by_cases hn : l = []
  · k_dflt ((refine here_in ?_; k_fill; intro _; (first | (refine Mine.Cl.enter (by k_is) (by k_is) (by decide) (by w_strict (exact rfl)) (by w_strict (exact locs rfl)) ?_ (by w_strict (exact rfl)) (by w_strict (exact rfl)) (by w_strict (exact rfl)) (by decide); (intro z9dp z9un z9gd z9cn z9cs z9L z9a z9ccd z9cl z9outer z9base z9s z9g z9L' z9h₁ z9tk z9cs' z9E z9F' z9N' z9hc z9B' z9X' z9T' z9hlt z9G z9hd z9hu z9hp); subst z9hc; (try simp only [List.cons_append, List.nil_append] at z9N'); (try dsimp only)) | (refine Mine.Cl.enterC (by k_is) (by k_is) (by decide) (by w_strict (exact rfl)) (by w_strict (exact rfl)) (by w_strict (decide +kernel)) ?_ (by w_strict (exact rfl)) (by w_strict (exact rfl)) (by w_strict (exact rfl)); (intro z9dp z9un z9gd z9cn z9cs z9L z9a z9ccd z9cl z9outer z9base z9s z9g z9L' z9h₁ z9tk z9cs' z9E z9F' z9N' z9Y' z9B' z9X' z9T' z9hlt z9G z9hd z9hu z9hp); k_cells z9Y'; (try simp only [List.cons_append, List.nil_append] at z9N'); (try dsimp only)))))
    (repeat' (first | (k_unfold; (try dsimp only)) | (k_end; wrow_close) | ((with_reducible show wpAny _ _ (execs (_ :: _) _) _ _ ⟨_, _, _, _ + _, _⟩); refine absTok ?_; intro tk) | (with_reducible first | (k_here; (with_reducible show wpAny _ _ (call (Value.type "int") [Value.str _ _]) _ _ _); (refine int_S (by assumption) (by assumption) (by w_strict (omega)) ?_; intro _ _)) | (k_here; (with_reducible show wpAny _ _ (call (Value.builtin "str.strip") [Value.str _ _, Value.str _ _]) _ _ _); (refine stripS (by kopn_code) (by w_strict (omega)) ?_; intro r9 _ _ hr9)) | (k_here; (with_reducible show wpAny _ _ (compareOp CmpOp.NotEq (Value.str _ _) (Value.str _ _)) _ _ _); (refine ne_S (by kopn_code) (by kopn_code) (by w_strict (first | (exact congrArg not (decide_eq_true (by first | assumption | exact rfl | omega))) | (exact congrArg not (decide_eq_false (by first | assumption | omega))) | exact rfl)) ?_)) | (k_here; (with_reducible show wpAny _ _ (compareOp CmpOp.Eq (Value.str _ _) (Value.str _ _)) _ _ _); (refine eq_S (by kopn_code) (by kopn_code) (by kopn_word) ?_))) | walk1 | (dsimp only; first | (with_reducible first | (k_here; (with_reducible show wpAny _ _ (call (Value.type "int") [Value.str _ _]) _ _ _); (refine int_S (by assumption) (by assumption) (by w_strict (omega)) ?_; intro _ _)) | (k_here; (with_reducible show wpAny _ _ (call (Value.builtin "str.strip") [Value.str _ _, Value.str _ _]) _ _ _); (refine stripS (by kopn_code) (by w_strict (omega)) ?_; intro r9 _ _ hr9)) | (k_here; (with_reducible show wpAny _ _ (compareOp CmpOp.NotEq (Value.str _ _) (Value.str _ _)) _ _ _); (refine ne_S (by kopn_code) (by kopn_code) (by w_strict (first | (exact congrArg not (decide_eq_true (by first | assumption | exact rfl | omega))) | (exact congrArg not (decide_eq_false (by first | assumption | omega))) | exact rfl)) ?_)) | (k_here; (with_reducible show wpAny _ _ (compareOp CmpOp.Eq (Value.str _ _) (Value.str _ _)) _ _ _); (refine eq_S (by kopn_code) (by kopn_code) (by kopn_word) ?_))) | walk1) | (leave1; walk_say "STEP leave1"; try dsimp only) | fail "no step"))
    dsimp only
    exact EndO.mk (own' := []) (by assumption) (by assumption) (by simp) (TV.str _ _)
  · by_cases hf : figs l
    · k_dflt ((refine here_in ?_; k_fill; intro _; (first | (refine Mine.Cl.enter (by k_is) (by k_is) (by decide) (by w_strict (exact rfl)) (by w_strict (exact locs rfl)) ?_ (by w_strict (exact rfl)) (by w_strict (exact rfl)) (by w_strict (exact rfl)) (by decide); (intro z9dp z9un z9gd z9cn z9cs z9L z9a z9ccd z9cl z9outer z9base z9s z9g z9L' z9h₁ z9tk z9cs' z9E z9F' z9N' z9hc z9B' z9X' z9T' z9hlt z9G z9hd z9hu z9hp); subst z9hc; (try simp only [List.cons_append, List.nil_append] at z9N'); (try dsimp only)) | (refine Mine.Cl.enterC (by k_is) (by k_is) (by decide) (by w_strict (exact rfl)) (by w_strict (exact rfl)) (by w_strict (decide +kernel)) ?_ (by w_strict (exact rfl)) (by w_strict (exact rfl)) (by w_strict (exact rfl)); (intro z9dp z9un z9gd z9cn z9cs z9L z9a z9ccd z9cl z9outer z9base z9s z9g z9L' z9h₁ z9tk z9cs' z9E z9F' z9N' z9Y' z9B' z9X' z9T' z9hlt z9G z9hd z9hu z9hp); k_cells z9Y'; (try simp only [List.cons_append, List.nil_append] at z9N'); (try dsimp only)))))
      (repeat' (first | (k_unfold; (try dsimp only)) | (k_end; wrow_close) | ((with_reducible show wpAny _ _ (execs (_ :: _) _) _ _ ⟨_, _, _, _ + _, _⟩); refine absTok ?_; intro tk) | (with_reducible first | (k_here; (with_reducible show wpAny _ _ (call (Value.type "int") [Value.str _ _]) _ _ _); (refine int_S (by assumption) (by assumption) (by w_strict (omega)) ?_; intro _ _)) | (k_here; (with_reducible show wpAny _ _ (call (Value.builtin "str.strip") [Value.str _ _, Value.str _ _]) _ _ _); (refine stripS (by kopn_code) (by w_strict (omega)) ?_; intro r9 _ _ hr9)) | (k_here; (with_reducible show wpAny _ _ (compareOp CmpOp.NotEq (Value.str _ _) (Value.str _ _)) _ _ _); (refine ne_S (by kopn_code) (by kopn_code) (by w_strict (first | (exact congrArg not (decide_eq_true (by first | assumption | exact rfl | omega))) | (exact congrArg not (decide_eq_false (by first | assumption | omega))) | exact rfl)) ?_)) | (k_here; (with_reducible show wpAny _ _ (compareOp CmpOp.Eq (Value.str _ _) (Value.str _ _)) _ _ _); (refine eq_S (by kopn_code) (by kopn_code) (by kopn_word) ?_))) | walk1 | (dsimp only; first | (with_reducible first | (k_here; (with_reducible show wpAny _ _ (call (Value.type "int") [Value.str _ _]) _ _ _); (refine int_S (by assumption) (by assumption) (by w_strict (omega)) ?_; intro _ _)) | (k_here; (with_reducible show wpAny _ _ (call (Value.builtin "str.strip") [Value.str _ _, Value.str _ _]) _ _ _); (refine stripS (by kopn_code) (by w_strict (omega)) ?_; intro r9 _ _ hr9)) | (k_here; (with_reducible show wpAny _ _ (compareOp CmpOp.NotEq (Value.str _ _) (Value.str _ _)) _ _ _); (refine ne_S (by kopn_code) (by kopn_code) (by w_strict (first | (exact congrArg not (decide_eq_true (by first | assumption | exact rfl | omega))) | (exact congrArg not (decide_eq_false (by first | assumption | omega))) | exact rfl)) ?_)) | (k_here; (with_reducible show wpAny _ _ (compareOp CmpOp.Eq (Value.str _ _) (Value.str _ _)) _ _ _); (refine eq_S (by kopn_code) (by kopn_code) (by kopn_word) ?_))) | walk1) | (leave1; walk_say "STEP leave1"; try dsimp only) | fail "no step"))
      all_goals (try (exfalso; simp_all; done))
      exact EndO.mk (own' := []) (by assumption) (by assumption) (by simp) (TV.int _ _ hf hn)
    · k_dflt ((refine here_in ?_; k_fill; intro _; (first | (refine Mine.Cl.enter (by k_is) (by k_is) (by decide) (by w_strict (exact rfl)) (by w_strict (exact locs rfl)) ?_ (by w_strict (exact rfl)) (by w_strict (exact rfl)) (by w_strict (exact rfl)) (by decide); (intro z9dp z9un z9gd z9cn z9cs z9L z9a z9ccd z9cl z9outer z9base z9s z9g z9L' z9h₁ z9tk z9cs' z9E z9F' z9N' z9hc z9B' z9X' z9T' z9hlt z9G z9hd z9hu z9hp); subst z9hc; (try simp only [List.cons_append, List.nil_append] at z9N'); (try dsimp only)) | (refine Mine.Cl.enterC (by k_is) (by k_is) (by decide) (by w_strict (exact rfl)) (by w_strict (exact rfl)) (by w_strict (decide +kernel)) ?_ (by w_strict (exact rfl)) (by w_strict (exact rfl)) (by w_strict (exact rfl)); (intro z9dp z9un z9gd z9cn z9cs z9L z9a z9ccd z9cl z9outer z9base z9s z9g z9L' z9h₁ z9tk z9cs' z9E z9F' z9N' z9Y' z9B' z9X' z9T' z9hlt z9G z9hd z9hu z9hp); k_cells z9Y'; (try simp only [List.cons_append, List.nil_append] at z9N'); (try dsimp only)))))
      (repeat' (first | (k_unfold; (try dsimp only)) | (k_end; wrow_close) | ((with_reducible show wpAny _ _ (execs (_ :: _) _) _ _ ⟨_, _, _, _ + _, _⟩); refine absTok ?_; intro tk) | (with_reducible first | (k_here; (with_reducible show wpAny _ _ (call (Value.type "int") [Value.str _ _]) _ _ _); (refine int_S (by assumption) (by assumption) (by w_strict (omega)) ?_; intro _ _)) | (k_here; (with_reducible show wpAny _ _ (call (Value.builtin "str.strip") [Value.str _ _, Value.str _ _]) _ _ _); (refine stripS (by kopn_code) (by w_strict (omega)) ?_; intro r9 _ _ hr9)) | (k_here; (with_reducible show wpAny _ _ (compareOp CmpOp.NotEq (Value.str _ _) (Value.str _ _)) _ _ _); (refine ne_S (by kopn_code) (by kopn_code) (by w_strict (first | (exact congrArg not (decide_eq_true (by first | assumption | exact rfl | omega))) | (exact congrArg not (decide_eq_false (by first | assumption | omega))) | exact rfl)) ?_)) | (k_here; (with_reducible show wpAny _ _ (compareOp CmpOp.Eq (Value.str _ _) (Value.str _ _)) _ _ _); (refine eq_S (by kopn_code) (by kopn_code) (by kopn_word) ?_))) | walk1 | (dsimp only; first | (with_reducible first | (k_here; (with_reducible show wpAny _ _ (call (Value.type "int") [Value.str _ _]) _ _ _); (refine int_S (by assumption) (by assumption) (by w_strict (omega)) ?_; intro _ _)) | (k_here; (with_reducible show wpAny _ _ (call (Value.builtin "str.strip") [Value.str _ _, Value.str _ _]) _ _ _); (refine stripS (by kopn_code) (by w_strict (omega)) ?_; intro r9 _ _ hr9)) | (k_here; (with_reducible show wpAny _ _ (compareOp CmpOp.NotEq (Value.str _ _) (Value.str _ _)) _ _ _); (refine ne_S (by kopn_code) (by kopn_code) (by w_strict (first | (exact congrArg not (decide_eq_true (by first | assumption | exact rfl | omega))) | (exact congrArg not (decide_eq_false (by first | assumption | omega))) | exact rfl)) ?_)) | (k_here; (with_reducible show wpAny _ _ (compareOp CmpOp.Eq (Value.str _ _) (Value.str _ _)) _ _ _); (refine eq_S (by kopn_code) (by kopn_code) (by kopn_word) ?_))) | walk1) | (leave1; walk_say "STEP leave1"; try dsimp only) | fail "no step"))
      all_goals (try (exfalso; simp_all; done))
      exact EndO.mk (own' := []) (by assumption) (by assumption) (by simp) (TV.str _ _)

theorem off_by : True := by w_top off; exact trivial
set_option maxHeartbeats 1000000 in
theorem by_ok (w : World) (mean mg mb) (wv : Value) (x o n : List Nat) (t t1 t2 : Tok) (hx : x.length ≤ 64) (ho : o.length ≤ 16) (hn : n.length ≤ 16) (hne : o ≠ []) (hon : o.length = n.length) :
    Cl w mean mg mb 24 246 [wv, .str (S x) t, .str (S o) t1, .str (S n) t2] [] (fun _ => True) (fun v _ _ _ => (∃ t', v = .str (S (rep o n x)) t')) := by
  k_dflt ((refine here_in ?_; k_fill; intro _; (first | (refine Mine.Cl.enter (by k_is) (by k_is) (by decide) (by w_strict (exact rfl)) (by w_strict (exact locs rfl)) ?_ (by w_strict (exact rfl)) (by w_strict (exact rfl)) (by w_strict (exact rfl)) (by decide); (intro z9dp z9un z9gd z9cn z9cs z9L z9a z9ccd z9cl z9outer z9base z9s z9g z9L' z9h₁ z9tk z9cs' z9E z9F' z9N' z9hc z9B' z9X' z9T' z9hlt z9G z9hd z9hu z9hp); subst z9hc; (try simp only [List.cons_append, List.nil_append] at z9N'); (try dsimp only)) | (refine Mine.Cl.enterC (by k_is) (by k_is) (by decide) (by w_strict (exact rfl)) (by w_strict (exact rfl)) (by w_strict (decide +kernel)) ?_ (by w_strict (exact rfl)) (by w_strict (exact rfl)) (by w_strict (exact rfl)); (intro z9dp z9un z9gd z9cn z9cs z9L z9a z9ccd z9cl z9outer z9base z9s z9g z9L' z9h₁ z9tk z9cs' z9E z9F' z9N' z9Y' z9B' z9X' z9T' z9hlt z9G z9hd z9hu z9hp); k_cells z9Y'; (try simp only [List.cons_append, List.nil_append] at z9N'); (try dsimp only)))))
  (repeat' (first | (k_unfold; (try dsimp only)) | (k_end; wrow_close) | ((with_reducible show wpAny _ _ (execs (_ :: _) _) _ _ ⟨_, _, _, _ + _, _⟩); refine absTok ?_; intro tk) | (with_reducible first | ((with_reducible show wpAny _ _ (call (Value.ref _) _) _ _ _); (k_here; k_dflt (refine Mine.Cl.useS (by k_asm) (by k_asm) (by k_asm) (by k_asm) (by k_asm) (by w_strict (first | exact rfl | assumption)) (by k_room) (by k_units) (by is_list) (trep_ok _ _ _ _ _ _ _ _ _ _ _ _ (by assumption) (by assumption) (by assumption) (by w_strict (omega)) (by w_strict (omega)) (by w_strict (omega)) (by assumption) (by w_strict (omega))) ?_; intro t9 h9 tk9 F9 N9 keep9; (try k_sweep); (try dsimp only)))) | ((with_reducible show wpAny _ _ (call (Value.ref _) _) _ _ _); (k_here; k_dflt (refine Mine.Cl.use2 (by k_asm) (by k_asm) (by k_asm) (by k_asm) (by k_asm) (by w_strict (first | exact rfl | assumption)) (by k_room) (by k_units) trivial (value_tv _ _ _ _ _ _ (by w_strict (((try simp only [rep_len, List.length_append, List.length_cons, List.length_nil]); omega)))) ?_; intro v9 own9 h9 tk9 R9 F9 N9 M9 keep9; clear M9; (try k_sweep); (try dsimp only))))) | walk1 | (dsimp only; first | (with_reducible first | ((with_reducible show wpAny _ _ (call (Value.ref _) _) _ _ _); (k_here; k_dflt (refine Mine.Cl.useS (by k_asm) (by k_asm) (by k_asm) (by k_asm) (by k_asm) (by w_strict (first | exact rfl | assumption)) (by k_room) (by k_units) (by is_list) (trep_ok _ _ _ _ _ _ _ _ _ _ _ _ (by assumption) (by assumption) (by assumption) (by w_strict (omega)) (by w_strict (omega)) (by w_strict (omega)) (by assumption) (by w_strict (omega))) ?_; intro t9 h9 tk9 F9 N9 keep9; (try k_sweep); (try dsimp only)))) | ((with_reducible show wpAny _ _ (call (Value.ref _) _) _ _ _); (k_here; k_dflt (refine Mine.Cl.use2 (by k_asm) (by k_asm) (by k_asm) (by k_asm) (by k_asm) (by w_strict (first | exact rfl | assumption)) (by k_room) (by k_units) trivial (value_tv _ _ _ _ _ _ (by w_strict (((try simp only [rep_len, List.length_append, List.length_cons, List.length_nil]); omega)))) ?_; intro v9 own9 h9 tk9 R9 F9 N9 M9 keep9; clear M9; (try k_sweep); (try dsimp only))))) | walk1) | (leave1; walk_say "STEP leave1"; try dsimp only) | fail "no step"))
  exact EndO.mk (own' := []) (by assumption) (by assumption) (by simp) ⟨_, rfl⟩

theorem off_slices : True := by w_top off; exact trivial
section
variable {prog : Program} {w : World} {A : Around} {E : Value → Shared → Prop} {s : Shared} {x : List Nat} {t : Tok} {Q : Value → Shared → Prop} {h₀ : Heap} {L : Addr} {m : Str → Option Value} {news : List (Addr × Obj)} {value slice : Expr}
theorem S_toList (x : List Nat) : (S x).cps.toList = x := by simp [S]
theorem fm_map {f : Nat → Option Nat} {g : Nat → Nat} : ∀ {l : List Nat}, (∀ k ∈ l, f k = some (g k)) → l.filterMap f = l.map g
  | [], _ => rfl
  | a :: r, h => by rw [List.filterMap_cons, h a (.head _), List.map_cons, fm_map fun k hk => h k (.tail _ hk)]
theorem rev_picked (x : List Nat) : ((Builtin.Str.strSliceIndices none none (-1) x.length).filterMap (x.toArray[·]?)).toArray = x.reverse.toArray := by
  congr 1
  have e : Builtin.Str.strSliceIndices none none (-1) x.length = (List.range x.length).map fun k => x.length - 1 - k := by
    unfold Builtin.Str.strSliceIndices sliceRange
    simp only [show ¬ ((-1 : Int) > 0) by decide, if_false]
    have hc : (if (x.length : Int) - 1 > -1 then ((x.length : Int) - 1 - -1 - -1 - 1) / (- -1) else 0).toNat = x.length := by
      split
      · rw [show (- -1 : Int) = 1 from rfl, Int.ediv_one]; omega
      · omega
    rw [hc]
    refine List.map_congr_left fun k hk => ?_
    have := List.mem_range.mp hk
    omega
  rw [e, List.filterMap_map]
  apply List.ext_getElem?
  intro i
  have h1 : ((List.range x.length).filterMap ((fun (i : Nat) => x.toArray[i]?) ∘ fun k => x.length - 1 - k)) = (List.range x.length).map fun k => x.getD (x.length - 1 - k) 0 := by
    refine fm_map fun k hk => ?_
    have := List.mem_range.mp hk
    have lt : x.length - 1 - k < x.length := by omega
    simp [lt]
  rw [h1]
  by_cases hi : i < x.length
  · have lt : x.length - 1 - i < x.length := by omega
    simp [hi, lt, List.getElem?_reverse]
  · simp [hi]
theorem slice_rev {u : Tok} (hF : Fr h₀ L s.heap m) (hN : News h₀ L s.heap news) (hs : x.length ≤ 64) (h : ∀ h' t' k, Fr h₀ L h' m → News h₀ L h' news → Q (.str (S x.reverse) t') { s with heap := h', toks := k })
    (hsub : subscripted slice false (.str (S x) t) (.ref s.heap.objs.size) = operate [.ref s.heap.objs.size, .str (S x) t] (getItem (.str (S x) t) (.ref s.heap.objs.size)) := by with_unfolding_all rfl)
    (ht : ∀ r, letTemporaryGo value (.str (S x) t) r = pure () := by intro _; with_unfolding_all rfl) :
    wpAny (model prog w) A (subscriptTail value slice (.str (S x) t) (.ref s.heap.objs.size)) Q E { s with heap := s.heap.push { cls := .type "slice", data := .fields #[.none, .none, .int (-1) u] } } := by
  refine tail_of_ItemOn ⟨"str", _, F.slot_str_getitem.lookup, typeIs_str _ _ _, wpAny_getItem_str_slice (l := none) (u := none) (st := some (-1, u)) ⟨_, Heap.get?_push_size _ rfl, rfl, rfl⟩ rfl ?_⟩ hsub ht
  have e : sliceMade (S x) t none none (some (-1, u)) = .str (S x.reverse) := by
    unfold sliceMade slicePicked
    simp only [Option.map_some, Option.getD_some, show ((-1 : Int) == 1) = false from rfl, Bool.false_and, Bool.false_eq_true, if_false, Option.map_none, S_len]
    congr 1
    show PySem.Str.mk _ = PySem.Str.mk _
    rw [← rev_picked x]
    rfl
  rw [e]
  exact ⟨by rw [S_len, List.length_reverse, sizeLine_eq]; omega, h _ _ _ (hF.push _) (fun p hp => ⟨Heap.get?_push_of_some _ (hN p hp).1, (hN p hp).2⟩)⟩
theorem slice_from_S {i : Int} (h0 : 0 ≤ i) (h1 : i ≤ x.length) : Txt.slice (S x) (some i) none = S (x.drop i.toNat) := by
  have := slice_from_eq (x := S x) (b := (x.length : Int)) h0 (by rw [S_len]; exact h1) (by rw [S_len])
  rw [this, S_toList]
  show PySem.Str.mk _ = PySem.Str.mk _
  congr 2
  rw [List.take_of_length_le]
  rw [List.length_drop]; omega
theorem slice_ss_S {i j : Int} (h0 : 0 ≤ i) (h1 : i ≤ j) (h2 : j ≤ x.length) : Txt.slice (S x) (some i) (some j) = S ((x.drop i.toNat).take (j - i).toNat) := by
  have := slice_closesL (x := S x) h0 h1 (by rw [S_len]; exact h2)
  rw [beq_iff_eq.mp this, S_toList]; rfl
theorem slice_to_S {j : Int} (h0 : 0 ≤ j) (h2 : j ≤ x.length) : Txt.slice (S x) none (some j) = S (x.take j.toNat) := by
  have := slice_closes_toL (x := S x) h0 (by rw [S_len]; exact h2)
  rw [beq_iff_eq.mp this, S_toList]
  simp [S]
theorem slice_sn_S {i : Int} {ui : Tok} (hF : Fr h₀ L s.heap m) (hN : News h₀ L s.heap news) (hs : x.length ≤ 64) (h0 : 0 ≤ i) (h1 : i ≤ x.length) (h : ∀ h' t' k, Fr h₀ L h' m → News h₀ L h' news → Q (.str (S (x.drop i.toNat)) t') { s with heap := h', toks := k })
    (hsub : subscripted slice false (.str (S x) t) (.ref s.heap.objs.size) = operate [.ref s.heap.objs.size, .str (S x) t] (getItem (.str (S x) t) (.ref s.heap.objs.size)) := by with_unfolding_all rfl)
    (ht : ∀ r, letTemporaryGo value (.str (S x) t) r = pure () := by intro _; with_unfolding_all rfl) :
    wpAny (model prog w) A (subscriptTail value slice (.str (S x) t) (.ref s.heap.objs.size)) Q E { s with heap := s.heap.push { cls := .type "slice", data := .fields #[.int i ui, .none, .none] } } :=
  slice_strN_sn hF hN (fun h' t' k a b => by rw [slice_from_S h0 h1]; exact h h' t' k a b) hsub ht (by rw [S_len, sizeLine_eq]; omega)
theorem slice_ns_S {j : Int} {ui : Tok} (hF : Fr h₀ L s.heap m) (hN : News h₀ L s.heap news) (hs : x.length ≤ 64) (h0 : 0 ≤ j) (h1 : j ≤ x.length) (h : ∀ h' t' k, Fr h₀ L h' m → News h₀ L h' news → Q (.str (S (x.take j.toNat)) t') { s with heap := h', toks := k })
    (hsub : subscripted slice false (.str (S x) t) (.ref s.heap.objs.size) = operate [.ref s.heap.objs.size, .str (S x) t] (getItem (.str (S x) t) (.ref s.heap.objs.size)) := by with_unfolding_all rfl)
    (ht : ∀ r, letTemporaryGo value (.str (S x) t) r = pure () := by intro _; with_unfolding_all rfl) :
    wpAny (model prog w) A (subscriptTail value slice (.str (S x) t) (.ref s.heap.objs.size)) Q E { s with heap := s.heap.push { cls := .type "slice", data := .fields #[.none, .int j ui, .none] } } :=
  slice_strN_ns hF hN (fun h' t' k a b => by rw [slice_to_S h0 h1]; exact h h' t' k a b) hsub ht (by rw [S_len, sizeLine_eq]; omega)
theorem slice_ss_S' {i j : Int} {ui uj : Tok} (hF : Fr h₀ L s.heap m) (hN : News h₀ L s.heap news) (hs : x.length ≤ 64) (h0 : 0 ≤ i) (h1 : i ≤ j) (h2 : j ≤ x.length) (h : ∀ h' t' k, Fr h₀ L h' m → News h₀ L h' news → Q (.str (S ((x.drop i.toNat).take (j - i).toNat)) t') { s with heap := h', toks := k })
    (hsub : subscripted slice false (.str (S x) t) (.ref s.heap.objs.size) = operate [.ref s.heap.objs.size, .str (S x) t] (getItem (.str (S x) t) (.ref s.heap.objs.size)) := by with_unfolding_all rfl)
    (ht : ∀ r, letTemporaryGo value (.str (S x) t) r = pure () := by intro _; with_unfolding_all rfl) :
    wpAny (model prog w) A (subscriptTail value slice (.str (S x) t) (.ref s.heap.objs.size)) Q E { s with heap := s.heap.push { cls := .type "slice", data := .fields #[.int i ui, .int j uj, .none] } } :=
  slice_strN_ss hF hN (fun h' t' k a b => by rw [slice_ss_S h0 h1 h2]; exact h h' t' k a b) hsub ht (by rw [S_len, sizeLine_eq]; omega)
end
theorem isl2 {g g' h : Heap} {L1 L2 : Addr} {m1 m2 : Str → Option Value} {a : Addr} {xs : Array Value} (x : g.IsList a xs) (F1 : Fr g L1 g' m1) (F2 : Fr g' L2 h m2) : h.IsList a xs := by
  obtain ⟨o, ho, r⟩ := x
  exact ⟨o, F2.keep _ _ (F1.keep _ _ ho), r⟩
local macro_rules | `(tactic| is_list) => `(tactic| exact isl2 (by assumption) (by assumption) (by assumption))

theorem off_ops : True := by w_top off; exact trivial
/-- the world, as an object that stands below -/
def WAt (h : Heap) (a : Addr) : Prop := ∃ d es n sl, h.get? a = some (⟨.ref 221, some d, .plain, sl⟩ : Obj) ∧ h.get? d = some (dictOf es n) ∧ (∃ t, getL (Str.ofString "width") es = some (some (.int 32 t))) ∧ (∃ t, getL (Str.ofString "most_length") es = some (some (.int 5000 t)))
theorem WAt.keeps {h h' : Heap} {a : Addr} (x : WAt h a) (k : ∀ b o, h.get? b = some o → h'.get? b = some o) : WAt h' a := by
  obtain ⟨d, es, n, sl, h1, h2, r⟩ := x
  exact ⟨d, es, n, sl, k _ _ h1, k _ _ h2, r⟩
theorem gsubW {h g : Heap} {a : Addr} (G : GSub h g (([] : List (Addr × Obj)).map (·.1))) (x : WAt h a) : WAt g a := x.keeps fun b o e => G b o e (fun h => nomatch h)
section
variable {w : World} {A : Around} {E : Value → Shared → Prop} {s : Shared} {h₀ : Heap} {L a : Addr} {m : Str → Option Value} {Q : Value → Shared → Prop} {attr : Option Value} {expr : Bool}
theorem world_width (F : Fr h₀ L s.heap m) (X₀ : (kf w.params).In h₀) (W : WAt h₀ a) (hg : plainGet (kf w.params) 221 (Str.ofString "width") = true) (hh : hasDictIn (kf w.params) 221 = true)
    (ha : findIn (kf w.params) (.ref 221) (Str.ofString "width") = some attr) (hn : noGet (kf w.params) attr = true) (h : ∀ t, Q (.int 32 t) { s with toks := s.toks + 1 }) :
    wpAny (model pg w) A (getAttr (.ref a) (Str.ofString "width") expr) Q E s := by
  obtain ⟨d, es, n, sl, h1, h2, ⟨t, e⟩, _⟩ := W
  exact get_own F X₀ (ox := ⟨.ref 221, some d, .plain, sl⟩) (es := es) (n := n) ⟨F.keep _ _ h1, rfl, rfl, F.keep _ _ h2⟩ hg hh ha hn e rfl (h t)
theorem world_most (F : Fr h₀ L s.heap m) (X₀ : (kf w.params).In h₀) (W : WAt h₀ a) (hg : plainGet (kf w.params) 221 (Str.ofString "most_length") = true) (hh : hasDictIn (kf w.params) 221 = true)
    (ha : findIn (kf w.params) (.ref 221) (Str.ofString "most_length") = some attr) (hn : noGet (kf w.params) attr = true) (h : ∀ t, Q (.int 5000 t) { s with toks := s.toks + 1 }) :
    wpAny (model pg w) A (getAttr (.ref a) (Str.ofString "most_length") expr) Q E s := by
  obtain ⟨d, es, n, sl, h1, h2, _, ⟨t, e⟩⟩ := W
  exact get_own F X₀ (ox := ⟨.ref 221, some d, .plain, sl⟩) (es := es) (n := n) ⟨F.keep _ _ h1, rfl, rfl, F.keep _ _ h2⟩ hg hh ha hn e rfl (h t)
end
set_option maxHeartbeats 1000000 in
theorem rev_cl (w : World) (mean mg mb) (wv v0 : Value) (a : Addr) (x : List Nat) (h0 : TV v0 x) (hx : x.length ≤ 64) :
    Cl w mean mg mb 16 182 [wv, .ref a] [] (fun h => h.IsList a [v0].toArray) (fun v _ _ _ => (∃ t', v = .str (S x.reverse) t')) := by
  k_dflt ((refine here_in ?_; k_fill; intro _; (first | (refine Mine.Cl.enter (by k_is) (by k_is) (by decide) (by w_strict (exact rfl)) (by w_strict (exact locs rfl)) ?_ (by w_strict (exact rfl)) (by w_strict (exact rfl)) (by w_strict (exact rfl)) (by decide); (intro z9dp z9un z9gd z9cn z9cs z9L z9a z9ccd z9cl z9outer z9base z9s z9g z9L' z9h₁ z9tk z9cs' z9E z9F' z9N' z9hc z9B' z9X' z9T' z9hlt z9G z9hd z9hu z9hp); subst z9hc; (try simp only [List.cons_append, List.nil_append] at z9N'); (try dsimp only)) | (refine Mine.Cl.enterC (by k_is) (by k_is) (by decide) (by w_strict (exact rfl)) (by w_strict (exact rfl)) (by w_strict (decide +kernel)) ?_ (by w_strict (exact rfl)) (by w_strict (exact rfl)) (by w_strict (exact rfl)); (intro z9dp z9un z9gd z9cn z9cs z9L z9a z9ccd z9cl z9outer z9base z9s z9g z9L' z9h₁ z9tk z9cs' z9E z9F' z9N' z9Y' z9B' z9X' z9T' z9hlt z9G z9hd z9hu z9hp); k_cells z9Y'; (try simp only [List.cons_append, List.nil_append] at z9N'); (try dsimp only)))))
  (rename GSub _ _ _ => G)
  (rename Heap.IsList _ _ _ => hL)
  have hL' := gsub0 G hL
  (repeat' (first | (k_unfold; (try dsimp only)) | (k_end; wrow_close) | ((with_reducible show wpAny _ _ (execs (_ :: _) _) _ _ ⟨_, _, _, _ + _, _⟩); refine absTok ?_; intro tk) | (with_reducible first | ((with_reducible show wpAny _ _ (getAttr (Value.ref _) _ _) _ _ _); (k_here; k_dflt (first | ((with_reducible show wpAny _ _ (getAttr (Value.ref _) (PySem.Str.ofString "width") _) _ _ _); refine' world_width ?k1 ?k2 ?k3 ?k4 ?k5 ?k6 ?k7 ?_; (case k1 => k_asm); (case k2 => k_asm); (case k3 => first | assumption | exact WAt.keeps (by assumption) (Fr.keep (by k_asm))); (case k4 => k_is); (case k5 => k_is); (case k6 => k_is); (case k7 => k_is); k_whole; intro _) | ((with_reducible show wpAny _ _ (getAttr (Value.ref _) (PySem.Str.ofString "most_length") _) _ _ _); refine' world_most ?k1 ?k2 ?k3 ?k4 ?k5 ?k6 ?k7 ?_; (case k1 => k_asm); (case k2 => k_asm); (case k3 => first | assumption | exact WAt.keeps (by assumption) (Fr.keep (by k_asm))); (case k4 => k_is); (case k5 => k_is); (case k6 => k_is); (case k7 => k_is); k_whole; intro _)))) | (k_here; (with_reducible show wpAny _ _ (subscriptTail _ (Expr.Slice none none (some _) _) (Value.str _ _) (Value.ref _)) _ _ _); k_dflt (refine slice_rev (by k_asm) (by k_asm) (by w_strict (omega)) ?_; intro h9 _ _ F9 N9)) | ((with_reducible show wpAny _ _ (call (Value.ref _) _) _ _ _); (k_here; k_dflt (refine Mine.Cl.useS (by k_asm) (by k_asm) (by k_asm) (by k_asm) (by k_asm) (by w_strict (first | exact rfl | assumption)) (by k_room) (by k_units) trivial (need_text_tv _ _ _ _ _ _ (by w_strict (first | assumption | exact TV.str _ _)) (by w_strict (((try simp only [rep_len, List.length_append, List.length_cons, List.length_nil]); omega)))) ?_; intro t9 h9 tk9 F9 N9 keep9; (try k_sweep); (try dsimp only)))) | (k_here; (with_reducible show wpAny _ _ (call (Value.builtin "len") [Value.str _ _]) _ _ _); (refine len_S (by kopn_code) (by w_strict (((try simp only [List.length_append, List.length_cons, List.length_nil]); omega))) ?_; intro _ _))) | walk1 | (dsimp only; first | (with_reducible first | ((with_reducible show wpAny _ _ (getAttr (Value.ref _) _ _) _ _ _); (k_here; k_dflt (first | ((with_reducible show wpAny _ _ (getAttr (Value.ref _) (PySem.Str.ofString "width") _) _ _ _); refine' world_width ?k1 ?k2 ?k3 ?k4 ?k5 ?k6 ?k7 ?_; (case k1 => k_asm); (case k2 => k_asm); (case k3 => first | assumption | exact WAt.keeps (by assumption) (Fr.keep (by k_asm))); (case k4 => k_is); (case k5 => k_is); (case k6 => k_is); (case k7 => k_is); k_whole; intro _) | ((with_reducible show wpAny _ _ (getAttr (Value.ref _) (PySem.Str.ofString "most_length") _) _ _ _); refine' world_most ?k1 ?k2 ?k3 ?k4 ?k5 ?k6 ?k7 ?_; (case k1 => k_asm); (case k2 => k_asm); (case k3 => first | assumption | exact WAt.keeps (by assumption) (Fr.keep (by k_asm))); (case k4 => k_is); (case k5 => k_is); (case k6 => k_is); (case k7 => k_is); k_whole; intro _)))) | (k_here; (with_reducible show wpAny _ _ (subscriptTail _ (Expr.Slice none none (some _) _) (Value.str _ _) (Value.ref _)) _ _ _); k_dflt (refine slice_rev (by k_asm) (by k_asm) (by w_strict (omega)) ?_; intro h9 _ _ F9 N9)) | ((with_reducible show wpAny _ _ (call (Value.ref _) _) _ _ _); (k_here; k_dflt (refine Mine.Cl.useS (by k_asm) (by k_asm) (by k_asm) (by k_asm) (by k_asm) (by w_strict (first | exact rfl | assumption)) (by k_room) (by k_units) trivial (need_text_tv _ _ _ _ _ _ (by w_strict (first | assumption | exact TV.str _ _)) (by w_strict (((try simp only [rep_len, List.length_append, List.length_cons, List.length_nil]); omega)))) ?_; intro t9 h9 tk9 F9 N9 keep9; (try k_sweep); (try dsimp only)))) | (k_here; (with_reducible show wpAny _ _ (call (Value.builtin "len") [Value.str _ _]) _ _ _); (refine len_S (by kopn_code) (by w_strict (((try simp only [List.length_append, List.length_cons, List.length_nil]); omega))) ?_; intro _ _))) | walk1) | (leave1; walk_say "STEP leave1"; try dsimp only) | fail "no step"))
  exact EndO.mk (own' := []) (by assumption) (by assumption) (by simp) ⟨_, rfl⟩
theorem foldl_app (a : Array Nat) : ∀ (r : List (Array Nat)), r.foldl (· ++ ·) a = a ++ (r.map Array.toList).flatten.toArray
  | [] => by simp
  | b :: r => by rw [List.foldl_cons, foldl_app (a ++ b) r]; apply Array.ext'; simp
theorem mul_txt (l : List Nat) (k : Int) : Txt.mul (S l) k = S (List.replicate k.toNat l).flatten := by
  unfold Txt.mul
  split
  · rename_i h
    rw [show k.toNat = 0 by omega]; rfl
  · split
    · rename_i h
      simp only [Bool.or_eq_true, beq_iff_eq] at h
      rcases h with h | h
      · subst h
        simp
      · rw [S_len] at h
        have := List.eq_nil_of_length_eq_zero h
        subst this
        simp
    · show PySem.Str.mk _ = PySem.Str.mk _
      rw [foldl_app]
      simp [S]
theorem mul_S {prog : Program} {w : World} {A : Around} {E : Value → Shared → Prop} {s : Shared} {x : Str} {l : List Nat} {k : Int} {t u : Tok} {Q : Value → Shared → Prop} (hx : x = S l) (hl : l.length ≤ 64) (hk0 : 0 ≤ k) (hk : k ≤ 64)
    (h : ∀ r t' k', r = (List.replicate k.toNat l).flatten → r.length ≤ 4096 → Q (.str (S r) t') { s with toks := k' }) : wpAny (model prog w) A (binaryOp .Mult (.str x t) (.int k u)) Q E s := by
  subst hx
  refine SB.mul (mulOk_of 64 64 (by rw [S_len]; exact hl) (by omega) (by omega) (by decide) (by decide)) fun t' k' => ?_
  rw [mul_txt]
  refine h _ _ _ rfl ?_
  simp only [List.length_flatten, List.map_replicate, List.sum_replicate_nat]
  calc k.toNat * l.length ≤ 64 * 64 := Nat.mul_le_mul (by omega) hl
    _ = 4096 := rfl
set_option maxHeartbeats 1000000 in
theorem dupl_cl (w : World) (mean mg mb) (wa a : Addr) (v0 : Value) (k : Int) (t : Tok) (x : List Nat) (h0 : TV v0 x) (hx : x.length ≤ 64) (hk0 : 0 ≤ k) (hk : k ≤ 8) :
    Cl w mean mg mb 16 175 [.ref wa, .ref a] [] (fun h => WAt h wa ∧ h.IsList a [v0, .int k t].toArray) (fun v _ _ _ => (∃ t', v = .str (S (List.replicate k.toNat x).flatten) t')) := by
  k_dflt ((refine here_in ?_; k_fill; intro _; (first | (refine Mine.Cl.enter (by k_is) (by k_is) (by decide) (by w_strict (exact rfl)) (by w_strict (exact locs rfl)) ?_ (by w_strict (exact rfl)) (by w_strict (exact rfl)) (by w_strict (exact rfl)) (by decide); (intro z9dp z9un z9gd z9cn z9cs z9L z9a z9ccd z9cl z9outer z9base z9s z9g z9L' z9h₁ z9tk z9cs' z9E z9F' z9N' z9hc z9B' z9X' z9T' z9hlt z9G z9hd z9hu z9hp); subst z9hc; (try simp only [List.cons_append, List.nil_append] at z9N'); (try dsimp only)) | (refine Mine.Cl.enterC (by k_is) (by k_is) (by decide) (by w_strict (exact rfl)) (by w_strict (exact rfl)) (by w_strict (decide +kernel)) ?_ (by w_strict (exact rfl)) (by w_strict (exact rfl)) (by w_strict (exact rfl)); (intro z9dp z9un z9gd z9cn z9cs z9L z9a z9ccd z9cl z9outer z9base z9s z9g z9L' z9h₁ z9tk z9cs' z9E z9F' z9N' z9Y' z9B' z9X' z9T' z9hlt z9G z9hd z9hu z9hp); k_cells z9Y'; (try simp only [List.cons_append, List.nil_append] at z9N'); (try dsimp only)))))
  (rename GSub _ _ _ => G)
  (rename WAt _ _ ∧ _ => hL)
  have hL' := gsub0 G hL.2
  have hW' := gsubW G hL.1
  have hm : (x.length : Int) * k ≤ 512 := by
    have h1 : (x.length : Int) * k ≤ 64 * k := Int.mul_le_mul_of_nonneg_right (by omega) hk0
    omega
  (repeat' (first | (k_unfold; (try dsimp only)) | (k_end; wrow_close) | ((with_reducible show wpAny _ _ (execs (_ :: _) _) _ _ ⟨_, _, _, _ + _, _⟩); refine absTok ?_; intro tk) | (with_reducible first | (k_here; (with_reducible show wpAny _ _ (binaryOp Operator.Mult (Value.str _ _) (Value.int _ _)) _ _ _); (refine mul_S (by kopn_code) (by w_strict (((try simp only [List.length_append, List.length_cons, List.length_nil, List.length_drop, List.length_take]); omega))) (by w_strict (first | omega | (split <;> omega))) (by w_strict (first | omega | (split <;> omega))) ?_; intro r8 _ _ hr8 hl8)) | ((with_reducible show wpAny _ _ (getAttr (Value.ref _) _ _) _ _ _); (k_here; k_dflt (first | ((with_reducible show wpAny _ _ (getAttr (Value.ref _) (PySem.Str.ofString "width") _) _ _ _); refine' world_width ?k1 ?k2 ?k3 ?k4 ?k5 ?k6 ?k7 ?_; (case k1 => k_asm); (case k2 => k_asm); (case k3 => first | assumption | exact WAt.keeps (by assumption) (Fr.keep (by k_asm))); (case k4 => k_is); (case k5 => k_is); (case k6 => k_is); (case k7 => k_is); k_whole; intro _) | ((with_reducible show wpAny _ _ (getAttr (Value.ref _) (PySem.Str.ofString "most_length") _) _ _ _); refine' world_most ?k1 ?k2 ?k3 ?k4 ?k5 ?k6 ?k7 ?_; (case k1 => k_asm); (case k2 => k_asm); (case k3 => first | assumption | exact WAt.keeps (by assumption) (Fr.keep (by k_asm))); (case k4 => k_is); (case k5 => k_is); (case k6 => k_is); (case k7 => k_is); k_whole; intro _)))) | (k_here; (with_reducible show wpAny _ _ (subscriptTail _ (Expr.Slice none none (some _) _) (Value.str _ _) (Value.ref _)) _ _ _); k_dflt (refine slice_rev (by k_asm) (by k_asm) (by w_strict (omega)) ?_; intro h9 _ _ F9 N9)) | ((with_reducible show wpAny _ _ (call (Value.ref _) _) _ _ _); (k_here; k_dflt (refine Mine.Cl.useS (by k_asm) (by k_asm) (by k_asm) (by k_asm) (by k_asm) (by w_strict (first | exact rfl | assumption)) (by k_room) (by k_units) trivial (need_text_tv _ _ _ _ _ _ (by w_strict (first | assumption | exact TV.str _ _)) (by w_strict (((try simp only [rep_len, List.length_append, List.length_cons, List.length_nil]); omega)))) ?_; intro t9 h9 tk9 F9 N9 keep9; (try k_sweep); (try dsimp only)))) | (k_here; (with_reducible show wpAny _ _ (call (Value.builtin "len") [Value.str _ _]) _ _ _); (refine len_S (by kopn_code) (by w_strict (((try simp only [List.length_append, List.length_cons, List.length_nil]); omega))) ?_; intro _ _))) | walk1 | (dsimp only; first | (with_reducible first | (k_here; (with_reducible show wpAny _ _ (binaryOp Operator.Mult (Value.str _ _) (Value.int _ _)) _ _ _); (refine mul_S (by kopn_code) (by w_strict (((try simp only [List.length_append, List.length_cons, List.length_nil, List.length_drop, List.length_take]); omega))) (by w_strict (first | omega | (split <;> omega))) (by w_strict (first | omega | (split <;> omega))) ?_; intro r8 _ _ hr8 hl8)) | ((with_reducible show wpAny _ _ (getAttr (Value.ref _) _ _) _ _ _); (k_here; k_dflt (first | ((with_reducible show wpAny _ _ (getAttr (Value.ref _) (PySem.Str.ofString "width") _) _ _ _); refine' world_width ?k1 ?k2 ?k3 ?k4 ?k5 ?k6 ?k7 ?_; (case k1 => k_asm); (case k2 => k_asm); (case k3 => first | assumption | exact WAt.keeps (by assumption) (Fr.keep (by k_asm))); (case k4 => k_is); (case k5 => k_is); (case k6 => k_is); (case k7 => k_is); k_whole; intro _) | ((with_reducible show wpAny _ _ (getAttr (Value.ref _) (PySem.Str.ofString "most_length") _) _ _ _); refine' world_most ?k1 ?k2 ?k3 ?k4 ?k5 ?k6 ?k7 ?_; (case k1 => k_asm); (case k2 => k_asm); (case k3 => first | assumption | exact WAt.keeps (by assumption) (Fr.keep (by k_asm))); (case k4 => k_is); (case k5 => k_is); (case k6 => k_is); (case k7 => k_is); k_whole; intro _)))) | (k_here; (with_reducible show wpAny _ _ (subscriptTail _ (Expr.Slice none none (some _) _) (Value.str _ _) (Value.ref _)) _ _ _); k_dflt (refine slice_rev (by k_asm) (by k_asm) (by w_strict (omega)) ?_; intro h9 _ _ F9 N9)) | ((with_reducible show wpAny _ _ (call (Value.ref _) _) _ _ _); (k_here; k_dflt (refine Mine.Cl.useS (by k_asm) (by k_asm) (by k_asm) (by k_asm) (by k_asm) (by w_strict (first | exact rfl | assumption)) (by k_room) (by k_units) trivial (need_text_tv _ _ _ _ _ _ (by w_strict (first | assumption | exact TV.str _ _)) (by w_strict (((try simp only [rep_len, List.length_append, List.length_cons, List.length_nil]); omega)))) ?_; intro t9 h9 tk9 F9 N9 keep9; (try k_sweep); (try dsimp only)))) | (k_here; (with_reducible show wpAny _ _ (call (Value.builtin "len") [Value.str _ _]) _ _ _); (refine len_S (by kopn_code) (by w_strict (((try simp only [List.length_append, List.length_cons, List.length_nil]); omega))) ?_; intro _ _))) | walk1) | (leave1; walk_say "STEP leave1"; try dsimp only) | fail "no step"))
  exact EndO.mk (own' := []) (by assumption) (by assumption) (by simp) ⟨_, by subst_vars; rfl⟩

theorem off_ops2 : True := by w_top off; exact trivial
/-- what SUBSTR answers -/
def partI (x : List Nat) (b k : Int) : Option (List Nat) :=
  if b < 1 ∨ b > x.length + 1 then none else if k = 0 then some (x.drop (b - 1).toNat) else if b - 1 + k ≤ x.length then some ((x.drop (b - 1).toNat).take k.toNat) else none
def PartR (r : Option (List Nat)) (v : Value) (own' : List (Addr × Obj)) : Prop :=
  match r with
  | none => ∃ f d es nn, v = .ref f ∧ own' = [(f, instObj 47 d), (d, dictOf es nn)]
  | some y => own' = [] ∧ ∃ t, v = .str (S y) t
set_option maxHeartbeats 1000000 in
theorem substr_cl (w : World) (mean mg mb) (wa a : Addr) (v0 : Value) (b k : Int) (t u : Tok) (x : List Nat) (h0 : TV v0 x) (hx : x.length ≤ 64) (hk0 : 0 ≤ k) (hk : k ≤ 8) (hb0 : 0 ≤ b) (hb : b ≤ 8) :
    Cl w mean mg mb 16 203 [.ref wa, .ref a] [] (fun h => WAt h wa ∧ h.IsList a [v0, .int b t, .int k u].toArray) (fun v _ _ own' => PartR (partI x b k) v own') := by
  k_dflt ((refine here_in ?_; k_fill; intro _; (first | (refine Mine.Cl.enter (by k_is) (by k_is) (by decide) (by w_strict (exact rfl)) (by w_strict (exact locs rfl)) ?_ (by w_strict (exact rfl)) (by w_strict (exact rfl)) (by w_strict (exact rfl)) (by decide); (intro z9dp z9un z9gd z9cn z9cs z9L z9a z9ccd z9cl z9outer z9base z9s z9g z9L' z9h₁ z9tk z9cs' z9E z9F' z9N' z9hc z9B' z9X' z9T' z9hlt z9G z9hd z9hu z9hp); subst z9hc; (try simp only [List.cons_append, List.nil_append] at z9N'); (try dsimp only)) | (refine Mine.Cl.enterC (by k_is) (by k_is) (by decide) (by w_strict (exact rfl)) (by w_strict (exact rfl)) (by w_strict (decide +kernel)) ?_ (by w_strict (exact rfl)) (by w_strict (exact rfl)) (by w_strict (exact rfl)); (intro z9dp z9un z9gd z9cn z9cs z9L z9a z9ccd z9cl z9outer z9base z9s z9g z9L' z9h₁ z9tk z9cs' z9E z9F' z9N' z9Y' z9B' z9X' z9T' z9hlt z9G z9hd z9hu z9hp); k_cells z9Y'; (try simp only [List.cons_append, List.nil_append] at z9N'); (try dsimp only)))))
  (rename GSub _ _ _ => G)
  (rename WAt _ _ ∧ _ => hL)
  have hL' := gsub0 G hL.2
  have hW' := gsubW G hL.1
  (repeat' (first | (k_unfold; (try dsimp only)) | (k_end; wrow_close) | ((with_reducible show wpAny _ _ (execs (_ :: _) _) _ _ ⟨_, _, _, _ + _, _⟩); refine absTok ?_; intro tk) | (with_reducible first | ((with_reducible show wpAny _ _ (getAttr (Value.ref _) _ _) _ _ _); (k_here; k_dflt (first | ((with_reducible show wpAny _ _ (getAttr (Value.ref _) (PySem.Str.ofString "width") _) _ _ _); refine' world_width ?k1 ?k2 ?k3 ?k4 ?k5 ?k6 ?k7 ?_; (case k1 => k_asm); (case k2 => k_asm); (case k3 => first | assumption | exact WAt.keeps (by assumption) (Fr.keep (by k_asm))); (case k4 => k_is); (case k5 => k_is); (case k6 => k_is); (case k7 => k_is); k_whole; intro _) | ((with_reducible show wpAny _ _ (getAttr (Value.ref _) (PySem.Str.ofString "most_length") _) _ _ _); refine' world_most ?k1 ?k2 ?k3 ?k4 ?k5 ?k6 ?k7 ?_; (case k1 => k_asm); (case k2 => k_asm); (case k3 => first | assumption | exact WAt.keeps (by assumption) (Fr.keep (by k_asm))); (case k4 => k_is); (case k5 => k_is); (case k6 => k_is); (case k7 => k_is); k_whole; intro _)))) | ((with_reducible show wpAny _ _ (subscriptTail _ _ (Value.str _ _) (Value.ref _)) _ _ _); (k_here; k_dflt (first | ((with_reducible show wpAny _ _ (subscriptTail _ (Expr.Slice (some _) none none _) (Value.str _ _) (Value.ref _)) _ _ _); (refine slice_sn_S (by k_asm) (by k_asm) (by w_strict (omega)) (by w_strict (omega)) (by w_strict (omega)) ?_; intro h9 _ _ F9 N9)) | ((with_reducible show wpAny _ _ (subscriptTail _ (Expr.Slice none (some _) none _) (Value.str _ _) (Value.ref _)) _ _ _); (refine slice_ns_S (by k_asm) (by k_asm) (by w_strict (omega)) (by w_strict (omega)) (by w_strict (omega)) ?_; intro h9 _ _ F9 N9)) | ((with_reducible show wpAny _ _ (subscriptTail _ (Expr.Slice (some _) (some _) none _) (Value.str _ _) (Value.ref _)) _ _ _); (refine slice_ss_S' (by k_asm) (by k_asm) (by w_strict (omega)) (by w_strict (omega)) (by w_strict (omega)) (by w_strict (omega)) ?_; intro h9 _ _ F9 N9))))) | ((with_reducible show wpAny _ _ (call (Value.ref _) _) _ _ _); (k_here; k_dflt (refine Mine.Cl.useS (by k_asm) (by k_asm) (by k_asm) (by k_asm) (by k_asm) (by w_strict (first | exact rfl | assumption)) (by k_room) (by k_units) trivial (need_text_tv _ _ _ _ _ _ (by w_strict (first | assumption | exact TV.str _ _)) (by w_strict (((try simp only [rep_len, List.length_append, List.length_cons, List.length_nil]); omega)))) ?_; intro t9 h9 tk9 F9 N9 keep9; (try k_sweep); (try dsimp only)))) | (k_here; (with_reducible show wpAny _ _ (call (Value.builtin "len") [Value.str _ _]) _ _ _); (refine len_S (by kopn_code) (by w_strict (((try simp only [List.length_append, List.length_cons, List.length_nil]); omega))) ?_; intro _ _))) | walk1 | (dsimp only; first | (with_reducible first | ((with_reducible show wpAny _ _ (getAttr (Value.ref _) _ _) _ _ _); (k_here; k_dflt (first | ((with_reducible show wpAny _ _ (getAttr (Value.ref _) (PySem.Str.ofString "width") _) _ _ _); refine' world_width ?k1 ?k2 ?k3 ?k4 ?k5 ?k6 ?k7 ?_; (case k1 => k_asm); (case k2 => k_asm); (case k3 => first | assumption | exact WAt.keeps (by assumption) (Fr.keep (by k_asm))); (case k4 => k_is); (case k5 => k_is); (case k6 => k_is); (case k7 => k_is); k_whole; intro _) | ((with_reducible show wpAny _ _ (getAttr (Value.ref _) (PySem.Str.ofString "most_length") _) _ _ _); refine' world_most ?k1 ?k2 ?k3 ?k4 ?k5 ?k6 ?k7 ?_; (case k1 => k_asm); (case k2 => k_asm); (case k3 => first | assumption | exact WAt.keeps (by assumption) (Fr.keep (by k_asm))); (case k4 => k_is); (case k5 => k_is); (case k6 => k_is); (case k7 => k_is); k_whole; intro _)))) | ((with_reducible show wpAny _ _ (subscriptTail _ _ (Value.str _ _) (Value.ref _)) _ _ _); (k_here; k_dflt (first | ((with_reducible show wpAny _ _ (subscriptTail _ (Expr.Slice (some _) none none _) (Value.str _ _) (Value.ref _)) _ _ _); (refine slice_sn_S (by k_asm) (by k_asm) (by w_strict (omega)) (by w_strict (omega)) (by w_strict (omega)) ?_; intro h9 _ _ F9 N9)) | ((with_reducible show wpAny _ _ (subscriptTail _ (Expr.Slice none (some _) none _) (Value.str _ _) (Value.ref _)) _ _ _); (refine slice_ns_S (by k_asm) (by k_asm) (by w_strict (omega)) (by w_strict (omega)) (by w_strict (omega)) ?_; intro h9 _ _ F9 N9)) | ((with_reducible show wpAny _ _ (subscriptTail _ (Expr.Slice (some _) (some _) none _) (Value.str _ _) (Value.ref _)) _ _ _); (refine slice_ss_S' (by k_asm) (by k_asm) (by w_strict (omega)) (by w_strict (omega)) (by w_strict (omega)) (by w_strict (omega)) ?_; intro h9 _ _ F9 N9))))) | ((with_reducible show wpAny _ _ (call (Value.ref _) _) _ _ _); (k_here; k_dflt (refine Mine.Cl.useS (by k_asm) (by k_asm) (by k_asm) (by k_asm) (by k_asm) (by w_strict (first | exact rfl | assumption)) (by k_room) (by k_units) trivial (need_text_tv _ _ _ _ _ _ (by w_strict (first | assumption | exact TV.str _ _)) (by w_strict (((try simp only [rep_len, List.length_append, List.length_cons, List.length_nil]); omega)))) ?_; intro t9 h9 tk9 F9 N9 keep9; (try k_sweep); (try dsimp only)))) | (k_here; (with_reducible show wpAny _ _ (call (Value.builtin "len") [Value.str _ _]) _ _ _); (refine len_S (by kopn_code) (by w_strict (((try simp only [List.length_append, List.length_cons, List.length_nil]); omega))) ?_; intro _ _))) | walk1) | (leave1; walk_say "STEP leave1"; try dsimp only) | fail "no step"))
  · exact EndO.mk (own' := [(_, _), (_, _)]) (by assumption) (by assumption) (fun p hp => two_mem hp) (by rw [show partI x b k = none by unfold partI; rw [if_pos (by omega)]]; exact ⟨_, _, _, _, rfl, rfl⟩)
  · exact EndO.mk (own' := [(_, _), (_, _)]) (by assumption) (by assumption) (fun p hp => two_mem hp) (by rw [show partI x b k = none by unfold partI; rw [if_pos (by omega)]]; exact ⟨_, _, _, _, rfl, rfl⟩)
  · exact EndO.mk (own' := []) (by assumption) (by assumption) (by simp) (by rw [show partI x b k = some (x.drop (b - 1).toNat) by unfold partI; rw [if_neg (by omega), if_pos (by omega)]]; exact ⟨rfl, _, rfl⟩)
  · exact EndO.mk (own' := []) (by assumption) (by assumption) (by simp) (by rw [show partI x b k = some ((x.drop (b - 1).toNat).take (b - 1 + k - (b - 1)).toNat) by unfold partI; rw [if_neg (by omega), if_neg (by omega), if_pos (by omega), show b - 1 + k - (b - 1) = k by omega]]; exact ⟨rfl, _, rfl⟩)
  · exact EndO.mk (own' := [(_, _), (_, _)]) (by assumption) (by assumption) (fun p hp => two_mem hp) (by rw [show partI x b k = none by unfold partI; rw [if_neg (by omega), if_neg (by omega), if_neg (by omega)]]; exact ⟨_, _, _, _, rfl, rfl⟩)

theorem off_ops3 : True := by w_top off; exact trivial
theorem flat_one (n : Nat) (c : Nat) : (List.replicate n [c]).flatten = List.replicate n c := by
  induction n with
  | zero => rfl
  | succ n ih => rw [List.replicate_succ, List.flatten_cons, ih]; rfl
set_option maxHeartbeats 1000000 in
theorem lpad_cl (w : World) (mean mg mb) (wa a : Addr) (v0 v2 : Value) (k : Int) (t : Tok) (x : List Nat) (c : Nat) (h0 : TV v0 x) (h2 : TV v2 [c]) (hx : x.length ≤ 64) (hk0 : 0 ≤ k) (hk : k ≤ 16) :
    Cl w mean mg mb 16 189 [.ref wa, .ref a] [] (fun h => WAt h wa ∧ h.IsList a [v0, .int k t, v2].toArray) (fun v _ _ own' => (∃ t', v = .str (S (List.replicate (k.toNat - x.length) c ++ x)) t')) := by
  k_dflt ((refine here_in ?_; k_fill; intro _; (first | (refine Mine.Cl.enter (by k_is) (by k_is) (by decide) (by w_strict (exact rfl)) (by w_strict (exact locs rfl)) ?_ (by w_strict (exact rfl)) (by w_strict (exact rfl)) (by w_strict (exact rfl)) (by decide); (intro z9dp z9un z9gd z9cn z9cs z9L z9a z9ccd z9cl z9outer z9base z9s z9g z9L' z9h₁ z9tk z9cs' z9E z9F' z9N' z9hc z9B' z9X' z9T' z9hlt z9G z9hd z9hu z9hp); subst z9hc; (try simp only [List.cons_append, List.nil_append] at z9N'); (try dsimp only)) | (refine Mine.Cl.enterC (by k_is) (by k_is) (by decide) (by w_strict (exact rfl)) (by w_strict (exact rfl)) (by w_strict (decide +kernel)) ?_ (by w_strict (exact rfl)) (by w_strict (exact rfl)) (by w_strict (exact rfl)); (intro z9dp z9un z9gd z9cn z9cs z9L z9a z9ccd z9cl z9outer z9base z9s z9g z9L' z9h₁ z9tk z9cs' z9E z9F' z9N' z9Y' z9B' z9X' z9T' z9hlt z9G z9hd z9hu z9hp); k_cells z9Y'; (try simp only [List.cons_append, List.nil_append] at z9N'); (try dsimp only)))))
  (rename GSub _ _ _ => G)
  (rename WAt _ _ ∧ _ => hL)
  have hL' := gsub0 G hL.2
  have hW' := gsubW G hL.1
  (repeat' (first | (k_unfold; (try dsimp only)) | (k_end; wrow_close) | ((with_reducible show wpAny _ _ (execs (_ :: _) _) _ _ ⟨_, _, _, _ + _, _⟩); refine absTok ?_; intro tk) | (with_reducible first | ((with_reducible show wpAny _ _ (getAttr (Value.ref _) _ _) _ _ _); (k_here; k_dflt (first | ((with_reducible show wpAny _ _ (getAttr (Value.ref _) (PySem.Str.ofString "width") _) _ _ _); refine' world_width ?k1 ?k2 ?k3 ?k4 ?k5 ?k6 ?k7 ?_; (case k1 => k_asm); (case k2 => k_asm); (case k3 => first | assumption | exact WAt.keeps (by assumption) (Fr.keep (by k_asm))); (case k4 => k_is); (case k5 => k_is); (case k6 => k_is); (case k7 => k_is); k_whole; intro _) | ((with_reducible show wpAny _ _ (getAttr (Value.ref _) (PySem.Str.ofString "most_length") _) _ _ _); refine' world_most ?k1 ?k2 ?k3 ?k4 ?k5 ?k6 ?k7 ?_; (case k1 => k_asm); (case k2 => k_asm); (case k3 => first | assumption | exact WAt.keeps (by assumption) (Fr.keep (by k_asm))); (case k4 => k_is); (case k5 => k_is); (case k6 => k_is); (case k7 => k_is); k_whole; intro _)))) | ((with_reducible show wpAny _ _ (call (Value.ref _) _) _ _ _); (k_here; k_dflt (refine Mine.Cl.useS (by k_asm) (by k_asm) (by k_asm) (by k_asm) (by k_asm) (by w_strict (first | exact rfl | assumption)) (by k_room) (by k_units) trivial (need_text_tv _ _ _ _ _ _ (by w_strict (first | assumption | exact TV.str _ _)) (by w_strict (((try simp only [rep_len, List.length_append, List.length_cons, List.length_nil]); omega)))) ?_; intro t9 h9 tk9 F9 N9 keep9; (try k_sweep); (try dsimp only)))) | (k_here; (with_reducible show wpAny _ _ (binaryOp Operator.Add (Value.str _ _) (Value.str _ _)) _ _ _); (refine add_S (by kopn_code) (by kopn_code) (by w_strict (((try simp only [List.length_append, List.length_cons, List.length_nil, List.length_drop, List.length_take]); omega))) ?_; intro _ _)) | (k_here; (with_reducible show wpAny _ _ (call (Value.builtin "len") [Value.str _ _]) _ _ _); (refine len_S (by kopn_code) (by w_strict (((try simp only [List.length_append, List.length_cons, List.length_nil]); omega))) ?_; intro _ _)) | (k_here; (with_reducible show wpAny _ _ (compareOp CmpOp.NotEq (Value.str _ _) (Value.str _ _)) _ _ _); (refine ne_S (by kopn_code) (by kopn_code) (by w_strict (first | (exact congrArg not (decide_eq_true (by first | assumption | exact rfl | omega))) | (exact congrArg not (decide_eq_false (by first | assumption | omega))) | exact rfl)) ?_))) | (k_here; (with_reducible show wpAny _ _ (binaryOp Operator.Mult (Value.str _ _) (Value.int _ _)) _ _ _); (refine mul_S (by kopn_code) (by w_strict (((try simp only [List.length_append, List.length_cons, List.length_nil, List.length_drop, List.length_take]); omega))) (by w_strict (first | omega | (split <;> omega))) (by w_strict (first | omega | (split <;> omega))) ?_; intro r8 _ _ hr8 hl8)) | walk1 | (dsimp only; first | (with_reducible first | ((with_reducible show wpAny _ _ (getAttr (Value.ref _) _ _) _ _ _); (k_here; k_dflt (first | ((with_reducible show wpAny _ _ (getAttr (Value.ref _) (PySem.Str.ofString "width") _) _ _ _); refine' world_width ?k1 ?k2 ?k3 ?k4 ?k5 ?k6 ?k7 ?_; (case k1 => k_asm); (case k2 => k_asm); (case k3 => first | assumption | exact WAt.keeps (by assumption) (Fr.keep (by k_asm))); (case k4 => k_is); (case k5 => k_is); (case k6 => k_is); (case k7 => k_is); k_whole; intro _) | ((with_reducible show wpAny _ _ (getAttr (Value.ref _) (PySem.Str.ofString "most_length") _) _ _ _); refine' world_most ?k1 ?k2 ?k3 ?k4 ?k5 ?k6 ?k7 ?_; (case k1 => k_asm); (case k2 => k_asm); (case k3 => first | assumption | exact WAt.keeps (by assumption) (Fr.keep (by k_asm))); (case k4 => k_is); (case k5 => k_is); (case k6 => k_is); (case k7 => k_is); k_whole; intro _)))) | ((with_reducible show wpAny _ _ (call (Value.ref _) _) _ _ _); (k_here; k_dflt (refine Mine.Cl.useS (by k_asm) (by k_asm) (by k_asm) (by k_asm) (by k_asm) (by w_strict (first | exact rfl | assumption)) (by k_room) (by k_units) trivial (need_text_tv _ _ _ _ _ _ (by w_strict (first | assumption | exact TV.str _ _)) (by w_strict (((try simp only [rep_len, List.length_append, List.length_cons, List.length_nil]); omega)))) ?_; intro t9 h9 tk9 F9 N9 keep9; (try k_sweep); (try dsimp only)))) | (k_here; (with_reducible show wpAny _ _ (binaryOp Operator.Add (Value.str _ _) (Value.str _ _)) _ _ _); (refine add_S (by kopn_code) (by kopn_code) (by w_strict (((try simp only [List.length_append, List.length_cons, List.length_nil, List.length_drop, List.length_take]); omega))) ?_; intro _ _)) | (k_here; (with_reducible show wpAny _ _ (call (Value.builtin "len") [Value.str _ _]) _ _ _); (refine len_S (by kopn_code) (by w_strict (((try simp only [List.length_append, List.length_cons, List.length_nil]); omega))) ?_; intro _ _)) | (k_here; (with_reducible show wpAny _ _ (compareOp CmpOp.NotEq (Value.str _ _) (Value.str _ _)) _ _ _); (refine ne_S (by kopn_code) (by kopn_code) (by w_strict (first | (exact congrArg not (decide_eq_true (by first | assumption | exact rfl | omega))) | (exact congrArg not (decide_eq_false (by first | assumption | omega))) | exact rfl)) ?_))) | (k_here; (with_reducible show wpAny _ _ (binaryOp Operator.Mult (Value.str _ _) (Value.int _ _)) _ _ _); (refine mul_S (by kopn_code) (by w_strict (((try simp only [List.length_append, List.length_cons, List.length_nil, List.length_drop, List.length_take]); omega))) (by w_strict (first | omega | (split <;> omega))) (by w_strict (first | omega | (split <;> omega))) ?_; intro r8 _ _ hr8 hl8)) | walk1) | (leave1; walk_say "STEP leave1"; try dsimp only) | fail "no step"))
  all_goals (try (exfalso; simp_all; done))
  have e8 : ∀ (i : Int) (r : List Nat), r = (List.replicate i.toNat ([c].take 1)).flatten → i = (if 0 > k - (x.length : Int) then 0 else k - (x.length : Int)) → r = List.replicate (k.toNat - x.length) c := by
    rintro i r rfl rfl
    rw [show [c].take 1 = [c] from rfl, flat_one]
    congr 1
    split <;> omega
  (with_reducible rename _ = List.flatten _ => hr8)
  have e9 := e8 _ _ hr8 (by first | rfl | (split <;> split <;> omega))
  subst e9
  exact EndO.mk (own' := []) (by assumption) (by assumption) (by simp) ⟨_, rfl⟩

theorem off_own : True := by w_top off; exact trivial
theorem look_cons (p : Nat × Nat) (r : List (Nat × Nat)) (x : Nat) : look (p :: r) x = (look r x).or (if x = p.1 then some p.2 else none) := by
  unfold look
  rw [List.reverse_cons, List.lookup_append]
  congr 1
  rw [List.lookup_cons]
  by_cases h : x = p.1
  · simp [h]
  · have : (x == p.1) = false := by simpa using h
    simp [this, h]
theorem look_no : ∀ (ps : List (Nat × Nat)) (x : Nat), (∀ p ∈ ps, p.1 ≠ x) → look ps x = none
  | [], _, _ => rfl
  | p :: r, x, h => by
    rw [look_cons, look_no r x fun q hq => h q (.tail _ hq), if_neg (Ne.symm (h p (.head _)))]; rfl
theorem look_yes : ∀ (ps : List (Nat × Nat)) (x e i : Nat), ps[i]? = some (x, e) → (∀ k, i < k → ∀ e', ps[k]? ≠ some (x, e')) → look ps x = some e
  | [], _, _, _, h, _ => by simp at h
  | p :: r, x, e, 0, h, hl => by
    have e0 : p = (x, e) := by simpa using h
    rw [look_cons, look_no r x, e0]
    · simp
    · intro q hq eq
      obtain ⟨k, hk⟩ := List.mem_iff_getElem?.mp hq
      refine hl (k + 1) (Nat.succ_pos _) q.2 ?_
      rw [List.getElem?_cons_succ, hk, ← eq]
  | p :: r, x, e, i + 1, h, hl => by
    rw [look_cons, look_yes r x e i (by simpa using h) fun k hk e' => by
      have := hl (k + 1) (by omega) e'
      simpa using this]
    rfl
theorem mapS_no {o n : List Nat} {c : Nat} (h : c ∉ o) : mapS o n c = c := by
  unfold mapS
  rw [look_no]; rfl
  intro p hp e
  exact h (e ▸ (List.of_mem_zip (by simpa using hp : (p.1, p.2) ∈ o.zip n)).1)
theorem mapS_yes {o n : List Nat} {c e i : Nat} (h1 : o[i]? = some c) (h2 : n[i]? = some e) (hl : ∀ k, i < k → o[k]? ≠ some c) : mapS o n c = e := by
  unfold mapS
  rw [look_yes _ _ e i (by simp [List.getElem?_zip_eq_some, h1, h2])]; rfl
  intro k hk e' q
  exact hl k hk (List.getElem?_zip_eq_some.mp q).1
section
variable {prog : Program} {w : World} {A : Around} {E : Value → Shared → Prop} {s : Shared} {x y : Str} {l : List Nat} {c : Nat} {t u : Tok} {Q : Value → Shared → Prop}
theorem one_S (c : Nat) : S [c] = (⟨#[c]⟩ : Str) := rfl
theorem mem_S {b : Bool} (hx : x = S l) (hy : y = S [c]) (hb : decide (c ∈ l) = b) (h : Q (.bool b) s) : wpAny (model prog w) A (compareOp .In (.str y u) (.str x t)) Q E s := by
  subst hx hy
  refine in_str ?_
  rw [one_S, StrLaws.found_one, S_toList, hb]; exact h
theorem rfind_S (hx : x = S l) (hy : y = S [c]) (hc : c ∈ l) (h : ∀ (i : Nat) (t' : Tok) (k : Nat), i < l.length → l[i]? = some c → (∀ k, i < k → l[k]? ≠ some c) → Q (.int (i : Int) t') { s with toks := k }) : wpAny (model prog w) A (call (.builtin "str.rfind") [.str x t, .str y u]) Q E s := by
  subst hx hy
  refine SC.rfind ?_
  have at1 : ∀ i, StrLaws.At (S l) ⟨#[c]⟩ (S l).length i ↔ l[i]? = some c := fun i => by
    have := StrLaws.subAt_one (S l) c i
    rwa [S_toList] at this
  unfold Txt.rfind
  rw [one_S]
  rcases StrLaws.last_spec (S l) ⟨#[c]⟩ with ⟨_, hn⟩ | ⟨i, e, h1, h2⟩
  · obtain ⟨i, hi⟩ := List.mem_iff_getElem?.mp hc
    exact absurd ((at1 i).mpr hi) (hn i)
  · rw [e]
    exact h i _ _ (List.getElem?_eq_some_iff.mp ((at1 i).mp h1)).1 ((at1 i).mp h1) fun k hk q => h2 k hk ((at1 k).mpr q)
theorem index_S (hx : x = S l) (hy : y = S [c]) (hc : c ∈ l) (h : ∀ (i : Nat) (t' : Tok) (k : Nat), i < l.length → l[i]? = some c → Q (.int (i : Int) t') { s with toks := k }) : wpAny (model prog w) A (call (.builtin "str.index") [.str x t, .str y u]) Q E s := by
  subst hx hy
  cases ho : Builtin.Str.occurrences (S l) (S [c]) 0 (S l).length 1 with
  | nil =>
    have := StrLaws.found_one (S l) c
    rw [S_toList, ← one_S, ho] at this
    simp [hc] at this
  | cons i r =>
    refine SC.index ho ?_
    have := StrLaws.occ_spec (S l) (S [c]) 0 (S l).length 1 i (by rw [ho]; exact .head _)
    have e := (StrLaws.subAt_one (S l) c i).mp this
    rw [S_toList] at e
    exact h i _ _ (List.getElem?_eq_some_iff.mp e).1 e
theorem item_any {value slice : Expr} {i : Int} (hx : x = S l) (h0 : 0 ≤ i) (hc : i.toNat < l.length) (hl : l.length ≤ 16777216) (h : ∀ c t' k, l[i.toNat]? = some c → Q (.str (S [c]) t') { s with toks := k })
    (hs : subscripted slice false (.str x t) (.int i u) = operate [.str x t, .int i u] (getItem (.str x t) (.int i u)) := by with_unfolding_all rfl)
    (ht : ∀ r, letTemporaryGo value (.str x t) r = pure () := by intro _; with_unfolding_all rfl) :
    wpAny (model prog w) A (subscriptTail value slice (.str x t) (.int i u)) Q E s :=
  item_S hx h0 (List.getElem?_eq_getElem hc) hl (fun t' k => h _ t' k (List.getElem?_eq_getElem hc)) hs ht
end
set_option maxHeartbeats 1000000 in
theorem own_cl (w : World) (mean mg mb) (x o n : List Nat) (t t1 t2 : Tok) (hx : x.length ≤ 64) (ho : o.length ≤ 16) (hn : n.length ≤ 16) (hne : o ≠ []) (hon : o.length = n.length) :
    Cl w mean mg mb 4 251 [.str (S x) t, .str (S o) t1, .str (S n) t2] [] (fun _ => True) (fun v _ _ _ => (∃ t', v = .str (S (rep o n x)) t')) := by
  k_dflt ((refine here_in ?_; k_fill; intro _; (first | (refine Mine.Cl.enter (by k_is) (by k_is) (by decide) (by w_strict (exact rfl)) (by w_strict (exact locs rfl)) ?_ (by w_strict (exact rfl)) (by w_strict (exact rfl)) (by w_strict (exact rfl)) (by decide); (intro z9dp z9un z9gd z9cn z9cs z9L z9a z9ccd z9cl z9outer z9base z9s z9g z9L' z9h₁ z9tk z9cs' z9E z9F' z9N' z9hc z9B' z9X' z9T' z9hlt z9G z9hd z9hu z9hp); subst z9hc; (try simp only [List.cons_append, List.nil_append] at z9N'); (try dsimp only)) | (refine Mine.Cl.enterC (by k_is) (by k_is) (by decide) (by w_strict (exact rfl)) (by w_strict (exact rfl)) (by w_strict (decide +kernel)) ?_ (by w_strict (exact rfl)) (by w_strict (exact rfl)) (by w_strict (exact rfl)); (intro z9dp z9un z9gd z9cn z9cs z9L z9a z9ccd z9cl z9outer z9base z9s z9g z9L' z9h₁ z9tk z9cs' z9E z9F' z9N' z9Y' z9B' z9X' z9T' z9hlt z9G z9hd z9hu z9hp); k_cells z9Y'; (try simp only [List.cons_append, List.nil_append] at z9N'); (try dsimp only)))))
  (repeat' (first | (k_unfold; (try dsimp only)) | (k_end; wrow_close) | ((with_reducible show wpAny _ _ (execs (_ :: _) _) _ _ ⟨_, _, _, _ + _, _⟩); refine absTok ?_; intro tk) | (with_reducible first | (k_here; (with_reducible show wpAny _ _ (call (Value.builtin "str.rfind") [Value.str _ _, Value.str _ _]) _ _ _); (refine rfind_S (by kopn_code) (by kopn_code) (by assumption) ?_; intro i9 _ _ ho9 hi9 hl9)) | (k_here; (with_reducible show wpAny _ _ (compareOp CmpOp.In (Value.str _ _) (Value.str _ _)) _ _ _); (refine mem_S (by kopn_code) (by kopn_code) (by w_strict (first | exact decide_eq_true (by assumption) | exact decide_eq_false (by assumption) | exact rfl)) ?_)) | (k_here; (with_reducible show wpAny _ _ (subscriptTail _ _ (Value.str _ _) (Value.int _ _)) _ _ _); (refine item_any (by kopn_code) (by w_strict (omega)) (by w_strict (first | omega | ((try simp only [List.length_append, List.length_cons, List.length_nil]); omega))) (by w_strict (first | omega | (simp only [List.length_append, List.length_cons, List.length_nil]; omega))) ?_; intro c9 _ _ hc9)) | ((with_reducible show wpAny _ _ (eval (Expr.ListComp _ _ _ _) _) _ _ _); (k_here; k_dflt (refine ListComp_S (by k_asm) (by k_asm) (by w_strict (with_unfolding_all rfl)) (by decide) (by rfl) (by decide) (by rfl) ?_ (by w_strict ((intro _; rfl))); k_whole; walk1; (refine ⟨_, _, rfl, rfl, by k_asm, by k_asm, by (rw [PySem.sizeLine_eq]; omega), ?_⟩; intro g'))))) | walk1 | (dsimp only; first | (with_reducible first | (k_here; (with_reducible show wpAny _ _ (call (Value.builtin "str.rfind") [Value.str _ _, Value.str _ _]) _ _ _); (refine rfind_S (by kopn_code) (by kopn_code) (by assumption) ?_; intro i9 _ _ ho9 hi9 hl9)) | (k_here; (with_reducible show wpAny _ _ (compareOp CmpOp.In (Value.str _ _) (Value.str _ _)) _ _ _); (refine mem_S (by kopn_code) (by kopn_code) (by w_strict (first | exact decide_eq_true (by assumption) | exact decide_eq_false (by assumption) | exact rfl)) ?_)) | (k_here; (with_reducible show wpAny _ _ (subscriptTail _ _ (Value.str _ _) (Value.int _ _)) _ _ _); (refine item_any (by kopn_code) (by w_strict (omega)) (by w_strict (first | omega | ((try simp only [List.length_append, List.length_cons, List.length_nil]); omega))) (by w_strict (first | omega | (simp only [List.length_append, List.length_cons, List.length_nil]; omega))) ?_; intro c9 _ _ hc9)) | ((with_reducible show wpAny _ _ (eval (Expr.ListComp _ _ _ _) _) _ _ _); (k_here; k_dflt (refine ListComp_S (by k_asm) (by k_asm) (by w_strict (with_unfolding_all rfl)) (by decide) (by rfl) (by decide) (by rfl) ?_ (by w_strict ((intro _; rfl))); k_whole; walk1; (refine ⟨_, _, rfl, rfl, by k_asm, by k_asm, by (rw [PySem.sizeLine_eq]; omega), ?_⟩; intro g'))))) | walk1) | (leave1; walk_say "STEP leave1"; try dsimp only) | fail "no step"))
  refine comp_signs (fun i => [mapS o n (x.getD i 0)]) trivial ?_ ?_
  · rintro i v I oI C oC D m₂ ys h8 tk8 E8 hi8 ⟨c, u, hc8, rfl⟩ hC hx8 F8 N8 off8 ne8
    have hg : x.getD i 0 = c := by simp [List.getD, hc8]
    rw [hg]
    by_cases hc : c ∈ o
    · (repeat' (first | (k_unfold; (try dsimp only)) | (k_end; wrow_close) | ((with_reducible show wpAny _ _ (execs (_ :: _) _) _ _ ⟨_, _, _, _ + _, _⟩); refine absTok ?_; intro tk) | (with_reducible first | (k_here; (with_reducible show wpAny _ _ (call (Value.builtin "str.rfind") [Value.str _ _, Value.str _ _]) _ _ _); (refine rfind_S (by kopn_code) (by kopn_code) (by assumption) ?_; intro i9 _ _ ho9 hi9 hl9)) | (k_here; (with_reducible show wpAny _ _ (compareOp CmpOp.In (Value.str _ _) (Value.str _ _)) _ _ _); (refine mem_S (by kopn_code) (by kopn_code) (by w_strict (first | exact decide_eq_true (by assumption) | exact decide_eq_false (by assumption) | exact rfl)) ?_)) | (k_here; (with_reducible show wpAny _ _ (subscriptTail _ _ (Value.str _ _) (Value.int _ _)) _ _ _); (refine item_any (by kopn_code) (by w_strict (omega)) (by w_strict (first | omega | ((try simp only [List.length_append, List.length_cons, List.length_nil]); omega))) (by w_strict (first | omega | (simp only [List.length_append, List.length_cons, List.length_nil]; omega))) ?_; intro c9 _ _ hc9)) | ((with_reducible show wpAny _ _ (eval (Expr.ListComp _ _ _ _) _) _ _ _); (k_here; k_dflt (refine ListComp_S (by k_asm) (by k_asm) (by w_strict (with_unfolding_all rfl)) (by decide) (by rfl) (by decide) (by rfl) ?_ (by w_strict ((intro _; rfl))); k_whole; walk1; (refine ⟨_, _, rfl, rfl, by k_asm, by k_asm, by (rw [PySem.sizeLine_eq]; omega), ?_⟩; intro g'))))) | walk1 | (dsimp only; first | (with_reducible first | (k_here; (with_reducible show wpAny _ _ (call (Value.builtin "str.rfind") [Value.str _ _, Value.str _ _]) _ _ _); (refine rfind_S (by kopn_code) (by kopn_code) (by assumption) ?_; intro i9 _ _ ho9 hi9 hl9)) | (k_here; (with_reducible show wpAny _ _ (compareOp CmpOp.In (Value.str _ _) (Value.str _ _)) _ _ _); (refine mem_S (by kopn_code) (by kopn_code) (by w_strict (first | exact decide_eq_true (by assumption) | exact decide_eq_false (by assumption) | exact rfl)) ?_)) | (k_here; (with_reducible show wpAny _ _ (subscriptTail _ _ (Value.str _ _) (Value.int _ _)) _ _ _); (refine item_any (by kopn_code) (by w_strict (omega)) (by w_strict (first | omega | ((try simp only [List.length_append, List.length_cons, List.length_nil]); omega))) (by w_strict (first | omega | (simp only [List.length_append, List.length_cons, List.length_nil]; omega))) ?_; intro c9 _ _ hc9)) | ((with_reducible show wpAny _ _ (eval (Expr.ListComp _ _ _ _) _) _ _ _); (k_here; k_dflt (refine ListComp_S (by k_asm) (by k_asm) (by w_strict (with_unfolding_all rfl)) (by decide) (by rfl) (by decide) (by rfl) ?_ (by w_strict ((intro _; rfl))); k_whole; walk1; (refine ⟨_, _, rfl, rfl, by k_asm, by k_asm, by (rw [PySem.sizeLine_eq]; omega), ?_⟩; intro g'))))) | walk1) | (leave1; walk_say "STEP leave1"; try dsimp only) | fail "no step"))
      (with_reducible rename ∀ (k : Nat), _ → _ ≠ _ => hl9)
      refine LCg.CompEnd.intro F8 N8 [_, _] (fun _ h => h) off8 trivial ⟨rfl, _, congrArg (fun z => Value.str (S [z]) _) (Eq.symm (mapS_yes ?_ ?_ hl9))⟩
      · assumption
      · assumption
    · (repeat' (first | (k_unfold; (try dsimp only)) | (k_end; wrow_close) | ((with_reducible show wpAny _ _ (execs (_ :: _) _) _ _ ⟨_, _, _, _ + _, _⟩); refine absTok ?_; intro tk) | (with_reducible first | (k_here; (with_reducible show wpAny _ _ (call (Value.builtin "str.rfind") [Value.str _ _, Value.str _ _]) _ _ _); (refine rfind_S (by kopn_code) (by kopn_code) (by assumption) ?_; intro i9 _ _ ho9 hi9 hl9)) | (k_here; (with_reducible show wpAny _ _ (compareOp CmpOp.In (Value.str _ _) (Value.str _ _)) _ _ _); (refine mem_S (by kopn_code) (by kopn_code) (by w_strict (first | exact decide_eq_true (by assumption) | exact decide_eq_false (by assumption) | exact rfl)) ?_)) | (k_here; (with_reducible show wpAny _ _ (subscriptTail _ _ (Value.str _ _) (Value.int _ _)) _ _ _); (refine item_any (by kopn_code) (by w_strict (omega)) (by w_strict (first | omega | ((try simp only [List.length_append, List.length_cons, List.length_nil]); omega))) (by w_strict (first | omega | (simp only [List.length_append, List.length_cons, List.length_nil]; omega))) ?_; intro c9 _ _ hc9)) | ((with_reducible show wpAny _ _ (eval (Expr.ListComp _ _ _ _) _) _ _ _); (k_here; k_dflt (refine ListComp_S (by k_asm) (by k_asm) (by w_strict (with_unfolding_all rfl)) (by decide) (by rfl) (by decide) (by rfl) ?_ (by w_strict ((intro _; rfl))); k_whole; walk1; (refine ⟨_, _, rfl, rfl, by k_asm, by k_asm, by (rw [PySem.sizeLine_eq]; omega), ?_⟩; intro g'))))) | walk1 | (dsimp only; first | (with_reducible first | (k_here; (with_reducible show wpAny _ _ (call (Value.builtin "str.rfind") [Value.str _ _, Value.str _ _]) _ _ _); (refine rfind_S (by kopn_code) (by kopn_code) (by assumption) ?_; intro i9 _ _ ho9 hi9 hl9)) | (k_here; (with_reducible show wpAny _ _ (compareOp CmpOp.In (Value.str _ _) (Value.str _ _)) _ _ _); (refine mem_S (by kopn_code) (by kopn_code) (by w_strict (first | exact decide_eq_true (by assumption) | exact decide_eq_false (by assumption) | exact rfl)) ?_)) | (k_here; (with_reducible show wpAny _ _ (subscriptTail _ _ (Value.str _ _) (Value.int _ _)) _ _ _); (refine item_any (by kopn_code) (by w_strict (omega)) (by w_strict (first | omega | ((try simp only [List.length_append, List.length_cons, List.length_nil]); omega))) (by w_strict (first | omega | (simp only [List.length_append, List.length_cons, List.length_nil]; omega))) ?_; intro c9 _ _ hc9)) | ((with_reducible show wpAny _ _ (eval (Expr.ListComp _ _ _ _) _) _ _ _); (k_here; k_dflt (refine ListComp_S (by k_asm) (by k_asm) (by w_strict (with_unfolding_all rfl)) (by decide) (by rfl) (by decide) (by rfl) ?_ (by w_strict ((intro _; rfl))); k_whole; walk1; (refine ⟨_, _, rfl, rfl, by k_asm, by k_asm, by (rw [PySem.sizeLine_eq]; omega), ?_⟩; intro g'))))) | walk1) | (leave1; walk_say "STEP leave1"; try dsimp only) | fail "no step"))
      exact LCg.CompEnd.intro F8 N8 [_, _] (fun _ h => h) off8 trivial ⟨rfl, _, congrArg (fun z => Value.str (S [z]) _) (Eq.symm (mapS_no hc))⟩
  · intro ys hys
    (repeat' (first | (k_unfold; (try dsimp only)) | (k_end; wrow_close) | ((with_reducible show wpAny _ _ (execs (_ :: _) _) _ _ ⟨_, _, _, _ + _, _⟩); refine absTok ?_; intro tk) | (with_reducible first | (k_here; (with_reducible show wpAny _ _ (call (Value.builtin "str.rfind") [Value.str _ _, Value.str _ _]) _ _ _); (refine rfind_S (by kopn_code) (by kopn_code) (by assumption) ?_; intro i9 _ _ ho9 hi9 hl9)) | (k_here; (with_reducible show wpAny _ _ (compareOp CmpOp.In (Value.str _ _) (Value.str _ _)) _ _ _); (refine mem_S (by kopn_code) (by kopn_code) (by w_strict (first | exact decide_eq_true (by assumption) | exact decide_eq_false (by assumption) | exact rfl)) ?_)) | (k_here; (with_reducible show wpAny _ _ (subscriptTail _ _ (Value.str _ _) (Value.int _ _)) _ _ _); (refine item_any (by kopn_code) (by w_strict (omega)) (by w_strict (first | omega | ((try simp only [List.length_append, List.length_cons, List.length_nil]); omega))) (by w_strict (first | omega | (simp only [List.length_append, List.length_cons, List.length_nil]; omega))) ?_; intro c9 _ _ hc9)) | ((with_reducible show wpAny _ _ (eval (Expr.ListComp _ _ _ _) _) _ _ _); (k_here; k_dflt (refine ListComp_S (by k_asm) (by k_asm) (by w_strict (with_unfolding_all rfl)) (by decide) (by rfl) (by decide) (by rfl) ?_ (by w_strict ((intro _; rfl))); k_whole; walk1; (refine ⟨_, _, rfl, rfl, by k_asm, by k_asm, by (rw [PySem.sizeLine_eq]; omega), ?_⟩; intro g'))))) | walk1 | (dsimp only; first | (with_reducible first | (k_here; (with_reducible show wpAny _ _ (call (Value.builtin "str.rfind") [Value.str _ _, Value.str _ _]) _ _ _); (refine rfind_S (by kopn_code) (by kopn_code) (by assumption) ?_; intro i9 _ _ ho9 hi9 hl9)) | (k_here; (with_reducible show wpAny _ _ (compareOp CmpOp.In (Value.str _ _) (Value.str _ _)) _ _ _); (refine mem_S (by kopn_code) (by kopn_code) (by w_strict (first | exact decide_eq_true (by assumption) | exact decide_eq_false (by assumption) | exact rfl)) ?_)) | (k_here; (with_reducible show wpAny _ _ (subscriptTail _ _ (Value.str _ _) (Value.int _ _)) _ _ _); (refine item_any (by kopn_code) (by w_strict (omega)) (by w_strict (first | omega | ((try simp only [List.length_append, List.length_cons, List.length_nil]); omega))) (by w_strict (first | omega | (simp only [List.length_append, List.length_cons, List.length_nil]; omega))) ?_; intro c9 _ _ hc9)) | ((with_reducible show wpAny _ _ (eval (Expr.ListComp _ _ _ _) _) _ _ _); (k_here; k_dflt (refine ListComp_S (by k_asm) (by k_asm) (by w_strict (with_unfolding_all rfl)) (by decide) (by rfl) (by decide) (by rfl) ?_ (by w_strict ((intro _; rfl))); k_whole; walk1; (refine ⟨_, _, rfl, rfl, by k_asm, by k_asm, by (rw [PySem.sizeLine_eq]; omega), ?_⟩; intro g'))))) | walk1) | (leave1; walk_say "STEP leave1"; try dsimp only) | fail "no step"))
    refine join_S lit_nil (by is_list) hys ?_ ?_
    · rw [comp_flat]; simp; omega
    · intro t7 k7
      rw [comp_flat]
      (repeat' (first | (k_unfold; (try dsimp only)) | (k_end; wrow_close) | ((with_reducible show wpAny _ _ (execs (_ :: _) _) _ _ ⟨_, _, _, _ + _, _⟩); refine absTok ?_; intro tk) | (with_reducible first | (k_here; (with_reducible show wpAny _ _ (call (Value.builtin "str.rfind") [Value.str _ _, Value.str _ _]) _ _ _); (refine rfind_S (by kopn_code) (by kopn_code) (by assumption) ?_; intro i9 _ _ ho9 hi9 hl9)) | (k_here; (with_reducible show wpAny _ _ (compareOp CmpOp.In (Value.str _ _) (Value.str _ _)) _ _ _); (refine mem_S (by kopn_code) (by kopn_code) (by w_strict (first | exact decide_eq_true (by assumption) | exact decide_eq_false (by assumption) | exact rfl)) ?_)) | (k_here; (with_reducible show wpAny _ _ (subscriptTail _ _ (Value.str _ _) (Value.int _ _)) _ _ _); (refine item_any (by kopn_code) (by w_strict (omega)) (by w_strict (first | omega | ((try simp only [List.length_append, List.length_cons, List.length_nil]); omega))) (by w_strict (first | omega | (simp only [List.length_append, List.length_cons, List.length_nil]; omega))) ?_; intro c9 _ _ hc9)) | ((with_reducible show wpAny _ _ (eval (Expr.ListComp _ _ _ _) _) _ _ _); (k_here; k_dflt (refine ListComp_S (by k_asm) (by k_asm) (by w_strict (with_unfolding_all rfl)) (by decide) (by rfl) (by decide) (by rfl) ?_ (by w_strict ((intro _; rfl))); k_whole; walk1; (refine ⟨_, _, rfl, rfl, by k_asm, by k_asm, by (rw [PySem.sizeLine_eq]; omega), ?_⟩; intro g'))))) | walk1 | (dsimp only; first | (with_reducible first | (k_here; (with_reducible show wpAny _ _ (call (Value.builtin "str.rfind") [Value.str _ _, Value.str _ _]) _ _ _); (refine rfind_S (by kopn_code) (by kopn_code) (by assumption) ?_; intro i9 _ _ ho9 hi9 hl9)) | (k_here; (with_reducible show wpAny _ _ (compareOp CmpOp.In (Value.str _ _) (Value.str _ _)) _ _ _); (refine mem_S (by kopn_code) (by kopn_code) (by w_strict (first | exact decide_eq_true (by assumption) | exact decide_eq_false (by assumption) | exact rfl)) ?_)) | (k_here; (with_reducible show wpAny _ _ (subscriptTail _ _ (Value.str _ _) (Value.int _ _)) _ _ _); (refine item_any (by kopn_code) (by w_strict (omega)) (by w_strict (first | omega | ((try simp only [List.length_append, List.length_cons, List.length_nil]); omega))) (by w_strict (first | omega | (simp only [List.length_append, List.length_cons, List.length_nil]; omega))) ?_; intro c9 _ _ hc9)) | ((with_reducible show wpAny _ _ (eval (Expr.ListComp _ _ _ _) _) _ _ _); (k_here; k_dflt (refine ListComp_S (by k_asm) (by k_asm) (by w_strict (with_unfolding_all rfl)) (by decide) (by rfl) (by decide) (by rfl) ?_ (by w_strict ((intro _; rfl))); k_whole; walk1; (refine ⟨_, _, rfl, rfl, by k_asm, by k_asm, by (rw [PySem.sizeLine_eq]; omega), ?_⟩; intro g'))))) | walk1) | (leave1; walk_say "STEP leave1"; try dsimp only) | fail "no step"))
      exact EndO.mk (by assumption) (by assumption) (own' := []) (by simp) ⟨_, rfl⟩

theorem off_dip : True := by w_top off; exact trivial
theorem isl_own {h g : Heap} {ns : List Addr} {l : Addr} {xs : Array Value} (G : GSub h g ns) (hl : h.IsList l xs) (hn : l ∉ ns) : g.IsList l xs := by
  obtain ⟨o, ho, r⟩ := hl
  exact ⟨o, G _ _ ho hn, r⟩
set_option maxHeartbeats 1000000 in
theorem dip_cl (w : World) (mean mg mb) (wl cl : Addr) (xs : List Value) (is : List Int) (k many : Int) (nn : Nat) (t t1 : Tok) (hk0 : 0 ≤ k) (hk : k ≤ 1000) (hm0 : 1 ≤ many) (hm : many ≤ 16) :
    Cl w mean mg mb 4 232 [.ref wl, .int many t1] [(wl, W.listOf [.ref cl, .int k t].toArray nn)] (fun h => h.IsList cl xs.toArray ∧ IntsAre xs is ∧ is.length ≤ 64 ∧ cl ≠ wl) (fun v _ _ own' => (∃ j t', 0 ≤ j ∧ j < many ∧ v = .int j t') ∧ ∃ t', own' = [(wl, W.listOf [.ref cl, .int (k + 1) t'].toArray nn)]) := by
  k_dflt ((refine here_in ?_; k_fill; intro _; (first | (refine Mine.Cl.enter (by k_is) (by k_is) (by decide) (by w_strict (exact rfl)) (by w_strict (exact locs rfl)) ?_ (by w_strict (exact rfl)) (by w_strict (exact rfl)) (by w_strict (exact rfl)) (by decide); (intro z9dp z9un z9gd z9cn z9cs z9L z9a z9ccd z9cl z9outer z9base z9s z9g z9L' z9h₁ z9tk z9cs' z9E z9F' z9N' z9hc z9B' z9X' z9T' z9hlt z9G z9hd z9hu z9hp); subst z9hc; (try simp only [List.cons_append, List.nil_append] at z9N'); (try dsimp only)) | (refine Mine.Cl.enterC (by k_is) (by k_is) (by decide) (by w_strict (exact rfl)) (by w_strict (exact rfl)) (by w_strict (decide +kernel)) ?_ (by w_strict (exact rfl)) (by w_strict (exact rfl)) (by w_strict (exact rfl)); (intro z9dp z9un z9gd z9cn z9cs z9L z9a z9ccd z9cl z9outer z9base z9s z9g z9L' z9h₁ z9tk z9cs' z9E z9F' z9N' z9Y' z9B' z9X' z9T' z9hlt z9G z9hd z9hu z9hp); k_cells z9Y'; (try simp only [List.cons_append, List.nil_append] at z9N'); (try dsimp only)))))
  (rename GSub _ _ _ => G)
  (rename _ ∧ _ => hL)
  obtain ⟨hL, hI, hlen, hne⟩ := hL
  have hL' := isl_own G hL (by simpa using hne)
  (repeat' (first | (k_unfold; (try dsimp only)) | (k_end; wrow_close) | ((with_reducible show wpAny _ _ (execs (_ :: _) _) _ _ ⟨_, _, _, _ + _, _⟩); refine absTok ?_; intro tk) | walk1 | (dsimp only; first | walk1) | (leave1; walk_say "STEP leave1"; try dsimp only) | fail "no step"))
  all_goals exact EndO.mk (own' := [(_, _)]) (by assumption) (by assumption) (fun p hp => by rw [List.mem_singleton.mp hp]; exact .head _) ⟨⟨_, _, Int.fmod_nonneg_of_pos _ (by omega), Int.fmod_lt_of_pos _ (by omega), rfl⟩, _, rfl⟩

theorem off_lines : True := by w_top off; exact trivial
theorem WAt.own {h g : Heap} {a : Addr} {ns : List Addr} (x : WAt h a) (G : GSub h g ns) (hw : ∀ b ∈ ns, ∃ its n, h.get? b = some (W.listOf its n)) : WAt g a := by
  obtain ⟨d, es, n, sl, h1, h2, r⟩ := x
  refine ⟨d, es, n, sl, G _ _ h1 fun hm => ?_, G _ _ h2 fun hm => ?_, r⟩
  · obtain ⟨its, n', e⟩ := hw _ hm
    rw [e] at h1
    have := congrArg (Obj.cls) (Option.some.inj h1)
    simp at this
  · obtain ⟨its, n', e⟩ := hw _ hm
    rw [e] at h2
    have := congrArg (Obj.cls) (Option.some.inj h2)
    exact absurd this (by simp)
theorem clash {h₀ h : Heap} {L f d wl c : Addr} {k : Int} {t : Tok} {n nn : Nat} {es : List DictEntry} {news : List (Addr × Obj)} (N : News h₀ L h news) (M : News h₀ L h [(f, instObj 47 d), (d, dictOf es nn)]) (hm : (wl, W.listOf [.ref c, .int k t].toArray n) ∈ news) : @Ne Nat f wl ∧ @Ne Nat d wl := by
  have hw := (N _ hm).1
  constructor
  · rintro rfl
    have := (M _ (.head _)).1
    rw [hw] at this
    have := congrArg Obj.cls (Option.some.inj this)
    simp at this
  · rintro rfl
    have := (M _ (.tail _ (.head _))).1
    rw [hw] at this
    have := congrArg Obj.cls (Option.some.inj this)
    simp at this
theorem ne_S_no {prog : Program} {w : World} {A : Around} {E : Value → Shared → Prop} {s : Shared} {x y : Str} {l k : List Nat} {t u : Tok} {Q : Value → Shared → Prop} (hx : x = S l) (hy : y = S k) (he : l = k) (h : Q (.bool false) s) : wpAny (model prog w) A (compareOp .NotEq (.str x t) (.str y u)) Q E s :=
  ne_S (b := false) hx hy (by rw [he, decide_eq_true rfl]; rfl) h
theorem isF_yes {w : World} {A : Around} {E : Value → Shared → Prop} {s : Shared} {h₀ : Heap} {L f d : Addr} {m : Str → Option Value} {Q : Value → Shared → Prop} {news : List (Addr × Obj)} {od : Obj} (F : Fr h₀ L s.heap m) (X₀ : (kf w.params).In h₀) (N : News h₀ L s.heap news)
    (hm : (f, instObj 47 d) ∈ news) (hm2 : (d, od) ∈ news) (e : isIn (kf w.params) (.ref 47) 47 = true) (h : Q (.bool true) s) :
    wpAny (model pg w) A (call (.builtin "isinstance") [.ref f, .ref 47]) Q E s :=
  isi_call (X₀.keeps F.keep) (fun _ => InstAt.type (InstAt.of_news N hm hm2)) e (fun e => by cases e) h
theorem isF_str {w : World} {A : Around} {E : Value → Shared → Prop} {s : Shared} {h₀ : Heap} {L : Addr} {m : Str → Option Value} {Q : Value → Shared → Prop} {x : Str} {t : Tok} (F : Fr h₀ L s.heap m) (X₀ : (kf w.params).In h₀)
    (e : isNotIn (kf w.params) "str" 47 = true) (h : Q (.bool false) { s with toks := s.toks + 1 }) :
    wpAny (model pg w) A (call (.builtin "isinstance") [.str x t, .ref 47]) Q E s :=
  isn_call (P := fun _ => True) (X₀.keeps F.keep) (fun _ => Looks.of_pure rfl) e (fun e => by cases e) trivial str_cls h
theorem eq_S_yes {prog : Program} {w : World} {A : Around} {E : Value → Shared → Prop} {s : Shared} {x y : Str} {l k : List Nat} {t u : Tok} {Q : Value → Shared → Prop} (hx : x = S l) (hy : y = S k) (he : l = k) (h : Q (.bool true) s) : wpAny (model prog w) A (compareOp .Eq (.str x t) (.str y u)) Q E s :=
  eq_S (b := true) hx hy (decide_eq_true he) h
theorem dip_use {w : World} {mean : ExcName → Option Value} {mg mb : Str → Option Value}
    {dp un : Nat} {gd : Option (List Code)} {cn : Str} {cs : Scope} {a : Addr} {ccd : Value} {cl : List (Str × Addr)} {outer : List Env} {A₀ : Around} {base h₀ : Heap} {L : Addr} {m : Str → Option Value} {s : Shared} {Q E : Value → Shared → Prop} {news : List (Addr × Obj)}
    {g : Obj → List (Addr × Obj)} {wl c : Addr} {xs : List Value} {is : List Int} {k many : Int} {nn : Nat} {t t1 : Tok}
    (B : Below A₀ base outer h₀) (F : Fr h₀ L s.heap m) (X : (kf w.params).In h₀) (N : News h₀ L s.heap news) (T : Top vw lz mean mg mb h₀) (hks : cs.kind = .function)
    (U : UpdF wl (W.listOf [.ref c, .int k t].toArray nn) news g) (hk0 : 0 ≤ k) (hk : k ≤ 1000) (hm0 : 1 ≤ many) (hm : many ≤ 16) (hl : s.heap.IsList c xs.toArray) (hI : IntsAre xs is) (hlen : is.length ≤ 64) (hne : @Ne Addr c wl)
    (hd : dp + 4 < recursionLimit) (hu : un + 8 * 4 < cLine)
    (ret : ∀ j t' t2 h' tk', 0 ≤ j → j < many → Fr h₀ L h' m → News h₀ L h' (g (W.listOf [.ref c, .int (k + 1) t2].toArray nn)) → (∀ b o, b ≠ wl → s.heap.get? b = some o → h'.get? b = some o) → Q (.int j t') { s with heap := h', toks := tk' }) :
    wpAny (model pg w) (ktrTop dp un gd cn cs L a ccd cl outer) (call (.ref 232) [.ref wl, .int many t1]) Q E s := by
  obtain ⟨pre, post, rfl, hg, ha, hb⟩ := U.split
  refine Cl.use (rest := pre ++ post) B F X N T hks (dip_cl w mean mg mb wl c xs is k many nn t t1 hk0 hk hm0 hm) hd hu ⟨hl, hI, hlen, hne⟩ (fun p hp => by rw [List.mem_singleton.mp hp]; simp) (fun p hp => ?_) fun v own' h' tk' R F' N' keep => ?_
  · rcases List.mem_append.mp hp with q | q
    · exact ⟨List.mem_append_left _ q, by simpa using ha p q⟩
    · exact ⟨List.mem_append_right _ (.tail _ q), by simpa using hb p q⟩
  · obtain ⟨⟨j, t', h1, h2, rfl⟩, t2, rfl⟩ := R
    refine ret j t' t2 h' tk' h1 h2 F' (fun p hp => N' p ?_) fun b o hn e => keep b o (by simpa using hn) e
    rw [hg] at hp
    simp only [List.mem_append, List.mem_cons, List.not_mem_nil, or_false] at hp ⊢
    rcases hp with h | rfl | h
    · exact .inr (.inl h)
    · exact .inl rfl
    · exact .inr (.inr h)
theorem partI_rep (o n x : List Nat) (b k : Int) : partI (rep o n x) b k = (partI x b k).map (rep o n) := by
  unfold partI
  rw [rep_len]
  split
  · rfl
  · split
    · simp [rep, List.map_drop]
    · split
      · simp [rep, List.map_drop, List.map_take]
      · rfl
theorem partI_len {x y : List Nat} {b k : Int} (h : partI x b k = some y) : y.length ≤ x.length := by
  unfold partI at h
  split at h
  · cases h
  · split at h
    · cases h; simp
    · split at h
      · cases h; simp; omega
      · cases h
theorem PartR_none {o n x : List Nat} {b k : Int} {v : Value} {own' : List (Addr × Obj)} (h : partI x b k = none) (R : PartR (partI (rep o n x) b k) v own') : ∃ f d es nn, v = .ref f ∧ own' = [(f, instObj 47 d), (d, dictOf es nn)] := by
  rw [partI_rep, h] at R; exact R
theorem PartR_some {o n x y : List Nat} {b k : Int} {v : Value} {own' : List (Addr × Obj)} (h : partI x b k = some y) (R : PartR (partI (rep o n x) b k) v own') : own' = [] ∧ ∃ t, v = .str (S (rep o n y)) t := by
  rw [partI_rep, h] at R; exact R
theorem PartR_cases {x : List Nat} {b k : Int} {v : Value} {own' : List (Addr × Obj)} (R : PartR (partI x b k) v own') : (partI x b k = none ∧ ∃ f d es nn, v = .ref f ∧ own' = [(f, instObj 47 d), (d, dictOf es nn)]) ∨ ∃ y, partI x b k = some y ∧ y.length ≤ x.length ∧ own' = [] ∧ ∃ t, v = .str (S y) t := by
  cases h : partI x b k with
  | none => rw [h] at R; exact .inl ⟨rfl, R⟩
  | some y => rw [h] at R; exact .inr ⟨y, rfl, partI_len h, R⟩
theorem flat_len (x : List Nat) (k : Int) (hx : x.length ≤ 8) (hk : k ≤ 8) : (List.replicate k.toNat x).flatten.length ≤ 64 := by
  simp only [List.length_flatten, List.map_replicate, List.sum_replicate_nat]
  calc k.toNat * x.length ≤ 8 * 8 := Nat.mul_le_mul (by omega) hx
    _ = 64 := rfl
theorem dupl_len {x : List Nat} {k : Int} {v : Value} (_R : ∃ t', v = .str (S (List.replicate k.toNat x).flatten) t') (hx : x.length ≤ 8) (hk : k ≤ 8) : (List.replicate k.toNat x).flatten.length ≤ 64 := flat_len x k hx hk
theorem rep_app (o n x y : List Nat) : rep o n (x ++ y) = rep o n x ++ rep o n y := by simp [rep]
theorem rep_rev (o n x : List Nat) : rep o n x.reverse = (rep o n x).reverse := by simp [rep]
theorem rep_flat (o n x : List Nat) (k : Nat) : rep o n (List.replicate k x).flatten = (List.replicate k (rep o n x)).flatten := by simp [rep, List.map_flatten]
theorem rep_pad (o n x : List Nat) (k c : Nat) : rep o n (List.replicate (k - x.length) c ++ x) = List.replicate (k - (rep o n x).length) (mapS o n c) ++ rep o n x := by simp [rep]
theorem rep_cons (o n r : List Nat) (c : Nat) : rep o n (c :: r) = mapS o n c :: rep o n r := rfl
theorem rep_nil (o n : List Nat) : rep o n [] = [] := rfl
abbrev sg : List Nat := [97, 98, 99, 100, 101, 102, 49, 50]
theorem lit_signs : Str.ofString "abcdef12" = S sg := by decide +kernel
local macro_rules | `(tactic| kopn_code) => `(tactic| with_reducible exact lit_signs)

theorem off_thr : True := by w_top off; exact trivial
theorem thr_end {g : Heap} {s : Shared} {L' wl cl : Addr} {m' : Str → Option Value} {all : List (Addr × Obj)} {h' : Heap} {tk' : Nat} {k k' : Int} {t' : Tok} {nn : Nat}
    (F : Fr g L' h' m') (N : News g L' h' all) (hm : (wl, W.listOf #[.ref cl, .int k' t'] nn) ∈ all) (h0 : 0 ≤ k') (h1 : k' ≤ k + 8) :
    EndO g (fun v _ own' => v = .bool true ∧ ∃ k' t', 0 ≤ k' ∧ k' ≤ k + 8 ∧ own' = [(wl, W.listOf [.ref cl, .int k' t'].toArray nn)]) s (.bool true) { s with heap := h', toks := tk' } :=
  EndO.mk F N (fun p hp => by rw [List.mem_singleton.mp hp]; exact hm) ⟨rfl, k', t', h0, h1, rfl⟩
set_option maxHeartbeats 8000000 in
theorem thr_cl (w : World) (mean mg mb) (wa wl cl : Addr) (x y o n : List Nat) (ta tb tc td : Tok) (xs : List Value) (is : List Int) (k : Int) (nn : Nat) (t : Tok) (hx : x.length ≤ 8) (hy : y.length ≤ 8) (ho : o.length ≤ 8) (hne : o ≠ []) (hon : o.length = n.length) (hk0 : 0 ≤ k) (hk : k ≤ 900) :
    Cl w mean mg mb 40 270 [.ref wa, .ref wl, .str (S x) ta, .str (S y) tb, .str (S o) tc, .str (S n) td] [(wl, W.listOf [.ref cl, .int k t].toArray nn)] (fun h => WAt h wa ∧ h.IsList cl xs.toArray ∧ IntsAre xs is ∧ is.length ≤ 64 ∧ cl ≠ wl ∧ h.get? wl = some (W.listOf [.ref cl, .int k t].toArray nn))
      (fun v _ _ own' => v = .bool true ∧ ∃ k' t', 0 ≤ k' ∧ k' ≤ k + 8 ∧ own' = [(wl, W.listOf [.ref cl, .int k' t'].toArray nn)]) := by
  k_dflt ((refine here_in ?_; k_fill; intro _; (first | (refine Mine.Cl.enter (by k_is) (by k_is) (by decide) (by w_strict (exact rfl)) (by w_strict (exact locs rfl)) ?_ (by w_strict (exact rfl)) (by w_strict (exact rfl)) (by w_strict (exact rfl)) (by decide); (intro z9dp z9un z9gd z9cn z9cs z9L z9a z9ccd z9cl z9outer z9base z9s z9g z9L' z9h₁ z9tk z9cs' z9E z9F' z9N' z9hc z9B' z9X' z9T' z9hlt z9G z9hd z9hu z9hp); subst z9hc; (try simp only [List.cons_append, List.nil_append] at z9N'); (try dsimp only)) | (refine Mine.Cl.enterC (by k_is) (by k_is) (by decide) (by w_strict (exact rfl)) (by w_strict (exact rfl)) (by w_strict (decide +kernel)) ?_ (by w_strict (exact rfl)) (by w_strict (exact rfl)) (by w_strict (exact rfl)); (intro z9dp z9un z9gd z9cn z9cs z9L z9a z9ccd z9cl z9outer z9base z9s z9g z9L' z9h₁ z9tk z9cs' z9E z9F' z9N' z9Y' z9B' z9X' z9T' z9hlt z9G z9hd z9hu z9hp); k_cells z9Y'; (try simp only [List.cons_append, List.nil_append] at z9N'); (try dsimp only)))))
  refine absQE fun Q9 E9 hQ9 => ?_
  (rename GSub _ _ _ => G)
  (rename _ ∧ _ => hL)
  obtain ⟨hW, hL, hI, hlen, hclwl, hwl⟩ := hL
  have hL' := isl_own G hL (by simpa using hclwl)
  have hW' := hW.own G (by intro b hb; rw [show b = wl by simpa using hb]; exact ⟨_, _, hwl⟩)
  clear hL hW
  (repeat' (first | (k_unfold; (try dsimp only)) | (k_end; wrow_close) | ((with_reducible show wpAny _ _ (execs (_ :: _) _) _ _ ⟨_, _, _, _ + _, _⟩); refine absTok ?_; intro tk) | (with_reducible first | (k_here; (with_reducible show wpAny _ _ (compareOp CmpOp.Eq (Value.str _ _) (Value.str _ _)) _ _ _); (refine eq_S_yes (by kopn_code) (by kopn_code) (by w_strict (first | with_reducible rfl | exact rep_app _ _ _ _ | exact rep_rev _ _ _ | exact rep_flat _ _ _ _ | exact rep_pad _ _ _ _ _)) ?_)) | (k_here; (with_reducible show wpAny _ _ (call (Value.builtin "isinstance") [Value.str _ _, Value.ref 47]) _ _ _); k_dflt (refine isF_str (by k_asm) (by k_asm) (by k_not) ?_)) | (k_here; (with_reducible show wpAny _ _ (call (Value.builtin "isinstance") [Value.ref _, Value.ref 47]) _ _ _); k_dflt (refine isF_yes (by k_asm) (by k_asm) (by k_asm) (by k_mem) (by k_mem) (by k_is) ?_)) | (k_here; (with_reducible show wpAny _ _ (binaryOp Operator.Add (Value.str _ _) (Value.str _ _)) _ _ _); (refine add_S (by kopn_code) (by kopn_code) (by w_strict (((try simp only [rep_len, List.length_append, List.length_cons, List.length_nil, List.length_drop, List.length_take]); omega))) ?_; intro _ _)) | (k_here; (with_reducible show wpAny _ _ (compareOp CmpOp.NotEq (Value.str _ _) (Value.str _ _)) _ _ _); (refine ne_S_no (by kopn_code) (by kopn_code) (by w_strict (first | exact rep_app _ _ _ _ | exact rep_rev _ _ _ | exact rep_flat _ _ _ _ | exact rep_pad _ _ _ _ _)) ?_)) | ((with_reducible show wpAny _ _ (call (Value.ref _) _) _ _ _); (k_here; k_dflt (refine Mine.dip_use (by k_asm) (by k_asm) (by k_asm) (by k_asm) (by k_asm) (by w_strict (first | exact rfl | assumption)) (by w_strict (k_updF)) (by w_strict (omega)) (by w_strict (omega)) (by w_strict (omega)) (by w_strict (omega)) (by is_list) (by assumption) (by w_strict (first | assumption | omega)) (by w_strict (first | assumption | k_ne)) (by k_room) (by k_units) ?_; intro j9 t9 t8 h9 tk9 hj9 hj8 F9 N9 keep9; (try dsimp only at N9); (try k_sweep); (try dsimp only)))) | ((with_reducible show wpAny _ _ (call (Value.ref _) _) _ _ _); (k_here; k_dflt (refine Mine.Cl.use2 (by k_asm) (by k_asm) (by k_asm) (by k_asm) (by k_asm) (by w_strict (first | exact rfl | assumption)) (by k_room) (by k_units) (by w_strict (exact ⟨by (first | assumption | exact WAt.keeps (by assumption) (Fr.keep (by k_asm))), by is_list⟩)) (substr_cl _ _ _ _ _ _ _ _ _ _ _ _ (by w_strict (first | assumption | exact TV.str _ _)) (by w_strict (((try simp only [rep_len, List.length_append, List.length_cons, List.length_nil]); omega))) (by w_strict (omega)) (by w_strict (omega)) (by w_strict (omega)) (by w_strict (omega))) ?_; intro v9 own9 h9 tk9 R9 F9 N9 M9 keep9; (first | (obtain ⟨e9', t9, e9⟩ := PartR_some (by assumption) R9; subst e9; subst e9'; clear M9; (try k_sweep); (try dsimp only)) | (obtain ⟨f9, d9, es9, nn9, e9, e9'⟩ := PartR_none (by assumption) R9; subst e9; subst e9'; (have hc9 := clash N9 M9 (by k_mem)); (have hc8 := hc9.1); (have hc7 := hc9.2); (have N8 := news_two N9 M9); clear N9 M9; (try k_sweep); (try dsimp only)) | (rcases PartR_cases R9 with ⟨hq9, f9, d9, es9, nn9, e9, e9'⟩ | ⟨y9, hq9, hy9, e9', t9, e9⟩ <;> (subst e9; subst e9'; (first | ((have hc9 := clash N9 M9 (by k_mem)); (have hc8 := hc9.1); (have hc7 := hc9.2); (have N8 := news_two N9 M9); clear N9 M9) | (clear M9)); (try k_sweep); (try dsimp only))))))) | ((with_reducible show wpAny _ _ (call (Value.ref _) _) _ _ _); (k_here; k_dflt (refine Mine.Cl.useS (by k_asm) (by k_asm) (by k_asm) (by k_asm) (by k_asm) (by w_strict (first | exact rfl | assumption)) (by k_room) (by k_units) (by w_strict (exact ⟨by (first | assumption | exact WAt.keeps (by assumption) (Fr.keep (by k_asm))), by is_list⟩)) (lpad_cl _ _ _ _ _ _ _ _ _ _ _ _ (by w_strict (first | assumption | exact TV.str _ _)) (by w_strict (first | assumption | exact TV.str _ _)) (by w_strict (((try simp only [rep_len, List.length_append, List.length_cons, List.length_nil]); omega))) (by w_strict (omega)) (by w_strict (omega))) ?_; intro t9 h9 tk9 F9 N9 keep9; (try k_sweep); (try dsimp only)))) | ((with_reducible show wpAny _ _ (call (Value.ref _) _) _ _ _); (k_here; k_dflt (refine Mine.Cl.use2 (by k_asm) (by k_asm) (by k_asm) (by k_asm) (by k_asm) (by w_strict (first | exact rfl | assumption)) (by k_room) (by k_units) (by w_strict (exact ⟨by (first | assumption | exact WAt.keeps (by assumption) (Fr.keep (by k_asm))), by is_list⟩)) (dupl_cl _ _ _ _ _ _ _ _ _ _ (by w_strict (first | assumption | exact TV.str _ _)) (by w_strict (((try simp only [rep_len, List.length_append, List.length_cons, List.length_nil]); omega))) (by w_strict (omega)) (by w_strict (omega))) ?_; intro v9 own9 h9 tk9 R9 F9 N9 M9 keep9; (have hd8 := dupl_len R9 (by first | assumption | (rw [rep_len]; assumption)) (by omega)); obtain ⟨t9, e9⟩ := R9; subst e9; clear M9; (try k_sweep); (try dsimp only)))) | ((with_reducible show wpAny _ _ (call (Value.ref _) _) _ _ _); (k_here; k_dflt (refine Mine.Cl.useS (by k_asm) (by k_asm) (by k_asm) (by k_asm) (by k_asm) (by w_strict (first | exact rfl | assumption)) (by k_room) (by k_units) (by is_list) (rev_cl _ _ _ _ _ _ _ _ (by w_strict (first | assumption | exact TV.str _ _)) (by w_strict (((try simp only [rep_len, List.length_append, List.length_cons, List.length_nil]); omega)))) ?_; intro t9 h9 tk9 F9 N9 keep9; (try k_sweep); (try dsimp only)))) | ((with_reducible show wpAny _ _ (call (Value.ref _) _) _ _ _); (k_here; k_dflt (refine Mine.Cl.useS (by k_asm) (by k_asm) (by k_asm) (by k_asm) (by k_asm) (by w_strict (first | exact rfl | assumption)) (by k_room) (by k_units) trivial (by_ok _ _ _ _ _ _ _ _ _ _ _ (by w_strict (((try simp only [rep_len, List.length_append, List.length_cons, List.length_nil, List.length_reverse, List.length_replicate]); omega))) (by w_strict (((try simp only [rep_len, List.length_append, List.length_cons, List.length_nil]); omega))) (by w_strict (((try simp only [rep_len, List.length_append, List.length_cons, List.length_nil]); omega))) (by w_strict (first | assumption | simp_all)) (by w_strict (((try simp only [rep_len, List.length_append, List.length_cons, List.length_nil]); omega)))) ?_; intro t9 h9 tk9 F9 N9 keep9; (try k_sweep); (try dsimp only))))) | walk1 | (dsimp only; first | (with_reducible first | (k_here; (with_reducible show wpAny _ _ (compareOp CmpOp.Eq (Value.str _ _) (Value.str _ _)) _ _ _); (refine eq_S_yes (by kopn_code) (by kopn_code) (by w_strict (first | with_reducible rfl | exact rep_app _ _ _ _ | exact rep_rev _ _ _ | exact rep_flat _ _ _ _ | exact rep_pad _ _ _ _ _)) ?_)) | (k_here; (with_reducible show wpAny _ _ (call (Value.builtin "isinstance") [Value.str _ _, Value.ref 47]) _ _ _); k_dflt (refine isF_str (by k_asm) (by k_asm) (by k_not) ?_)) | (k_here; (with_reducible show wpAny _ _ (call (Value.builtin "isinstance") [Value.ref _, Value.ref 47]) _ _ _); k_dflt (refine isF_yes (by k_asm) (by k_asm) (by k_asm) (by k_mem) (by k_mem) (by k_is) ?_)) | (k_here; (with_reducible show wpAny _ _ (binaryOp Operator.Add (Value.str _ _) (Value.str _ _)) _ _ _); (refine add_S (by kopn_code) (by kopn_code) (by w_strict (((try simp only [rep_len, List.length_append, List.length_cons, List.length_nil, List.length_drop, List.length_take]); omega))) ?_; intro _ _)) | (k_here; (with_reducible show wpAny _ _ (compareOp CmpOp.NotEq (Value.str _ _) (Value.str _ _)) _ _ _); (refine ne_S_no (by kopn_code) (by kopn_code) (by w_strict (first | exact rep_app _ _ _ _ | exact rep_rev _ _ _ | exact rep_flat _ _ _ _ | exact rep_pad _ _ _ _ _)) ?_)) | ((with_reducible show wpAny _ _ (call (Value.ref _) _) _ _ _); (k_here; k_dflt (refine Mine.dip_use (by k_asm) (by k_asm) (by k_asm) (by k_asm) (by k_asm) (by w_strict (first | exact rfl | assumption)) (by w_strict (k_updF)) (by w_strict (omega)) (by w_strict (omega)) (by w_strict (omega)) (by w_strict (omega)) (by is_list) (by assumption) (by w_strict (first | assumption | omega)) (by w_strict (first | assumption | k_ne)) (by k_room) (by k_units) ?_; intro j9 t9 t8 h9 tk9 hj9 hj8 F9 N9 keep9; (try dsimp only at N9); (try k_sweep); (try dsimp only)))) | ((with_reducible show wpAny _ _ (call (Value.ref _) _) _ _ _); (k_here; k_dflt (refine Mine.Cl.use2 (by k_asm) (by k_asm) (by k_asm) (by k_asm) (by k_asm) (by w_strict (first | exact rfl | assumption)) (by k_room) (by k_units) (by w_strict (exact ⟨by (first | assumption | exact WAt.keeps (by assumption) (Fr.keep (by k_asm))), by is_list⟩)) (substr_cl _ _ _ _ _ _ _ _ _ _ _ _ (by w_strict (first | assumption | exact TV.str _ _)) (by w_strict (((try simp only [rep_len, List.length_append, List.length_cons, List.length_nil]); omega))) (by w_strict (omega)) (by w_strict (omega)) (by w_strict (omega)) (by w_strict (omega))) ?_; intro v9 own9 h9 tk9 R9 F9 N9 M9 keep9; (first | (obtain ⟨e9', t9, e9⟩ := PartR_some (by assumption) R9; subst e9; subst e9'; clear M9; (try k_sweep); (try dsimp only)) | (obtain ⟨f9, d9, es9, nn9, e9, e9'⟩ := PartR_none (by assumption) R9; subst e9; subst e9'; (have hc9 := clash N9 M9 (by k_mem)); (have hc8 := hc9.1); (have hc7 := hc9.2); (have N8 := news_two N9 M9); clear N9 M9; (try k_sweep); (try dsimp only)) | (rcases PartR_cases R9 with ⟨hq9, f9, d9, es9, nn9, e9, e9'⟩ | ⟨y9, hq9, hy9, e9', t9, e9⟩ <;> (subst e9; subst e9'; (first | ((have hc9 := clash N9 M9 (by k_mem)); (have hc8 := hc9.1); (have hc7 := hc9.2); (have N8 := news_two N9 M9); clear N9 M9) | (clear M9)); (try k_sweep); (try dsimp only))))))) | ((with_reducible show wpAny _ _ (call (Value.ref _) _) _ _ _); (k_here; k_dflt (refine Mine.Cl.useS (by k_asm) (by k_asm) (by k_asm) (by k_asm) (by k_asm) (by w_strict (first | exact rfl | assumption)) (by k_room) (by k_units) (by w_strict (exact ⟨by (first | assumption | exact WAt.keeps (by assumption) (Fr.keep (by k_asm))), by is_list⟩)) (lpad_cl _ _ _ _ _ _ _ _ _ _ _ _ (by w_strict (first | assumption | exact TV.str _ _)) (by w_strict (first | assumption | exact TV.str _ _)) (by w_strict (((try simp only [rep_len, List.length_append, List.length_cons, List.length_nil]); omega))) (by w_strict (omega)) (by w_strict (omega))) ?_; intro t9 h9 tk9 F9 N9 keep9; (try k_sweep); (try dsimp only)))) | ((with_reducible show wpAny _ _ (call (Value.ref _) _) _ _ _); (k_here; k_dflt (refine Mine.Cl.use2 (by k_asm) (by k_asm) (by k_asm) (by k_asm) (by k_asm) (by w_strict (first | exact rfl | assumption)) (by k_room) (by k_units) (by w_strict (exact ⟨by (first | assumption | exact WAt.keeps (by assumption) (Fr.keep (by k_asm))), by is_list⟩)) (dupl_cl _ _ _ _ _ _ _ _ _ _ (by w_strict (first | assumption | exact TV.str _ _)) (by w_strict (((try simp only [rep_len, List.length_append, List.length_cons, List.length_nil]); omega))) (by w_strict (omega)) (by w_strict (omega))) ?_; intro v9 own9 h9 tk9 R9 F9 N9 M9 keep9; (have hd8 := dupl_len R9 (by first | assumption | (rw [rep_len]; assumption)) (by omega)); obtain ⟨t9, e9⟩ := R9; subst e9; clear M9; (try k_sweep); (try dsimp only)))) | ((with_reducible show wpAny _ _ (call (Value.ref _) _) _ _ _); (k_here; k_dflt (refine Mine.Cl.useS (by k_asm) (by k_asm) (by k_asm) (by k_asm) (by k_asm) (by w_strict (first | exact rfl | assumption)) (by k_room) (by k_units) (by is_list) (rev_cl _ _ _ _ _ _ _ _ (by w_strict (first | assumption | exact TV.str _ _)) (by w_strict (((try simp only [rep_len, List.length_append, List.length_cons, List.length_nil]); omega)))) ?_; intro t9 h9 tk9 F9 N9 keep9; (try k_sweep); (try dsimp only)))) | ((with_reducible show wpAny _ _ (call (Value.ref _) _) _ _ _); (k_here; k_dflt (refine Mine.Cl.useS (by k_asm) (by k_asm) (by k_asm) (by k_asm) (by k_asm) (by w_strict (first | exact rfl | assumption)) (by k_room) (by k_units) trivial (by_ok _ _ _ _ _ _ _ _ _ _ _ (by w_strict (((try simp only [rep_len, List.length_append, List.length_cons, List.length_nil, List.length_reverse, List.length_replicate]); omega))) (by w_strict (((try simp only [rep_len, List.length_append, List.length_cons, List.length_nil]); omega))) (by w_strict (((try simp only [rep_len, List.length_append, List.length_cons, List.length_nil]); omega))) (by w_strict (first | assumption | simp_all)) (by w_strict (((try simp only [rep_len, List.length_append, List.length_cons, List.length_nil]); omega)))) ?_; intro t9 h9 tk9 F9 N9 keep9; (try k_sweep); (try dsimp only))))) | walk1) | (leave1; walk_say "STEP leave1"; try dsimp only) | fail "no step"))
  all_goals (refine hQ9 _ _ ?_)
  (repeat' (first | (k_unfold; (try dsimp only)) | (k_end; wrow_close) | ((with_reducible show wpAny _ _ (execs (_ :: _) _) _ _ ⟨_, _, _, _ + _, _⟩); refine absTok ?_; intro tk) | (with_reducible first | (k_here; (with_reducible show wpAny _ _ (compareOp CmpOp.Eq (Value.str _ _) (Value.str _ _)) _ _ _); (refine eq_S_yes (by kopn_code) (by kopn_code) (by w_strict (first | with_reducible rfl | exact rep_app _ _ _ _ | exact rep_rev _ _ _ | exact rep_flat _ _ _ _ | exact rep_pad _ _ _ _ _)) ?_)) | (k_here; (with_reducible show wpAny _ _ (call (Value.builtin "isinstance") [Value.str _ _, Value.ref 47]) _ _ _); k_dflt (refine isF_str (by k_asm) (by k_asm) (by k_not) ?_)) | (k_here; (with_reducible show wpAny _ _ (call (Value.builtin "isinstance") [Value.ref _, Value.ref 47]) _ _ _); k_dflt (refine isF_yes (by k_asm) (by k_asm) (by k_asm) (by k_mem) (by k_mem) (by k_is) ?_)) | (k_here; (with_reducible show wpAny _ _ (binaryOp Operator.Add (Value.str _ _) (Value.str _ _)) _ _ _); (refine add_S (by kopn_code) (by kopn_code) (by w_strict (((try simp only [rep_len, List.length_append, List.length_cons, List.length_nil, List.length_drop, List.length_take]); omega))) ?_; intro _ _)) | (k_here; (with_reducible show wpAny _ _ (compareOp CmpOp.NotEq (Value.str _ _) (Value.str _ _)) _ _ _); (refine ne_S_no (by kopn_code) (by kopn_code) (by w_strict (first | exact rep_app _ _ _ _ | exact rep_rev _ _ _ | exact rep_flat _ _ _ _ | exact rep_pad _ _ _ _ _)) ?_)) | ((with_reducible show wpAny _ _ (call (Value.ref _) _) _ _ _); (k_here; k_dflt (refine Mine.dip_use (by k_asm) (by k_asm) (by k_asm) (by k_asm) (by k_asm) (by w_strict (first | exact rfl | assumption)) (by w_strict (k_updF)) (by w_strict (omega)) (by w_strict (omega)) (by w_strict (omega)) (by w_strict (omega)) (by is_list) (by assumption) (by w_strict (first | assumption | omega)) (by w_strict (first | assumption | k_ne)) (by k_room) (by k_units) ?_; intro j9 t9 t8 h9 tk9 hj9 hj8 F9 N9 keep9; (try dsimp only at N9); (try k_sweep); (try dsimp only)))) | ((with_reducible show wpAny _ _ (call (Value.ref _) _) _ _ _); (k_here; k_dflt (refine Mine.Cl.use2 (by k_asm) (by k_asm) (by k_asm) (by k_asm) (by k_asm) (by w_strict (first | exact rfl | assumption)) (by k_room) (by k_units) (by w_strict (exact ⟨by (first | assumption | exact WAt.keeps (by assumption) (Fr.keep (by k_asm))), by is_list⟩)) (substr_cl _ _ _ _ _ _ _ _ _ _ _ _ (by w_strict (first | assumption | exact TV.str _ _)) (by w_strict (((try simp only [rep_len, List.length_append, List.length_cons, List.length_nil]); omega))) (by w_strict (omega)) (by w_strict (omega)) (by w_strict (omega)) (by w_strict (omega))) ?_; intro v9 own9 h9 tk9 R9 F9 N9 M9 keep9; (first | (obtain ⟨e9', t9, e9⟩ := PartR_some (by assumption) R9; subst e9; subst e9'; clear M9; (try k_sweep); (try dsimp only)) | (obtain ⟨f9, d9, es9, nn9, e9, e9'⟩ := PartR_none (by assumption) R9; subst e9; subst e9'; (have hc9 := clash N9 M9 (by k_mem)); (have hc8 := hc9.1); (have hc7 := hc9.2); (have N8 := news_two N9 M9); clear N9 M9; (try k_sweep); (try dsimp only)) | (rcases PartR_cases R9 with ⟨hq9, f9, d9, es9, nn9, e9, e9'⟩ | ⟨y9, hq9, hy9, e9', t9, e9⟩ <;> (subst e9; subst e9'; (first | ((have hc9 := clash N9 M9 (by k_mem)); (have hc8 := hc9.1); (have hc7 := hc9.2); (have N8 := news_two N9 M9); clear N9 M9) | (clear M9)); (try k_sweep); (try dsimp only))))))) | ((with_reducible show wpAny _ _ (call (Value.ref _) _) _ _ _); (k_here; k_dflt (refine Mine.Cl.useS (by k_asm) (by k_asm) (by k_asm) (by k_asm) (by k_asm) (by w_strict (first | exact rfl | assumption)) (by k_room) (by k_units) (by w_strict (exact ⟨by (first | assumption | exact WAt.keeps (by assumption) (Fr.keep (by k_asm))), by is_list⟩)) (lpad_cl _ _ _ _ _ _ _ _ _ _ _ _ (by w_strict (first | assumption | exact TV.str _ _)) (by w_strict (first | assumption | exact TV.str _ _)) (by w_strict (((try simp only [rep_len, List.length_append, List.length_cons, List.length_nil]); omega))) (by w_strict (omega)) (by w_strict (omega))) ?_; intro t9 h9 tk9 F9 N9 keep9; (try k_sweep); (try dsimp only)))) | ((with_reducible show wpAny _ _ (call (Value.ref _) _) _ _ _); (k_here; k_dflt (refine Mine.Cl.use2 (by k_asm) (by k_asm) (by k_asm) (by k_asm) (by k_asm) (by w_strict (first | exact rfl | assumption)) (by k_room) (by k_units) (by w_strict (exact ⟨by (first | assumption | exact WAt.keeps (by assumption) (Fr.keep (by k_asm))), by is_list⟩)) (dupl_cl _ _ _ _ _ _ _ _ _ _ (by w_strict (first | assumption | exact TV.str _ _)) (by w_strict (((try simp only [rep_len, List.length_append, List.length_cons, List.length_nil]); omega))) (by w_strict (omega)) (by w_strict (omega))) ?_; intro v9 own9 h9 tk9 R9 F9 N9 M9 keep9; (have hd8 := dupl_len R9 (by first | assumption | (rw [rep_len]; assumption)) (by omega)); obtain ⟨t9, e9⟩ := R9; subst e9; clear M9; (try k_sweep); (try dsimp only)))) | ((with_reducible show wpAny _ _ (call (Value.ref _) _) _ _ _); (k_here; k_dflt (refine Mine.Cl.useS (by k_asm) (by k_asm) (by k_asm) (by k_asm) (by k_asm) (by w_strict (first | exact rfl | assumption)) (by k_room) (by k_units) (by is_list) (rev_cl _ _ _ _ _ _ _ _ (by w_strict (first | assumption | exact TV.str _ _)) (by w_strict (((try simp only [rep_len, List.length_append, List.length_cons, List.length_nil]); omega)))) ?_; intro t9 h9 tk9 F9 N9 keep9; (try k_sweep); (try dsimp only)))) | ((with_reducible show wpAny _ _ (call (Value.ref _) _) _ _ _); (k_here; k_dflt (refine Mine.Cl.useS (by k_asm) (by k_asm) (by k_asm) (by k_asm) (by k_asm) (by w_strict (first | exact rfl | assumption)) (by k_room) (by k_units) trivial (by_ok _ _ _ _ _ _ _ _ _ _ _ (by w_strict (((try simp only [rep_len, List.length_append, List.length_cons, List.length_nil, List.length_reverse, List.length_replicate]); omega))) (by w_strict (((try simp only [rep_len, List.length_append, List.length_cons, List.length_nil]); omega))) (by w_strict (((try simp only [rep_len, List.length_append, List.length_cons, List.length_nil]); omega))) (by w_strict (first | assumption | simp_all)) (by w_strict (((try simp only [rep_len, List.length_append, List.length_cons, List.length_nil]); omega)))) ?_; intro t9 h9 tk9 F9 N9 keep9; (try k_sweep); (try dsimp only))))) | walk1 | (dsimp only; first | (with_reducible first | (k_here; (with_reducible show wpAny _ _ (compareOp CmpOp.Eq (Value.str _ _) (Value.str _ _)) _ _ _); (refine eq_S_yes (by kopn_code) (by kopn_code) (by w_strict (first | with_reducible rfl | exact rep_app _ _ _ _ | exact rep_rev _ _ _ | exact rep_flat _ _ _ _ | exact rep_pad _ _ _ _ _)) ?_)) | (k_here; (with_reducible show wpAny _ _ (call (Value.builtin "isinstance") [Value.str _ _, Value.ref 47]) _ _ _); k_dflt (refine isF_str (by k_asm) (by k_asm) (by k_not) ?_)) | (k_here; (with_reducible show wpAny _ _ (call (Value.builtin "isinstance") [Value.ref _, Value.ref 47]) _ _ _); k_dflt (refine isF_yes (by k_asm) (by k_asm) (by k_asm) (by k_mem) (by k_mem) (by k_is) ?_)) | (k_here; (with_reducible show wpAny _ _ (binaryOp Operator.Add (Value.str _ _) (Value.str _ _)) _ _ _); (refine add_S (by kopn_code) (by kopn_code) (by w_strict (((try simp only [rep_len, List.length_append, List.length_cons, List.length_nil, List.length_drop, List.length_take]); omega))) ?_; intro _ _)) | (k_here; (with_reducible show wpAny _ _ (compareOp CmpOp.NotEq (Value.str _ _) (Value.str _ _)) _ _ _); (refine ne_S_no (by kopn_code) (by kopn_code) (by w_strict (first | exact rep_app _ _ _ _ | exact rep_rev _ _ _ | exact rep_flat _ _ _ _ | exact rep_pad _ _ _ _ _)) ?_)) | ((with_reducible show wpAny _ _ (call (Value.ref _) _) _ _ _); (k_here; k_dflt (refine Mine.dip_use (by k_asm) (by k_asm) (by k_asm) (by k_asm) (by k_asm) (by w_strict (first | exact rfl | assumption)) (by w_strict (k_updF)) (by w_strict (omega)) (by w_strict (omega)) (by w_strict (omega)) (by w_strict (omega)) (by is_list) (by assumption) (by w_strict (first | assumption | omega)) (by w_strict (first | assumption | k_ne)) (by k_room) (by k_units) ?_; intro j9 t9 t8 h9 tk9 hj9 hj8 F9 N9 keep9; (try dsimp only at N9); (try k_sweep); (try dsimp only)))) | ((with_reducible show wpAny _ _ (call (Value.ref _) _) _ _ _); (k_here; k_dflt (refine Mine.Cl.use2 (by k_asm) (by k_asm) (by k_asm) (by k_asm) (by k_asm) (by w_strict (first | exact rfl | assumption)) (by k_room) (by k_units) (by w_strict (exact ⟨by (first | assumption | exact WAt.keeps (by assumption) (Fr.keep (by k_asm))), by is_list⟩)) (substr_cl _ _ _ _ _ _ _ _ _ _ _ _ (by w_strict (first | assumption | exact TV.str _ _)) (by w_strict (((try simp only [rep_len, List.length_append, List.length_cons, List.length_nil]); omega))) (by w_strict (omega)) (by w_strict (omega)) (by w_strict (omega)) (by w_strict (omega))) ?_; intro v9 own9 h9 tk9 R9 F9 N9 M9 keep9; (first | (obtain ⟨e9', t9, e9⟩ := PartR_some (by assumption) R9; subst e9; subst e9'; clear M9; (try k_sweep); (try dsimp only)) | (obtain ⟨f9, d9, es9, nn9, e9, e9'⟩ := PartR_none (by assumption) R9; subst e9; subst e9'; (have hc9 := clash N9 M9 (by k_mem)); (have hc8 := hc9.1); (have hc7 := hc9.2); (have N8 := news_two N9 M9); clear N9 M9; (try k_sweep); (try dsimp only)) | (rcases PartR_cases R9 with ⟨hq9, f9, d9, es9, nn9, e9, e9'⟩ | ⟨y9, hq9, hy9, e9', t9, e9⟩ <;> (subst e9; subst e9'; (first | ((have hc9 := clash N9 M9 (by k_mem)); (have hc8 := hc9.1); (have hc7 := hc9.2); (have N8 := news_two N9 M9); clear N9 M9) | (clear M9)); (try k_sweep); (try dsimp only))))))) | ((with_reducible show wpAny _ _ (call (Value.ref _) _) _ _ _); (k_here; k_dflt (refine Mine.Cl.useS (by k_asm) (by k_asm) (by k_asm) (by k_asm) (by k_asm) (by w_strict (first | exact rfl | assumption)) (by k_room) (by k_units) (by w_strict (exact ⟨by (first | assumption | exact WAt.keeps (by assumption) (Fr.keep (by k_asm))), by is_list⟩)) (lpad_cl _ _ _ _ _ _ _ _ _ _ _ _ (by w_strict (first | assumption | exact TV.str _ _)) (by w_strict (first | assumption | exact TV.str _ _)) (by w_strict (((try simp only [rep_len, List.length_append, List.length_cons, List.length_nil]); omega))) (by w_strict (omega)) (by w_strict (omega))) ?_; intro t9 h9 tk9 F9 N9 keep9; (try k_sweep); (try dsimp only)))) | ((with_reducible show wpAny _ _ (call (Value.ref _) _) _ _ _); (k_here; k_dflt (refine Mine.Cl.use2 (by k_asm) (by k_asm) (by k_asm) (by k_asm) (by k_asm) (by w_strict (first | exact rfl | assumption)) (by k_room) (by k_units) (by w_strict (exact ⟨by (first | assumption | exact WAt.keeps (by assumption) (Fr.keep (by k_asm))), by is_list⟩)) (dupl_cl _ _ _ _ _ _ _ _ _ _ (by w_strict (first | assumption | exact TV.str _ _)) (by w_strict (((try simp only [rep_len, List.length_append, List.length_cons, List.length_nil]); omega))) (by w_strict (omega)) (by w_strict (omega))) ?_; intro v9 own9 h9 tk9 R9 F9 N9 M9 keep9; (have hd8 := dupl_len R9 (by first | assumption | (rw [rep_len]; assumption)) (by omega)); obtain ⟨t9, e9⟩ := R9; subst e9; clear M9; (try k_sweep); (try dsimp only)))) | ((with_reducible show wpAny _ _ (call (Value.ref _) _) _ _ _); (k_here; k_dflt (refine Mine.Cl.useS (by k_asm) (by k_asm) (by k_asm) (by k_asm) (by k_asm) (by w_strict (first | exact rfl | assumption)) (by k_room) (by k_units) (by is_list) (rev_cl _ _ _ _ _ _ _ _ (by w_strict (first | assumption | exact TV.str _ _)) (by w_strict (((try simp only [rep_len, List.length_append, List.length_cons, List.length_nil]); omega)))) ?_; intro t9 h9 tk9 F9 N9 keep9; (try k_sweep); (try dsimp only)))) | ((with_reducible show wpAny _ _ (call (Value.ref _) _) _ _ _); (k_here; k_dflt (refine Mine.Cl.useS (by k_asm) (by k_asm) (by k_asm) (by k_asm) (by k_asm) (by w_strict (first | exact rfl | assumption)) (by k_room) (by k_units) trivial (by_ok _ _ _ _ _ _ _ _ _ _ _ (by w_strict (((try simp only [rep_len, List.length_append, List.length_cons, List.length_nil, List.length_reverse, List.length_replicate]); omega))) (by w_strict (((try simp only [rep_len, List.length_append, List.length_cons, List.length_nil]); omega))) (by w_strict (((try simp only [rep_len, List.length_append, List.length_cons, List.length_nil]); omega))) (by w_strict (first | assumption | simp_all)) (by w_strict (((try simp only [rep_len, List.length_append, List.length_cons, List.length_nil]); omega)))) ?_; intro t9 h9 tk9 F9 N9 keep9; (try k_sweep); (try dsimp only))))) | walk1) | (leave1; walk_say "STEP leave1"; try dsimp only) | fail "no step"))
  all_goals exact thr_end (by assumption) (by assumption) (by k_mem) (by omega) (by omega)

theorem off_rounds : True := by w_top off; exact trivial
/-- f, k times -/
def it (f : Nat → Nat) : Nat → Nat → Nat
  | 0, c => c
  | k + 1, c => f (it f k c)
/-- what a table of the signs does: its rounds -/
structure Turns (nw : List Nat) (f d : Nat → Nat) (M : Nat) : Prop where
  len : nw.length = 8
  at1 : ∀ (i c : Nat), sg[i]? = some c → nw[i]? = some (f c)
  stay : ∀ c ∈ sg, f c ∈ sg
  one : ∀ c ∈ sg, 1 ≤ d c
  eight : ∀ c ∈ sg, d c ≤ 8
  back : ∀ c ∈ sg, it f (d c) c = c
  first : ∀ c ∈ sg, ∀ k, 1 ≤ k → k < d c → it f k c ≠ c
  all : ∀ c ∈ sg, d c ∣ M
  top : 1 ≤ M ∧ M ≤ 15
theorem it_stay {nw : List Nat} {f d : Nat → Nat} {M : Nat} (H : Turns nw f d M) {c : Nat} (hc : c ∈ sg) : ∀ k, it f k c ∈ sg
  | 0 => hc
  | k + 1 => H.stay _ (it_stay H hc k)
/-- the rounds of many signs -/
def lcmOf (d : Nat → Nat) (l : List Nat) : Nat := l.foldl (fun a c => Nat.lcm a (d c)) 1
theorem lcmOf_snoc (d : Nat → Nat) (l : List Nat) (c : Nat) : lcmOf d (l ++ [c]) = Nat.lcm (lcmOf d l) (d c) := by simp [lcmOf]
theorem rng (k : Nat) (h : k ≤ 8) : Builtin.Range.small 1 ((k : Int) + 1) 1 = true ∧ Builtin.Range.rangeSize 1 ((k : Int) + 1) 1 = (k : Int) := by
  have : ∀ k : Fin 9, Builtin.Range.small 1 (((k : Nat) : Int) + 1) 1 = true ∧ Builtin.Range.rangeSize 1 (((k : Nat) : Int) + 1) 1 = ((k : Nat) : Int) := by decide +kernel
  exact this ⟨k, by omega⟩
theorem first_turn (r k : Nat) (hr : 1 ≤ r) (hk : 1 ≤ k) : ∃ t0, t0 < k ∧ ((r * (t0 + 1)) % k == 0) = true ∧ (∀ i, i < t0 → ((r * (i + 1)) % k == 0) = false) ∧ r * (t0 + 1) = Nat.lcm r k := by
  have hg : 0 < Nat.gcd r k := Nat.gcd_pos_of_pos_left _ hr
  have hq1 : 1 ≤ k / Nat.gcd r k := Nat.div_pos (Nat.gcd_le_right _ hk) hg
  have hq2 : k / Nat.gcd r k ≤ k := Nat.div_le_self _ _
  have e : r * (k / Nat.gcd r k) = Nat.lcm r k := by
    unfold Nat.lcm
    rw [Nat.mul_div_assoc _ (Nat.gcd_dvd_right r k)]
  refine ⟨k / Nat.gcd r k - 1, by omega, ?_, ?_, ?_⟩
  · rw [Nat.sub_add_cancel hq1, e, beq_iff_eq]
    exact Nat.mod_eq_zero_of_dvd (Nat.dvd_lcm_right r k)
  · intro i hi
    rw [beq_eq_false_iff_ne]
    intro h
    have d1 := Nat.dvd_of_mod_eq_zero h
    have := Nat.lcm_dvd (Nat.dvd_mul_right r (i + 1)) d1
    have h2 := Nat.le_of_dvd (Nat.mul_pos hr (Nat.succ_pos i)) this
    rw [← e] at h2
    have := Nat.le_of_mul_le_mul_left h2 hr
    omega
  · rw [Nat.sub_add_cancel hq1, e]
theorem dv_eq (r i k : Nat) : Int.fmod ((r : Int) * (1 + (i : Int))) (k : Int) = (((r * (i + 1)) % k : Nat) : Int) := by
  have e2 : (r : Int) * (1 + (i : Int)) = ((r * (i + 1) : Nat) : Int) := by rw [Int.natCast_mul, Int.natCast_add, Int.add_comm]; rfl
  rw [e2, Int.fmod_eq_emod_of_nonneg _ (by omega)]
  exact (Int.natCast_emod _ _).symm
theorem dv_yes {r i k : Nat} (h : Int.fmod ((r : Int) * (1 + (i : Int))) (k : Int) = 0) : ((r * (i + 1)) % k == 0) = true := by
  rw [dv_eq] at h
  rw [beq_iff_eq]; exact Int.ofNat.inj h
theorem dv_no {r i k : Nat} (h : ¬ Int.fmod ((r : Int) * (1 + (i : Int))) (k : Int) = 0) : ((r * (i + 1)) % k == 0) = false := by
  rw [dv_eq] at h
  rw [beq_eq_false_iff_ne]
  intro e
  exact h (by rw [e]; rfl)
theorem lcmOf_dvd {d : Nat → Nat} {M : Nat} : ∀ (l : List Nat) (a : Nat), a ∣ M → (∀ c ∈ l, d c ∣ M) → l.foldl (fun a c => Nat.lcm a (d c)) a ∣ M
  | [], _, h, _ => h
  | c :: r, a, h, hl => lcmOf_dvd r _ (Nat.lcm_dvd h (hl c (.head _))) fun c hc => hl c (.tail _ hc)
theorem lcmOf_le {nw : List Nat} {f d : Nat → Nat} {M : Nat} (H : Turns nw f d M) {l : List Nat} (hl : ∀ c ∈ l, c ∈ sg) : 1 ≤ lcmOf d l ∧ lcmOf d l ≤ 15 := by
  have h := lcmOf_dvd (d := d) (M := M) l 1 (Nat.one_dvd _) fun c hc => H.all c (hl c hc)
  have := H.top
  exact ⟨Nat.pos_of_dvd_of_pos h this.1, Nat.le_trans (Nat.le_of_dvd this.1 h) this.2⟩
theorem item0 {prog : Program} {w : World} {A : Around} {E : Value → Shared → Prop} {s : Shared} {value slice : PySem.Expr} {l : Addr} {vs : List Value} {v : Value} {u : Tok} {Q : Value → Shared → Prop} (hl : s.heap.IsList l vs.toArray) (hx : vs.head? = some v) (h : Q v s)
    (hs : subscripted slice false (.ref l) (.int 0 u) = operate [.ref l, .int 0 u] (getItem (.ref l) (.int 0 u)) := by with_unfolding_all rfl) :
    wpAny (model prog w) A (subscriptTail value slice (.ref l) (.int 0 u)) Q E s :=
  tail_any hl.typeIs slot_list_getitem.lookup (wpAny_getItem_list hl (Int.le_refl 0) (by decide) (by cases vs with
    | nil => cases hx
    | cons a b => simpa using hx) h) hs
theorem comp_first {prog : Program} {w : World} {A : Around} {h₀ : Heap} {m : Str → Option Value} {env : Env} {L : Addr} {ct elt : Expr} {x : Str} {scope : Scope} {cl : List (Str × Addr)} {s : Shared} {SS : List (Addr × Obj) → Prop} {Fin : List Value → List (Addr × Obj) → Prop} {n : Nat} {P : Nat → Value → Prop} {news : List (Addr × Obj)} (g : Nat → Bool) (val : Nat → Int) {t0 : Nat} (hP : SS news)
    (h1 : t0 < n) (h2 : g t0 = true) (h3 : ∀ i, i < t0 → g i = false)
    (turn : ∀ i v I oI C oC D m₂ ys h tk (E' : Value → Shared → Prop), i < n → P i v → LCg.NsObj oC m₂ → m₂ x = some v → Fr h₀ L h m → News h₀ L h ((I, oI) :: (C, oC) :: (D, LCg.lst ys) :: news) → LCg.Off3 I C D news → ((@Ne Nat I C) ∧ (@Ne Nat I D) ∧ (@Ne Nat C D)) →
      wpAny (model prog w) A (isTrue ct (compEnvC scope cl C env) (eval ct (compEnvC scope cl C env))) (fun ok s' => if ok = true then
        wpAny (model prog w) A (eval elt (compEnvC scope cl C env)) (LCg.CompEnd h₀ L m { s with heap := h, toks := tk } I oI C oC D (LCg.lst ys) SS (fun y news' => news' = news ∧ g i = true ∧ ∃ t, y = .int (val i) t)) E' s'
        else LCg.CompEnd h₀ L m { s with heap := h, toks := tk } I oI C oC D (LCg.lst ys) SS (fun _ news' => news' = news ∧ g i = false) Value.none s') E' { s with heap := h, toks := tk })
    (fin : ∀ ys t, ys.head? = some (.int (val t0) t) → Fin ys news) : LCt.CompRestT prog w A h₀ L m env ct elt x scope cl s SS P Fin n 0 [] news := by
  have key : ∀ (j i : Nat) (ys : List Value), i + j = n → ((i ≤ t0 → ys = []) ∧ (t0 < i → ∃ t, ys.head? = some (.int (val t0) t))) → LCt.CompRestT prog w A h₀ L m env ct elt x scope cl s SS P Fin j i ys news := by
    intro j
    induction j with
    | zero =>
      intro i ys hi hy
      obtain ⟨t, ht⟩ := hy.2 (by omega)
      exact LCt.CompRestT.zero (fin ys t ht)
    | succ j ih =>
      intro i ys hi hy
      refine LCt.CompRestT.succ ?_
      intro v I oI C oC D m₂ h tk E' hv hC hx F N off ne
      refine wpAny_mono (turn i v I oI C oC D m₂ ys h tk E' (by omega) hv hC hx F N off ne) (fun ok s₁ hq => ?_) fun _ _ e => e
      cases ok with
      | true =>
        simp only [if_true] at hq ⊢
        refine wpAny_mono hq (fun y s₂ hq => ?_) fun _ _ e => e
        obtain ⟨h', tk', nw, e, F', N', off', hS, rfl, hg, t', rfl⟩ := hq
        refine ⟨h', tk', nw, e, F', N', off', hS, ih (i + 1) _ (by omega) ⟨fun q => ?_, fun q => ?_⟩⟩
        · have := h3 i (by omega)
          rw [hg] at this; cases this
        · rcases Nat.lt_or_ge t0 i with r | r
          · obtain ⟨t, ht⟩ := hy.2 r
            exact ⟨t, by cases ys with
              | nil => cases ht
              | cons a b => exact ht⟩
          · have : i = t0 := by omega
            subst this
            rw [hy.1 r]
            exact ⟨t', rfl⟩
      | false =>
        simp only [Bool.false_eq_true, if_false] at hq ⊢
        obtain ⟨h', tk', nw, e, F', N', off', hS, rfl, hg⟩ := hq
        refine ⟨h', tk', nw, e, F', N', off', hS, ih (i + 1) _ (by omega) ⟨fun q => hy.1 (by omega), fun q => ?_⟩⟩
        rcases Nat.lt_or_ge t0 i with r | r
        · exact hy.2 r
        · have : i = t0 := by omega
          subst this
          rw [h2] at hg; cases hg
  exact key n 0 [] (by omega) ⟨fun _ => rfl, fun q => by omega⟩
theorem codes_S (x : List Nat) : KStt.codes (S x) = x.map Int.ofNat := by
  unfold KStt.codes
  rw [S_toList]; rfl
theorem codes_mem {x : List Nat} {pre post : List Int} {c : Nat} (h : KStt.codes (S x) = pre ++ (c : Int) :: post) : c ∈ x := by
  rw [codes_S] at h
  have : (c : Int) ∈ x.map Int.ofNat := by rw [h]; simp
  obtain ⟨a, ha, e⟩ := List.mem_map.mp this
  have : a = c := Int.ofNat.inj e
  exact this ▸ ha
theorem codes_pre {x : List Nat} {pre post : List Int} {c : Nat} (h : KStt.codes (S x) = pre ++ (c : Int) :: post) : ∀ a ∈ pre.map Int.toNat, a ∈ x := by
  rw [codes_S] at h
  intro a ha
  obtain ⟨b, hb, e⟩ := List.mem_map.mp ha
  have : b ∈ x.map Int.ofNat := by rw [h]; exact List.mem_append_left _ hb
  obtain ⟨a', ha', e'⟩ := List.mem_map.mp this
  subst e'
  have : a' = a := e
  exact this ▸ ha'
section
local macro_rules | `(tactic| walk_at "CompSrcT") => `(tactic| (refine stop ?_))
set_option maxHeartbeats 4000000 in
theorem rounds_cl (w : World) (mean mg mb) (x nw : List Nat) (f d : Nat → Nat) (M : Nat) (H : Turns nw f d M) (t t1 : Tok) (hx : x.length ≤ 8) (hs : ∀ c ∈ x, c ∈ sg) :
    Cl w mean mg mb 4 256 [.str (S x) t, .str (S nw) t1] [] (fun _ => True) (fun v _ _ own' => ∃ t', v = .int (lcmOf d x : Int) t') := by
  k_dflt ((refine here_in ?_; k_fill; intro _; (first | (refine Mine.Cl.enter (by k_is) (by k_is) (by decide) (by w_strict (exact rfl)) (by w_strict (exact locs rfl)) ?_ (by w_strict (exact rfl)) (by w_strict (exact rfl)) (by w_strict (exact rfl)) (by decide); (intro z9dp z9un z9gd z9cn z9cs z9L z9a z9ccd z9cl z9outer z9base z9s z9g z9L' z9h₁ z9tk z9cs' z9E z9F' z9N' z9hc z9B' z9X' z9T' z9hlt z9G z9hd z9hu z9hp); subst z9hc; (try simp only [List.cons_append, List.nil_append] at z9N'); (try dsimp only)) | (refine Mine.Cl.enterC (by k_is) (by k_is) (by decide) (by w_strict (exact rfl)) (by w_strict (exact rfl)) (by w_strict (decide +kernel)) ?_ (by w_strict (exact rfl)) (by w_strict (exact rfl)) (by w_strict (exact rfl)); (intro z9dp z9un z9gd z9cn z9cs z9L z9a z9ccd z9cl z9outer z9base z9s z9g z9L' z9h₁ z9tk z9cs' z9E z9F' z9N' z9Y' z9B' z9X' z9T' z9hlt z9G z9hd z9hu z9hp); k_cells z9Y'; (try simp only [List.cons_append, List.nil_append] at z9N'); (try dsimp only)))))
  (repeat' (first | (k_unfold; (try dsimp only)) | (k_end; wrow_close) | ((with_reducible show wpAny _ _ (execs (_ :: _) _) _ _ ⟨_, _, _, _ + _, _⟩); refine absTok ?_; intro tk) | (with_reducible first | (k_here; (with_reducible show wpAny _ _ (eval (Expr.ListComp _ [⟨_, _, [_], _⟩] _ _) _) _ _ _); refine stop ?_) | (k_here; (with_reducible show wpAny _ _ (subscriptTail _ _ (Value.ref _) (Value.int 0 _)) _ _ _); k_dflt (refine item0 (by is_list) (by assumption) ?_ (by w_strict (with_unfolding_all rfl)))) | (k_here; (with_reducible show wpAny _ _ (call (Value.builtin "str.index") [Value.str _ _, Value.str _ _]) _ _ _); (refine index_S (by kopn_code) (by kopn_code) (by assumption) ?_; intro i9 _ _ ho9 hi9)) | (k_here; (with_reducible show wpAny _ _ (compareOp CmpOp.NotEq (Value.str _ _) (Value.str _ _)) _ _ _); (refine ne_S (by kopn_code) (by kopn_code) (by w_strict (first | (exact congrArg not (decide_eq_true (by first | assumption | exact rfl | omega))) | (exact congrArg not (decide_eq_false (by first | assumption | omega))) | exact rfl)) ?_))) | (k_here; (with_reducible show wpAny _ _ (subscriptTail _ _ (Value.str _ _) (Value.int _ _)) _ _ _); (refine item_S (by w_strict (exact rfl)) (by w_strict (omega)) (by w_strict (exact Turns.at1 (by assumption) _ _ (by assumption))) (by w_strict ((rw [Turns.len (by assumption)]; decide))) ?_; intro _ _)) | walk1 | (dsimp only; first | (with_reducible first | (k_here; (with_reducible show wpAny _ _ (eval (Expr.ListComp _ [⟨_, _, [_], _⟩] _ _) _) _ _ _); refine stop ?_) | (k_here; (with_reducible show wpAny _ _ (subscriptTail _ _ (Value.ref _) (Value.int 0 _)) _ _ _); k_dflt (refine item0 (by is_list) (by assumption) ?_ (by w_strict (with_unfolding_all rfl)))) | (k_here; (with_reducible show wpAny _ _ (call (Value.builtin "str.index") [Value.str _ _, Value.str _ _]) _ _ _); (refine index_S (by kopn_code) (by kopn_code) (by assumption) ?_; intro i9 _ _ ho9 hi9)) | (k_here; (with_reducible show wpAny _ _ (compareOp CmpOp.NotEq (Value.str _ _) (Value.str _ _)) _ _ _); (refine ne_S (by kopn_code) (by kopn_code) (by w_strict (first | (exact congrArg not (decide_eq_true (by first | assumption | exact rfl | omega))) | (exact congrArg not (decide_eq_false (by first | assumption | omega))) | exact rfl)) ?_))) | (k_here; (with_reducible show wpAny _ _ (subscriptTail _ _ (Value.str _ _) (Value.int _ _)) _ _ _); (refine item_S (by w_strict (exact rfl)) (by w_strict (omega)) (by w_strict (exact Turns.at1 (by assumption) _ _ (by assumption))) (by w_strict ((rw [Turns.len (by assumption)]; decide))) ?_; intro _ _)) | walk1) | (leave1; walk_say "STEP leave1"; try dsimp only) | fail "no step"))
  (with_reducible rename Fr _ _ _ _ => F9)
  (with_reducible rename News _ _ _ _ => N9)
  with_unfolding_all refine For_invVF F9 ?k1 ?k2 ?_
  · exact rfl
  · exact rfl
  walk1
  with_unfolding_all refine KStt.kst_text (fun c : Obj × Obj => [(_, c.1), (_, c.2)]) (fun _ => []) (fun _ => True) [Str.ofString "here"] (fun pre c => ∃ t, c.2.data = .cell (some (.int (lcmOf d (pre.map Int.toNat) : Int) t)) ∧ ∃ v, c.1.data = .cell v) (_, _) rfl F9 N9 trivial ?_ ?_ ?_ ?_
  · intro p hp; cases hp
  · exact ⟨_, by assumption, _, by assumption⟩
  · rintro ⟨om, of⟩ pre post c t9 u h9 tk9 own9 hcs hoff _ ⟨tf, hf, vm, hvm⟩ F8 N8
    dsimp only [kstB, List.map] at F8 N8 hf hvm hoff ⊢
    simp only [List.cons_append, List.nil_append] at N8
    simp only [← one_S] at F8
    clear F9 N9
    have hc : c ∈ sg := hs _ (codes_mem hcs)
    obtain ⟨hr1, hr2⟩ := lcmOf_le H (fun a ha => hs a (codes_pre hcs a ha))
    generalize hr : lcmOf d (pre.map Int.toNat) = r at hf hr1 hr2
    (repeat' (first | (k_unfold; (try dsimp only)) | (k_end; wrow_close) | ((with_reducible show wpAny _ _ (execs (_ :: _) _) _ _ ⟨_, _, _, _ + _, _⟩); refine absTok ?_; intro tk) | (with_reducible first | (k_here; (with_reducible show wpAny _ _ (eval (Expr.ListComp _ [⟨_, _, [_], _⟩] _ _) _) _ _ _); refine stop ?_) | (k_here; (with_reducible show wpAny _ _ (subscriptTail _ _ (Value.ref _) (Value.int 0 _)) _ _ _); k_dflt (refine item0 (by is_list) (by assumption) ?_ (by w_strict (with_unfolding_all rfl)))) | (k_here; (with_reducible show wpAny _ _ (call (Value.builtin "str.index") [Value.str _ _, Value.str _ _]) _ _ _); (refine index_S (by kopn_code) (by kopn_code) (by assumption) ?_; intro i9 _ _ ho9 hi9)) | (k_here; (with_reducible show wpAny _ _ (compareOp CmpOp.NotEq (Value.str _ _) (Value.str _ _)) _ _ _); (refine ne_S (by kopn_code) (by kopn_code) (by w_strict (first | (exact congrArg not (decide_eq_true (by first | assumption | exact rfl | omega))) | (exact congrArg not (decide_eq_false (by first | assumption | omega))) | exact rfl)) ?_))) | (k_here; (with_reducible show wpAny _ _ (subscriptTail _ _ (Value.str _ _) (Value.int _ _)) _ _ _); (refine item_S (by w_strict (exact rfl)) (by w_strict (omega)) (by w_strict (exact Turns.at1 (by assumption) _ _ (by assumption))) (by w_strict ((rw [Turns.len (by assumption)]; decide))) ?_; intro _ _)) | walk1 | (dsimp only; first | (with_reducible first | (k_here; (with_reducible show wpAny _ _ (eval (Expr.ListComp _ [⟨_, _, [_], _⟩] _ _) _) _ _ _); refine stop ?_) | (k_here; (with_reducible show wpAny _ _ (subscriptTail _ _ (Value.ref _) (Value.int 0 _)) _ _ _); k_dflt (refine item0 (by is_list) (by assumption) ?_ (by w_strict (with_unfolding_all rfl)))) | (k_here; (with_reducible show wpAny _ _ (call (Value.builtin "str.index") [Value.str _ _, Value.str _ _]) _ _ _); (refine index_S (by kopn_code) (by kopn_code) (by assumption) ?_; intro i9 _ _ ho9 hi9)) | (k_here; (with_reducible show wpAny _ _ (compareOp CmpOp.NotEq (Value.str _ _) (Value.str _ _)) _ _ _); (refine ne_S (by kopn_code) (by kopn_code) (by w_strict (first | (exact congrArg not (decide_eq_true (by first | assumption | exact rfl | omega))) | (exact congrArg not (decide_eq_false (by first | assumption | omega))) | exact rfl)) ?_))) | (k_here; (with_reducible show wpAny _ _ (subscriptTail _ _ (Value.str _ _) (Value.int _ _)) _ _ _); (refine item_S (by w_strict (exact rfl)) (by w_strict (omega)) (by w_strict (exact Turns.at1 (by assumption) _ _ (by assumption))) (by w_strict ((rw [Turns.len (by assumption)]; decide))) ?_; intro _ _)) | walk1) | (leave1; walk_say "STEP leave1"; try dsimp only) | fail "no step"))
    refine unstop ?_
    (with_reducible rename Fr _ _ _ _ => F7)
    (with_reducible rename News _ _ _ _ => N7)
    (rename Obj.data _ = Data.cell (some (Value.int 1 _)) => d7)
    refine while_g (α := Nat × Obj) (fun a => (_, a.2) :: (_, of) :: own9) (fun a => [(Str.ofString "here", .str (S [it f a.1 c]))]) [] (fun a => 1 ≤ a.1 ∧ a.1 ≤ d c ∧ ∃ t, a.2.data = .cell (some (.int (a.1 : Int) t))) (fun a => d c - a.1) (1, _) (fun _ => (by decide : [Str.ofString "here"].Nodup)) F7 (fun p hp => N7 p (.tail _ hp)) ?_ ⟨Nat.le_refl _, H.one c hc, _, d7⟩ ?_
    · intro p hp
      rcases List.mem_singleton.mp hp with rfl
      exact ⟨_, rfl⟩
    · rintro ⟨k, ok⟩ ts u h6 tk6 ⟨hk1, hk2, tk, hkd⟩ F6 N6
      dsimp only [kstB, List.map] at F6 N6 hk1 hk2 hkd ⊢
      simp only [List.contains_nil, Bool.false_eq_true, if_false] at F6
      clear N7 F7 d7
      by_cases hq : [it f k c] = [c]
      · have hkc : k = d c := by
          rcases Nat.lt_or_ge k (d c) with q | q
          · exact absurd (by simpa using hq) (H.first c hc k hk1 q)
          · omega
        (repeat' (first | (k_unfold; (try dsimp only)) | (k_end; wrow_close) | ((with_reducible show wpAny _ _ (execs (_ :: _) _) _ _ ⟨_, _, _, _ + _, _⟩); refine absTok ?_; intro tk) | (with_reducible first | (k_here; (with_reducible show wpAny _ _ (eval (Expr.ListComp _ [⟨_, _, [_], _⟩] _ _) _) _ _ _); refine stop ?_) | (k_here; (with_reducible show wpAny _ _ (subscriptTail _ _ (Value.ref _) (Value.int 0 _)) _ _ _); k_dflt (refine item0 (by is_list) (by assumption) ?_ (by w_strict (with_unfolding_all rfl)))) | (k_here; (with_reducible show wpAny _ _ (call (Value.builtin "str.index") [Value.str _ _, Value.str _ _]) _ _ _); (refine index_S (by kopn_code) (by kopn_code) (by assumption) ?_; intro i9 _ _ ho9 hi9)) | (k_here; (with_reducible show wpAny _ _ (compareOp CmpOp.NotEq (Value.str _ _) (Value.str _ _)) _ _ _); (refine ne_S (by kopn_code) (by kopn_code) (by w_strict (first | (exact congrArg not (decide_eq_true (by first | assumption | exact rfl | omega))) | (exact congrArg not (decide_eq_false (by first | assumption | omega))) | exact rfl)) ?_))) | (k_here; (with_reducible show wpAny _ _ (subscriptTail _ _ (Value.str _ _) (Value.int _ _)) _ _ _); (refine item_S (by w_strict (exact rfl)) (by w_strict (omega)) (by w_strict (exact Turns.at1 (by assumption) _ _ (by assumption))) (by w_strict ((rw [Turns.len (by assumption)]; decide))) ?_; intro _ _)) | walk1 | (dsimp only; first | (with_reducible first | (k_here; (with_reducible show wpAny _ _ (eval (Expr.ListComp _ [⟨_, _, [_], _⟩] _ _) _) _ _ _); refine stop ?_) | (k_here; (with_reducible show wpAny _ _ (subscriptTail _ _ (Value.ref _) (Value.int 0 _)) _ _ _); k_dflt (refine item0 (by is_list) (by assumption) ?_ (by w_strict (with_unfolding_all rfl)))) | (k_here; (with_reducible show wpAny _ _ (call (Value.builtin "str.index") [Value.str _ _, Value.str _ _]) _ _ _); (refine index_S (by kopn_code) (by kopn_code) (by assumption) ?_; intro i9 _ _ ho9 hi9)) | (k_here; (with_reducible show wpAny _ _ (compareOp CmpOp.NotEq (Value.str _ _) (Value.str _ _)) _ _ _); (refine ne_S (by kopn_code) (by kopn_code) (by w_strict (first | (exact congrArg not (decide_eq_true (by first | assumption | exact rfl | omega))) | (exact congrArg not (decide_eq_false (by first | assumption | omega))) | exact rfl)) ?_))) | (k_here; (with_reducible show wpAny _ _ (subscriptTail _ _ (Value.str _ _) (Value.int _ _)) _ _ _); (refine item_S (by w_strict (exact rfl)) (by w_strict (omega)) (by w_strict (exact Turns.at1 (by assumption) _ _ (by assumption))) (by w_strict ((rw [Turns.len (by assumption)]; decide))) ?_; intro _ _)) | walk1) | (leave1; walk_say "STEP leave1"; try dsimp only) | fail "no step"))
        refine unstop ?_
        refine LCt.ListComp_T (F₀ := by k_asm) (by with_unfolding_all rfl) (by decide) (by rfl) (by decide) (by rfl) ?_
        (repeat' (first | (k_unfold; (try dsimp only)) | (k_end; wrow_close) | ((with_reducible show wpAny _ _ (execs (_ :: _) _) _ _ ⟨_, _, _, _ + _, _⟩); refine absTok ?_; intro tk) | (with_reducible first | (k_here; (with_reducible show wpAny _ _ (eval (Expr.ListComp _ [⟨_, _, [_], _⟩] _ _) _) _ _ _); refine stop ?_) | (k_here; (with_reducible show wpAny _ _ (subscriptTail _ _ (Value.ref _) (Value.int 0 _)) _ _ _); k_dflt (refine item0 (by is_list) (by assumption) ?_ (by w_strict (with_unfolding_all rfl)))) | (k_here; (with_reducible show wpAny _ _ (call (Value.builtin "str.index") [Value.str _ _, Value.str _ _]) _ _ _); (refine index_S (by kopn_code) (by kopn_code) (by assumption) ?_; intro i9 _ _ ho9 hi9)) | (k_here; (with_reducible show wpAny _ _ (compareOp CmpOp.NotEq (Value.str _ _) (Value.str _ _)) _ _ _); (refine ne_S (by kopn_code) (by kopn_code) (by w_strict (first | (exact congrArg not (decide_eq_true (by first | assumption | exact rfl | omega))) | (exact congrArg not (decide_eq_false (by first | assumption | omega))) | exact rfl)) ?_))) | (k_here; (with_reducible show wpAny _ _ (subscriptTail _ _ (Value.str _ _) (Value.int _ _)) _ _ _); (refine item_S (by w_strict (exact rfl)) (by w_strict (omega)) (by w_strict (exact Turns.at1 (by assumption) _ _ (by assumption))) (by w_strict ((rw [Turns.len (by assumption)]; decide))) ?_; intro _ _)) | walk1 | (dsimp only; first | (with_reducible first | (k_here; (with_reducible show wpAny _ _ (eval (Expr.ListComp _ [⟨_, _, [_], _⟩] _ _) _) _ _ _); refine stop ?_) | (k_here; (with_reducible show wpAny _ _ (subscriptTail _ _ (Value.ref _) (Value.int 0 _)) _ _ _); k_dflt (refine item0 (by is_list) (by assumption) ?_ (by w_strict (with_unfolding_all rfl)))) | (k_here; (with_reducible show wpAny _ _ (call (Value.builtin "str.index") [Value.str _ _, Value.str _ _]) _ _ _); (refine index_S (by kopn_code) (by kopn_code) (by assumption) ?_; intro i9 _ _ ho9 hi9)) | (k_here; (with_reducible show wpAny _ _ (compareOp CmpOp.NotEq (Value.str _ _) (Value.str _ _)) _ _ _); (refine ne_S (by kopn_code) (by kopn_code) (by w_strict (first | (exact congrArg not (decide_eq_true (by first | assumption | exact rfl | omega))) | (exact congrArg not (decide_eq_false (by first | assumption | omega))) | exact rfl)) ?_))) | (k_here; (with_reducible show wpAny _ _ (subscriptTail _ _ (Value.str _ _) (Value.int _ _)) _ _ _); (refine item_S (by w_strict (exact rfl)) (by w_strict (omega)) (by w_strict (exact Turns.at1 (by assumption) _ _ (by assumption))) (by w_strict ((rw [Turns.len (by assumption)]; decide))) ?_; intro _ _)) | walk1) | (leave1; walk_say "STEP leave1"; try dsimp only) | fail "no step"))
        refine unstop ?_
        have hk8 := H.eight c hc
        have hrg := rng k (by omega)
        refine LCt.CompSrcT.range (n := k) (by rfl) (by k_asm) (by k_asm) (by assumption) hrg.1 hrg.2 (by rw [sizeLine_eq]; omega) ?_
        intro g5
        obtain ⟨t0, ht1, ht2, ht3, ht4⟩ := first_turn r k hr1 hk1
        refine comp_first (fun i => (r * (i + 1)) % k == 0) (fun i => ((r * (i + 1) : Nat) : Int)) trivial ht1 ht2 ht3 ?_ ?_
        · rintro i v I oI C oC D m₂ ys h8 tk8 E8 hi8 ⟨t8, rfl⟩ hC hx8 F8 N8 off8 ne8
          have off7 := off8
          simp only [LCg.Off3, and_true] at off8
          have e2 : (r : Int) * (1 + (i : Int)) = ((r * (i + 1) : Nat) : Int) := by rw [Int.natCast_mul, Int.natCast_add, Int.add_comm]; rfl
          (repeat' (first | (k_unfold; (try dsimp only)) | (k_end; wrow_close) | ((with_reducible show wpAny _ _ (execs (_ :: _) _) _ _ ⟨_, _, _, _ + _, _⟩); refine absTok ?_; intro tk) | (with_reducible first | (k_here; (with_reducible show wpAny _ _ (eval (Expr.ListComp _ [⟨_, _, [_], _⟩] _ _) _) _ _ _); refine stop ?_) | (k_here; (with_reducible show wpAny _ _ (subscriptTail _ _ (Value.ref _) (Value.int 0 _)) _ _ _); k_dflt (refine item0 (by is_list) (by assumption) ?_ (by w_strict (with_unfolding_all rfl)))) | (k_here; (with_reducible show wpAny _ _ (call (Value.builtin "str.index") [Value.str _ _, Value.str _ _]) _ _ _); (refine index_S (by kopn_code) (by kopn_code) (by assumption) ?_; intro i9 _ _ ho9 hi9)) | (k_here; (with_reducible show wpAny _ _ (compareOp CmpOp.NotEq (Value.str _ _) (Value.str _ _)) _ _ _); (refine ne_S (by kopn_code) (by kopn_code) (by w_strict (first | (exact congrArg not (decide_eq_true (by first | assumption | exact rfl | omega))) | (exact congrArg not (decide_eq_false (by first | assumption | omega))) | exact rfl)) ?_))) | (k_here; (with_reducible show wpAny _ _ (subscriptTail _ _ (Value.str _ _) (Value.int _ _)) _ _ _); (refine item_S (by w_strict (exact rfl)) (by w_strict (omega)) (by w_strict (exact Turns.at1 (by assumption) _ _ (by assumption))) (by w_strict ((rw [Turns.len (by assumption)]; decide))) ?_; intro _ _)) | walk1 | (dsimp only; first | (with_reducible first | (k_here; (with_reducible show wpAny _ _ (eval (Expr.ListComp _ [⟨_, _, [_], _⟩] _ _) _) _ _ _); refine stop ?_) | (k_here; (with_reducible show wpAny _ _ (subscriptTail _ _ (Value.ref _) (Value.int 0 _)) _ _ _); k_dflt (refine item0 (by is_list) (by assumption) ?_ (by w_strict (with_unfolding_all rfl)))) | (k_here; (with_reducible show wpAny _ _ (call (Value.builtin "str.index") [Value.str _ _, Value.str _ _]) _ _ _); (refine index_S (by kopn_code) (by kopn_code) (by assumption) ?_; intro i9 _ _ ho9 hi9)) | (k_here; (with_reducible show wpAny _ _ (compareOp CmpOp.NotEq (Value.str _ _) (Value.str _ _)) _ _ _); (refine ne_S (by kopn_code) (by kopn_code) (by w_strict (first | (exact congrArg not (decide_eq_true (by first | assumption | exact rfl | omega))) | (exact congrArg not (decide_eq_false (by first | assumption | omega))) | exact rfl)) ?_))) | (k_here; (with_reducible show wpAny _ _ (subscriptTail _ _ (Value.str _ _) (Value.int _ _)) _ _ _); (refine item_S (by w_strict (exact rfl)) (by w_strict (omega)) (by w_strict (exact Turns.at1 (by assumption) _ _ (by assumption))) (by w_strict ((rw [Turns.len (by assumption)]; decide))) ?_; intro _ _)) | walk1) | (leave1; walk_say "STEP leave1"; try dsimp only) | fail "no step"))
          · refine LCg.CompEnd.intro F8 N8 _ (fun _ h => h) off7 trivial ⟨rfl, dv_yes (by assumption), _, congrArg (fun z => Value.int z _) e2⟩
          · refine LCg.CompEnd.intro F8 N8 _ (fun _ h => h) off7 trivial ⟨rfl, dv_no (by assumption)⟩
        · intro ys t7 hys
          rw [ht4] at hys
          (repeat' (first | (k_unfold; (try dsimp only)) | (k_end; wrow_close) | ((with_reducible show wpAny _ _ (execs (_ :: _) _) _ _ ⟨_, _, _, _ + _, _⟩); refine absTok ?_; intro tk) | (with_reducible first | (k_here; (with_reducible show wpAny _ _ (eval (Expr.ListComp _ [⟨_, _, [_], _⟩] _ _) _) _ _ _); refine stop ?_) | (k_here; (with_reducible show wpAny _ _ (subscriptTail _ _ (Value.ref _) (Value.int 0 _)) _ _ _); k_dflt (refine item0 (by is_list) (by assumption) ?_ (by w_strict (with_unfolding_all rfl)))) | (k_here; (with_reducible show wpAny _ _ (call (Value.builtin "str.index") [Value.str _ _, Value.str _ _]) _ _ _); (refine index_S (by kopn_code) (by kopn_code) (by assumption) ?_; intro i9 _ _ ho9 hi9)) | (k_here; (with_reducible show wpAny _ _ (compareOp CmpOp.NotEq (Value.str _ _) (Value.str _ _)) _ _ _); (refine ne_S (by kopn_code) (by kopn_code) (by w_strict (first | (exact congrArg not (decide_eq_true (by first | assumption | exact rfl | omega))) | (exact congrArg not (decide_eq_false (by first | assumption | omega))) | exact rfl)) ?_))) | (k_here; (with_reducible show wpAny _ _ (subscriptTail _ _ (Value.str _ _) (Value.int _ _)) _ _ _); (refine item_S (by w_strict (exact rfl)) (by w_strict (omega)) (by w_strict (exact Turns.at1 (by assumption) _ _ (by assumption))) (by w_strict ((rw [Turns.len (by assumption)]; decide))) ?_; intro _ _)) | walk1 | (dsimp only; first | (with_reducible first | (k_here; (with_reducible show wpAny _ _ (eval (Expr.ListComp _ [⟨_, _, [_], _⟩] _ _) _) _ _ _); refine stop ?_) | (k_here; (with_reducible show wpAny _ _ (subscriptTail _ _ (Value.ref _) (Value.int 0 _)) _ _ _); k_dflt (refine item0 (by is_list) (by assumption) ?_ (by w_strict (with_unfolding_all rfl)))) | (k_here; (with_reducible show wpAny _ _ (call (Value.builtin "str.index") [Value.str _ _, Value.str _ _]) _ _ _); (refine index_S (by kopn_code) (by kopn_code) (by assumption) ?_; intro i9 _ _ ho9 hi9)) | (k_here; (with_reducible show wpAny _ _ (compareOp CmpOp.NotEq (Value.str _ _) (Value.str _ _)) _ _ _); (refine ne_S (by kopn_code) (by kopn_code) (by w_strict (first | (exact congrArg not (decide_eq_true (by first | assumption | exact rfl | omega))) | (exact congrArg not (decide_eq_false (by first | assumption | omega))) | exact rfl)) ?_))) | (k_here; (with_reducible show wpAny _ _ (subscriptTail _ _ (Value.str _ _) (Value.int _ _)) _ _ _); (refine item_S (by w_strict (exact rfl)) (by w_strict (omega)) (by w_strict (exact Turns.at1 (by assumption) _ _ (by assumption))) (by w_strict ((rw [Turns.len (by assumption)]; decide))) ?_; intro _ _)) | walk1) | (leave1; walk_say "STEP leave1"; try dsimp only) | fail "no step"))
          (with_reducible rename Fr _ _ _ _ => F4)
          (with_reducible rename News _ _ _ _ => N4)
          (rename Obj.data _ = Data.cell (some (Value.int ((Nat.lcm _ _ : Nat) : Int) _)) => d7)
          have e7 : ((lcmOf d ((pre ++ [(c : Int)]).map Int.toNat) : Nat) : Int) = ((Nat.lcm r k : Nat) : Int) := by
            rw [List.map_append]
            show ((lcmOf d (pre.map Int.toNat ++ [c]) : Nat) : Int) = _
            rw [lcmOf_snoc, hr, hkc]
          refine InvEndN.intro (nx := [(_, ok), (_, _)]) F4 N4 ⟨(ok, _), rfl, trivial, (fun p hp => nomatch hp), ?_, _, (by rw [e7]; exact d7), _, hkd⟩ rfl ?_ (fun p hp => .tail _ (.tail _ (.tail _ hp)))
          · intro z h1 _ h3
            have h4 : z ≠ Str.ofString "here" := by
              rintro rfl
              simp at h3
            simp [h1, h4]
          · intro p hp
            simp only [List.mem_cons, List.not_mem_nil, or_false] at hp ⊢
            rcases hp with rfl | rfl
            · exact .inr (.inl rfl)
            · exact .inr (.inr (.inl rfl))
      · have hkc : k < d c := by
          rcases Nat.lt_or_ge k (d c) with q | q
          · exact q
          · exact absurd (by rw [show k = d c by omega, H.back c hc]) hq
        have hic : it f k c ∈ sg := it_stay H hc k
        (repeat' (first | (k_unfold; (try dsimp only)) | (k_end; wrow_close) | ((with_reducible show wpAny _ _ (execs (_ :: _) _) _ _ ⟨_, _, _, _ + _, _⟩); refine absTok ?_; intro tk) | (with_reducible first | (k_here; (with_reducible show wpAny _ _ (eval (Expr.ListComp _ [⟨_, _, [_], _⟩] _ _) _) _ _ _); refine stop ?_) | (k_here; (with_reducible show wpAny _ _ (subscriptTail _ _ (Value.ref _) (Value.int 0 _)) _ _ _); k_dflt (refine item0 (by is_list) (by assumption) ?_ (by w_strict (with_unfolding_all rfl)))) | (k_here; (with_reducible show wpAny _ _ (call (Value.builtin "str.index") [Value.str _ _, Value.str _ _]) _ _ _); (refine index_S (by kopn_code) (by kopn_code) (by assumption) ?_; intro i9 _ _ ho9 hi9)) | (k_here; (with_reducible show wpAny _ _ (compareOp CmpOp.NotEq (Value.str _ _) (Value.str _ _)) _ _ _); (refine ne_S (by kopn_code) (by kopn_code) (by w_strict (first | (exact congrArg not (decide_eq_true (by first | assumption | exact rfl | omega))) | (exact congrArg not (decide_eq_false (by first | assumption | omega))) | exact rfl)) ?_))) | (k_here; (with_reducible show wpAny _ _ (subscriptTail _ _ (Value.str _ _) (Value.int _ _)) _ _ _); (refine item_S (by w_strict (exact rfl)) (by w_strict (omega)) (by w_strict (exact Turns.at1 (by assumption) _ _ (by assumption))) (by w_strict ((rw [Turns.len (by assumption)]; decide))) ?_; intro _ _)) | walk1 | (dsimp only; first | (with_reducible first | (k_here; (with_reducible show wpAny _ _ (eval (Expr.ListComp _ [⟨_, _, [_], _⟩] _ _) _) _ _ _); refine stop ?_) | (k_here; (with_reducible show wpAny _ _ (subscriptTail _ _ (Value.ref _) (Value.int 0 _)) _ _ _); k_dflt (refine item0 (by is_list) (by assumption) ?_ (by w_strict (with_unfolding_all rfl)))) | (k_here; (with_reducible show wpAny _ _ (call (Value.builtin "str.index") [Value.str _ _, Value.str _ _]) _ _ _); (refine index_S (by kopn_code) (by kopn_code) (by assumption) ?_; intro i9 _ _ ho9 hi9)) | (k_here; (with_reducible show wpAny _ _ (compareOp CmpOp.NotEq (Value.str _ _) (Value.str _ _)) _ _ _); (refine ne_S (by kopn_code) (by kopn_code) (by w_strict (first | (exact congrArg not (decide_eq_true (by first | assumption | exact rfl | omega))) | (exact congrArg not (decide_eq_false (by first | assumption | omega))) | exact rfl)) ?_))) | (k_here; (with_reducible show wpAny _ _ (subscriptTail _ _ (Value.str _ _) (Value.int _ _)) _ _ _); (refine item_S (by w_strict (exact rfl)) (by w_strict (omega)) (by w_strict (exact Turns.at1 (by assumption) _ _ (by assumption))) (by w_strict ((rw [Turns.len (by assumption)]; decide))) ?_; intro _ _)) | walk1) | (leave1; walk_say "STEP leave1"; try dsimp only) | fail "no step"))
        refine WEnd.mk (k + 1, _) (by assumption) (by assumption) (fun p hp => .tail _ hp) ?_ ?_ ⟨by omega, by omega, _, by assumption⟩ (by dsimp only; omega)
        · intro p hp
          rcases List.mem_singleton.mp hp with rfl
          exact ⟨_, rfl⟩
        · intro z hz _
          have z1 := hz _ (.head _)
          simp only at z1
          simp [z1]
  · rintro ⟨om, of⟩ u h9 tk9 _ ⟨tf, hf, vm, hvm⟩ F8 N8
    dsimp only [kstB, List.map] at F8 N8 hf hvm ⊢
    clear F9 N9
    rw [show (KStt.codes (S x)).map Int.toNat = x by rw [codes_S, List.map_map]; exact List.map_id x] at hf
    (repeat' (first | (k_unfold; (try dsimp only)) | (k_end; wrow_close) | ((with_reducible show wpAny _ _ (execs (_ :: _) _) _ _ ⟨_, _, _, _ + _, _⟩); refine absTok ?_; intro tk) | (with_reducible first | (k_here; (with_reducible show wpAny _ _ (eval (Expr.ListComp _ [⟨_, _, [_], _⟩] _ _) _) _ _ _); refine stop ?_) | (k_here; (with_reducible show wpAny _ _ (subscriptTail _ _ (Value.ref _) (Value.int 0 _)) _ _ _); k_dflt (refine item0 (by is_list) (by assumption) ?_ (by w_strict (with_unfolding_all rfl)))) | (k_here; (with_reducible show wpAny _ _ (call (Value.builtin "str.index") [Value.str _ _, Value.str _ _]) _ _ _); (refine index_S (by kopn_code) (by kopn_code) (by assumption) ?_; intro i9 _ _ ho9 hi9)) | (k_here; (with_reducible show wpAny _ _ (compareOp CmpOp.NotEq (Value.str _ _) (Value.str _ _)) _ _ _); (refine ne_S (by kopn_code) (by kopn_code) (by w_strict (first | (exact congrArg not (decide_eq_true (by first | assumption | exact rfl | omega))) | (exact congrArg not (decide_eq_false (by first | assumption | omega))) | exact rfl)) ?_))) | (k_here; (with_reducible show wpAny _ _ (subscriptTail _ _ (Value.str _ _) (Value.int _ _)) _ _ _); (refine item_S (by w_strict (exact rfl)) (by w_strict (omega)) (by w_strict (exact Turns.at1 (by assumption) _ _ (by assumption))) (by w_strict ((rw [Turns.len (by assumption)]; decide))) ?_; intro _ _)) | walk1 | (dsimp only; first | (with_reducible first | (k_here; (with_reducible show wpAny _ _ (eval (Expr.ListComp _ [⟨_, _, [_], _⟩] _ _) _) _ _ _); refine stop ?_) | (k_here; (with_reducible show wpAny _ _ (subscriptTail _ _ (Value.ref _) (Value.int 0 _)) _ _ _); k_dflt (refine item0 (by is_list) (by assumption) ?_ (by w_strict (with_unfolding_all rfl)))) | (k_here; (with_reducible show wpAny _ _ (call (Value.builtin "str.index") [Value.str _ _, Value.str _ _]) _ _ _); (refine index_S (by kopn_code) (by kopn_code) (by assumption) ?_; intro i9 _ _ ho9 hi9)) | (k_here; (with_reducible show wpAny _ _ (compareOp CmpOp.NotEq (Value.str _ _) (Value.str _ _)) _ _ _); (refine ne_S (by kopn_code) (by kopn_code) (by w_strict (first | (exact congrArg not (decide_eq_true (by first | assumption | exact rfl | omega))) | (exact congrArg not (decide_eq_false (by first | assumption | omega))) | exact rfl)) ?_))) | (k_here; (with_reducible show wpAny _ _ (subscriptTail _ _ (Value.str _ _) (Value.int _ _)) _ _ _); (refine item_S (by w_strict (exact rfl)) (by w_strict (omega)) (by w_strict (exact Turns.at1 (by assumption) _ _ (by assumption))) (by w_strict ((rw [Turns.len (by assumption)]; decide))) ?_; intro _ _)) | walk1) | (leave1; walk_say "STEP leave1"; try dsimp only) | fail "no step"))
    exact EndO.mk (own' := []) (by assumption) (by assumption) (by simp) ⟨_, rfl⟩
end

theorem off_math : True := by w_top off; exact trivial
theorem len_le {l l' : List Nat} (h : l.Nodup) (hs : ∀ a ∈ l, a ∈ l') : l.length ≤ l'.length := by
  induction l generalizing l' with
  | nil => exact Nat.zero_le _
  | cons a r ih =>
    have ha := hs a (.head _)
    have hn := List.nodup_cons.mp h
    have := ih (l' := l'.erase a) hn.2 fun b hb => by
      have hne : b ≠ a := fun e => hn.1 (e ▸ hb)
      exact (List.mem_erase_of_ne hne).mpr (hs b (.tail _ hb))
    rw [List.length_erase_of_mem ha] at this
    have := List.length_pos_of_mem ha
    simp only [List.length_cons]
    omega
theorem it_add (f : Nat → Nat) (a b c : Nat) : it f (a + b) c = it f a (it f b c) := by
  induction a with
  | zero => rw [Nat.zero_add]; rfl
  | succ a ih => rw [Nat.succ_add]; show f _ = f _; rw [ih]
section
variable {nw : List Nat} {f : Nat → Nat}
/-- a map of the signs onto themselves -/
structure Perm8 (f : Nat → Nat) : Prop where
  stay : ∀ c ∈ sg, f c ∈ sg
  inj : ∀ c ∈ sg, ∀ e ∈ sg, f c = f e → c = e
theorem Perm8.it_mem (P : Perm8 f) {c : Nat} (hc : c ∈ sg) : ∀ k, it f k c ∈ sg
  | 0 => hc
  | k + 1 => P.stay _ (P.it_mem hc k)
theorem Perm8.it_inj (P : Perm8 f) {c e : Nat} (hc : c ∈ sg) (he : e ∈ sg) : ∀ k, it f k c = it f k e → c = e
  | 0, h => h
  | k + 1, h => P.it_inj hc he k (P.inj _ (P.it_mem hc k) _ (P.it_mem he k) h)
theorem Perm8.back (P : Perm8 f) {c : Nat} (hc : c ∈ sg) {i j : Nat} (hij : i < j) (h : it f i c = it f j c) : it f (j - i) c = c := by
  have e : j = i + (j - i) := by omega
  rw [e, it_add] at h
  exact (P.it_inj hc (P.it_mem hc _) i h).symm
theorem pigeon (P : Perm8 f) {c : Nat} (hc : c ∈ sg) : ∃ k, 1 ≤ k ∧ k ≤ 8 ∧ it f k c = c := by
  by_cases h : ((List.range 9).map fun k => it f k c).Nodup
  · have := len_le h (l' := sg) (fun a ha => by
      obtain ⟨k, _, rfl⟩ := List.mem_map.mp ha
      exact P.it_mem hc k)
    simp at this
  · have : ∃ i j, i < j ∧ j < 9 ∧ it f i c = it f j c := by
      apply Classical.byContradiction
      intro hn
      apply h
      refine List.pairwise_map.mpr ?_
      refine List.Pairwise.imp_of_mem ?_ List.pairwise_lt_range
      intro a b ha hb hab e
      exact hn ⟨a, b, hab, List.mem_range.mp hb, e⟩
    obtain ⟨i, j, hij, hj, e⟩ := this
    exact ⟨j - i, by omega, by omega, P.back hc hij e⟩
/-- the length of a sign's round -/
def per (f : Nat → Nat) (c : Nat) : Nat := (([1, 2, 3, 4, 5, 6, 7, 8].find? fun k => it f k c == c).getD 1)
theorem find_first (p : Nat → Bool) : ∀ (n s : Nat), (∃ k, s ≤ k ∧ k < s + n ∧ p k = true) → ∃ k, (List.range' s n).find? p = some k ∧ s ≤ k ∧ k < s + n ∧ p k = true ∧ ∀ i, s ≤ i → i < k → p i = false
  | 0, s, ⟨k, h1, h2, _⟩ => by omega
  | n + 1, s, ⟨k, h1, h2, h3⟩ => by
    rw [List.range'_succ]
    by_cases hs : p s = true
    · exact ⟨s, by simp [List.find?_cons, hs], Nat.le_refl _, by omega, hs, fun i h1 h2 => by omega⟩
    · have hk : s ≠ k := fun e => hs (e ▸ h3)
      obtain ⟨k', e, a, b, c, d⟩ := find_first p n (s + 1) ⟨k, by omega, by omega, h3⟩
      refine ⟨k', by simp [List.find?_cons, hs, e], by omega, by omega, c, fun i h1 h2 => ?_⟩
      by_cases hi : i = s
      · subst hi; simpa using hs
      · exact d i (by omega) h2
theorem per_spec (P : Perm8 f) {c : Nat} (hc : c ∈ sg) : 1 ≤ per f c ∧ per f c ≤ 8 ∧ it f (per f c) c = c ∧ ∀ k, 1 ≤ k → k < per f c → it f k c ≠ c := by
  obtain ⟨k, h1, h2, h3⟩ := pigeon P hc
  obtain ⟨k', e, a, b, c', d⟩ := find_first (fun k => it f k c == c) 8 1 ⟨k, h1, by omega, by simpa using h3⟩
  have : per f c = k' := by unfold per; rw [show ([1, 2, 3, 4, 5, 6, 7, 8] : List Nat) = List.range' 1 8 from rfl, e]; rfl
  rw [this]
  exact ⟨a, by omega, by simpa using c', fun i h1 h2 => by simpa using d i h1 h2⟩
theorem per_next (P : Perm8 f) {c : Nat} (hc : c ∈ sg) : per f (f c) = per f c := by
  unfold per
  have : (fun k => it f k (f c) == f c) = fun k => it f k c == c := by
    funext k
    have e : it f k (f c) = f (it f k c) := by
      have h1 := it_add f k 1 c
      have h2 := it_add f 1 k c
      rw [Nat.add_comm 1 k] at h2
      exact h1.symm.trans h2
    rw [e, Bool.eq_iff_iff, beq_iff_eq, beq_iff_eq]
    exact ⟨fun h => P.inj _ (P.it_mem hc k) _ hc h, fun h => by rw [h]⟩
  rw [this]
theorem per_it (P : Perm8 f) {c : Nat} (hc : c ∈ sg) : ∀ k, per f (it f k c) = per f c
  | 0 => rfl
  | k + 1 => (per_next P (P.it_mem hc k)).trans (per_it P hc k)
theorem per_dvd (P : Perm8 f) {c : Nat} (hc : c ∈ sg) (j : Nat) : it f j c = c ↔ per f c ∣ j := by
  obtain ⟨p1, p8, pb, pf⟩ := per_spec P hc
  have mul : ∀ q, it f (per f c * q) c = c := by
    intro q
    induction q with
    | zero => rfl
    | succ q ih => rw [Nat.mul_succ, it_add, pb, ih]
  constructor
  · intro h
    have e := Nat.div_add_mod j (per f c)
    have hm : it f (j % per f c) c = c := by
      have e2 : j = j % per f c + per f c * (j / per f c) := by omega
      rw [e2, it_add, mul] at h
      exact h
    rcases Nat.eq_zero_or_pos (j % per f c) with z | z
    · exact Nat.dvd_of_mod_eq_zero z
    · exact absurd hm (pf _ z (Nat.mod_lt _ p1))
  · rintro ⟨q, rfl⟩
    exact mul q
theorem orbit (P : Perm8 f) {c : Nat} (hc : c ∈ sg) : per f c ≤ (sg.filter fun e => per f e == per f c).length := by
  obtain ⟨p1, p8, pb, pf⟩ := per_spec P hc
  have hnd : ((List.range (per f c)).map fun k => it f k c).Nodup := by
    refine List.pairwise_map.mpr ?_
    refine List.Pairwise.imp_of_mem ?_ List.pairwise_lt_range
    intro a b ha hb hab e
    have hb := List.mem_range.mp hb
    exact pf (b - a) (by omega) (by omega) (P.back hc hab e)
  have := len_le hnd (l' := sg.filter fun e => per f e == per f c) fun a ha => by
    obtain ⟨k, _, rfl⟩ := List.mem_map.mp ha
    exact List.mem_filter.mpr ⟨P.it_mem hc k, by simpa using per_it P hc k⟩
  simpa using this
theorem sum8 (d : Nat → Nat) : ∀ l : List Nat, (∀ c ∈ l, 1 ≤ d c ∧ d c ≤ 8) →
    (l.filter fun e => d e == 1).length + (l.filter fun e => d e == 2).length + (l.filter fun e => d e == 3).length + (l.filter fun e => d e == 4).length + (l.filter fun e => d e == 5).length + (l.filter fun e => d e == 6).length + (l.filter fun e => d e == 7).length + (l.filter fun e => d e == 8).length = l.length
  | [], _ => rfl
  | c :: r, h => by
    have ih := sum8 d r fun e he => h e (.tail _ he)
    obtain ⟨h1, h2⟩ := h c (.head _)
    have : d c = 1 ∨ d c = 2 ∨ d c = 3 ∨ d c = 4 ∨ d c = 5 ∨ d c = 6 ∨ d c = 7 ∨ d c = 8 := by omega
    rcases this with e | e | e | e | e | e | e | e <;> simp [List.filter_cons, e] <;> omega
def lk (b : Bool) (k : Nat) : Nat := if b then k else 1
def wt (b : Bool) (k : Nat) : Nat := if b then k else 0
def lcm8 (b1 b2 b3 b4 b5 b6 b7 b8 : Bool) : Nat := Nat.lcm (lk b1 1) (Nat.lcm (lk b2 2) (Nat.lcm (lk b3 3) (Nat.lcm (lk b4 4) (Nat.lcm (lk b5 5) (Nat.lcm (lk b6 6) (Nat.lcm (lk b7 7) (lk b8 8)))))))
theorem lcm8_le : ∀ b1 b2 b3 b4 b5 b6 b7 b8 : Bool, wt b1 1 + wt b2 2 + wt b3 3 + wt b4 4 + wt b5 5 + wt b6 6 + wt b7 7 + wt b8 8 ≤ 8 → 1 ≤ lcm8 b1 b2 b3 b4 b5 b6 b7 b8 ∧ lcm8 b1 b2 b3 b4 b5 b6 b7 b8 ≤ 15 := by decide +kernel
def has (f : Nat → Nat) (k : Nat) : Bool := sg.any fun c => per f c == k
theorem wt_le (P : Perm8 f) (k : Nat) : wt (has f k) k ≤ (sg.filter fun e => per f e == k).length := by
  unfold wt
  split
  · rename_i h
    obtain ⟨c, hc, e⟩ := List.any_eq_true.mp h
    have e : per f c = k := by simpa using e
    have := orbit P hc
    rw [e] at this
    exact this
  · exact Nat.zero_le _
def big (f : Nat → Nat) : Nat := lcm8 (has f 1) (has f 2) (has f 3) (has f 4) (has f 5) (has f 6) (has f 7) (has f 8)
theorem big_le (P : Perm8 f) : 1 ≤ big f ∧ big f ≤ 15 := by
  refine lcm8_le _ _ _ _ _ _ _ _ ?_
  have h := sum8 (per f) sg fun c hc => ⟨(per_spec P hc).1, (per_spec P hc).2.1⟩
  have hl : sg.length = 8 := rfl
  have h1 := wt_le P 1
  have h2 := wt_le P 2
  have h3 := wt_le P 3
  have h4 := wt_le P 4
  have h5 := wt_le P 5
  have h6 := wt_le P 6
  have h7 := wt_le P 7
  have h8 := wt_le P 8
  omega
theorem per_big (P : Perm8 f) {c : Nat} (hc : c ∈ sg) : per f c ∣ big f := by
  obtain ⟨p1, p8, _, _⟩ := per_spec P hc
  have hh : has f (per f c) = true := List.any_eq_true.mpr ⟨c, hc, by simp⟩
  have key : ∀ k, per f c = k → lk (has f k) k = per f c := fun k e => by rw [← e]; unfold lk; rw [hh]; rfl
  unfold big lcm8
  have : per f c = 1 ∨ per f c = 2 ∨ per f c = 3 ∨ per f c = 4 ∨ per f c = 5 ∨ per f c = 6 ∨ per f c = 7 ∨ per f c = 8 := by omega
  have L : ∀ a b, a ∣ Nat.lcm a b := Nat.dvd_lcm_left
  have R : ∀ {x : Nat} (a b : Nat), x ∣ b → x ∣ Nat.lcm a b := fun a b h => Nat.dvd_trans h (Nat.dvd_lcm_right a b)
  rcases this with e | e | e | e | e | e | e | e
  · have := key 1 e; rw [← this]; exact L _ _
  · have := key 2 e; rw [← this]; exact R _ _ (L _ _)
  · have := key 3 e; rw [← this]; exact R _ _ (R _ _ (L _ _))
  · have := key 4 e; rw [← this]; exact R _ _ (R _ _ (R _ _ (L _ _)))
  · have := key 5 e; rw [← this]; exact R _ _ (R _ _ (R _ _ (R _ _ (L _ _))))
  · have := key 6 e; rw [← this]; exact R _ _ (R _ _ (R _ _ (R _ _ (R _ _ (L _ _)))))
  · have := key 7 e; rw [← this]; exact R _ _ (R _ _ (R _ _ (R _ _ (R _ _ (R _ _ (L _ _))))))
  · have := key 8 e; rw [← this]; exact R _ _ (R _ _ (R _ _ (R _ _ (R _ _ (R _ _ (R _ _ (Nat.dvd_refl _)))))))
end
theorem sg_nodup : sg.Nodup := by decide
theorem at_unique {l : List Nat} (h : l.Nodup) {i j c : Nat} (hi : l[i]? = some c) (hj : l[j]? = some c) : i = j := by
  obtain ⟨h1, e1⟩ := List.getElem?_eq_some_iff.mp hi
  obtain ⟨h2, e2⟩ := List.getElem?_eq_some_iff.mp hj
  have p := List.pairwise_iff_getElem.mp h
  rcases Nat.lt_trichotomy i j with q | q | q
  · exact absurd (e1.trans e2.symm) (p i j h1 h2 q)
  · exact q
  · exact absurd (e2.trans e1.symm) (p j i h2 h1 q)
theorem mapS_at {o n : List Nat} (h : o.Nodup) {i c e : Nat} (h1 : o[i]? = some c) (h2 : n[i]? = some e) : mapS o n c = e :=
  mapS_yes h1 h2 fun k hk q => by have := at_unique h h1 q; omega
theorem perm_len {nw : List Nat} (hp : nw.Perm sg) : nw.length = 8 := hp.length_eq
theorem perm_at {nw : List Nat} (hp : nw.Perm sg) {i c : Nat} (h : sg[i]? = some c) : nw[i]? = some (mapS sg nw c) := by
  obtain ⟨h1, _⟩ := List.getElem?_eq_some_iff.mp h
  have h2 : i < nw.length := by rw [perm_len hp]; exact h1
  rw [List.getElem?_eq_getElem h2, mapS_at sg_nodup h (List.getElem?_eq_getElem h2)]
theorem perm8 {nw : List Nat} (hp : nw.Perm sg) : Perm8 (mapS sg nw) where
  stay c hc := by
    obtain ⟨i, hi⟩ := List.mem_iff_getElem?.mp hc
    exact hp.mem_iff.mp (List.mem_of_getElem? (perm_at hp hi))
  inj c hc e he h := by
    obtain ⟨i, hi⟩ := List.mem_iff_getElem?.mp hc
    obtain ⟨j, hj⟩ := List.mem_iff_getElem?.mp he
    have h1 := perm_at hp hi
    have h2 := perm_at hp hj
    rw [← h] at h2
    have := at_unique (hp.nodup_iff.mpr sg_nodup) h1 h2
    subst this
    rw [hi] at hj
    exact Option.some.inj hj
theorem turns_of {nw : List Nat} (hp : nw.Perm sg) : Turns nw (mapS sg nw) (per (mapS sg nw)) (big (mapS sg nw)) where
  len := perm_len hp
  at1 i c h := perm_at hp h
  stay := (perm8 hp).stay
  one c hc := (per_spec (perm8 hp) hc).1
  eight c hc := (per_spec (perm8 hp) hc).2.1
  back c hc := (per_spec (perm8 hp) hc).2.2.1
  first c hc := (per_spec (perm8 hp) hc).2.2.2
  all c hc := per_big (perm8 hp) hc
  top := big_le (perm8 hp)
/-- the table of the arrangement, the other way about -/
theorem undo {nw x : List Nat} (hp : nw.Perm sg) (hx : ∀ c ∈ x, c ∈ sg) : rep nw sg (rep sg nw x) = x := by
  unfold rep
  rw [List.map_map]
  conv => rhs; rw [← List.map_id x]
  refine List.map_congr_left fun c hc => ?_
  obtain ⟨i, hi⟩ := List.mem_iff_getElem?.mp (hx c hc)
  exact mapS_at (hp.nodup_iff.mpr sg_nodup) (perm_at hp hi) hi
theorem rep_sg {x : List Nat} (g : Nat → Nat) (hx : ∀ c ∈ x, c ∈ sg) : rep sg (sg.map g) x = x.map g := by
  unfold rep
  refine List.map_congr_left fun c hc => ?_
  obtain ⟨i, hi⟩ := List.mem_iff_getElem?.mp (hx c hc)
  exact mapS_at sg_nodup hi (by rw [List.getElem?_map, hi]; rfl)
/-- two tables in turn are the one table of both -/
theorem both {o1 n1 o2 n2 x : List Nat} (hx : ∀ c ∈ x, c ∈ sg) : rep o2 n2 (rep o1 n1 x) = rep sg (rep o2 n2 (rep o1 n1 sg)) x := by
  have : rep o2 n2 (rep o1 n1 sg) = sg.map fun c => mapS o2 n2 (mapS o1 n1 c) := by unfold rep; rw [List.map_map]; rfl
  rw [this, rep_sg _ hx]
  unfold rep
  rw [List.map_map]; rfl
theorem rep_it {nw x : List Nat} : ∀ k, x.map (it (mapS sg nw) (k + 1)) = rep sg nw (x.map (it (mapS sg nw) k)) := fun k => by
  unfold rep; rw [List.map_map]; rfl
theorem it_back {nw x : List Nat} (hp : nw.Perm sg) (hx : ∀ c ∈ x, c ∈ sg) (k : Nat) : x.map (it (mapS sg nw) k) = x ↔ lcmOf (per (mapS sg nw)) x ∣ k := by
  have P := perm8 hp
  have h1 : x.map (it (mapS sg nw) k) = x ↔ ∀ c ∈ x, it (mapS sg nw) k c = c := by
    conv => lhs; rhs; rw [← List.map_id x]
    exact List.map_inj_left
  have h2 : ∀ (l : List Nat) (a : Nat), (∀ c ∈ l, c ∈ sg) → (l.foldl (fun a c => Nat.lcm a (per (mapS sg nw) c)) a ∣ k ↔ a ∣ k ∧ ∀ c ∈ l, per (mapS sg nw) c ∣ k) := by
    intro l
    induction l with
    | nil => intro a _; simp
    | cons c r ih =>
      intro a hl
      rw [List.foldl_cons, ih _ fun e he => hl e (.tail _ he), Nat.lcm_dvd_iff]
      simp only [List.mem_cons, forall_eq_or_imp, and_assoc]
  rw [h1]
  unfold lcmOf
  rw [h2 x 1 hx]
  constructor
  · exact fun h => ⟨Nat.one_dvd _, fun c hc => (per_dvd P (hx c hc) k).mp (h c hc)⟩
  · exact fun h c hc => (per_dvd P (hx c hc) k).mpr (h.2 c hc)

theorem off_exc : True := by w_top off; exact trivial
section
open PySem.W
variable {prog : Program} {w : World} {A : Around} {E : Value → Shared → Prop} {h : Heap} {g : Array GenState} {d : Drawn} {t : Nat} {os : OsState}
variable {nm q : Str} {C N : Addr} {bs bm bmB : List Value} {hdct : Bool} {sn : List Str} {sub : List Value} {ab : Bool} {col : Option Bool} {dd : Option Addr} {k0 k1 k2 k3 k5 : Option Value} {B newId initId : String}
abbrev excNew (C : Addr) (t : Addr) : Obj := { cls := .ref C, data := .fields #[.ref t, .none, .none, .none, .bool false, .none] }
theorem type_call_own (F : ExcBaseFacts B newId initId bmB) (T : OwnTail h bmB bm) {mN : Str → Option Value} {rest : List Value} {fI : Addr} {R : Result → Shared → Prop}
    (hC : h.get? C = some (excClassObj nm q C N bs bm hdct sn sub ab col dd k0 k1 k2 k3 k5 newId)) (hn : h.Ns N mN) (hni : mN "__init__" = some (.ref fI)) (hb : ∀ self, Looks (model prog w) h (bindSpecial (.ref fI) self) (.ref fI, [self]))
    (hq : codeAny (model prog w) A (.call (.ref fI) ⟨.ref (h.objs.size + 1) :: rest, []⟩) (InitBack (h.objs.size + 1) R) ⟨(h.push { cls := .type "tuple", data := .seq rest.toArray }).push (excNew C h.objs.size), g, d, t, os⟩) (hrest : rest.length ≤ sizeLine := by size_fits) :
    wpAny (model prog w) A (Builtin.«type.__call__» ⟨.ref C :: rest, []⟩) (fun fin s' => match fin with | .done f => R (.ok f) s' | .again _ => False) (fun e s' => R (.error e) s') ⟨h, g, d, t, os⟩ := by
  repeat (first | with_reducible refine wpAny_loadPart_at hC ?_ | with_reducible refine wpAny_madeBy_exc hC ?_ | wp_step)
  refine codeAny_call_builtin_code (Code.quiet_builtin _ F.quiet) (wpAny_check_new_subT F T hC ?_)
  refine codeAny_exc_new_subT F T hC ?_ hrest
  show wpAny _ _ _ _ _ _
  have hC₁ := Heap.get?_push_of_some (excNew C h.objs.size) (Heap.get?_push_of_some { cls := .type "tuple", data := .seq rest.toArray } hC)
  have up : ∀ b o, h.get? b = some o → ((h.push { cls := .type "tuple", data := .seq rest.toArray }).push (excNew C h.objs.size)).get? b = some o := fun b o e => Heap.get?_push_of_some _ (Heap.get?_push_of_some _ e)
  have hn₁ : ((h.push { cls := .type "tuple", data := .seq rest.toArray }).push (excNew C h.objs.size)).Ns N mN := hn.keeps up
  have hget : ((h.push { cls := .type "tuple", data := .seq rest.toArray }).push (excNew C h.objs.size)).get? (h.objs.size + 1) = some (excNew C h.objs.size) := by heap_get
  have hcC : (Value.ref C :: bm).contains (.ref C) = true := by simp
  have T₁ := T.keeps up
  unfold isInstance
  repeat (first | with_reducible refine wpAny_loadPart_at hget ?_ | (with_reducible refine wpAny_isSubtype_exc hC₁ ?_; rw [hcC]) | wp_step)
  show wpAny _ _ (typeLookup (.ref C) _) _ _ _
  refine wpAny_typeLookup_tail hC₁ hn₁ T₁ F.mroIs F.init.lookup ?_
  rw [hni]
  refine wpAny_holding (wpAny_bind (((hb _).keeps up).at ?_))
  refine wpAny_bind (wpAny_call ?_)
  refine codeAny_mono hq fun r s' z => ?_
  rcases r with e | (v | _ | _ | _) <;> first | exact z | exact z.elim | skip
  obtain ⟨rfl, z⟩ := z
  exact wpAny_pure (wpAny_pure z)
theorem call_own (F : ExcBaseFacts B newId initId bmB) (T : OwnTail h bmB bm) {mN : Str → Option Value} {rest : List Value} {fI : Addr} {R : Result → Shared → Prop}
    (hC : h.get? C = some (excClassObj nm q C N bs bm hdct sn sub ab col dd k0 k1 k2 k3 k5 newId)) (hn : h.Ns N mN) (hni : mN "__init__" = some (.ref fI)) (hb : ∀ self, Looks (model prog w) h (bindSpecial (.ref fI) self) (.ref fI, [self]))
    (hq : codeAny (model prog w) (A.under (.builtin "type.__call__" ⟨.ref C :: rest, []⟩)) (.call (.ref fI) ⟨.ref (h.objs.size + 1) :: rest, []⟩) (InitBack (h.objs.size + 1) R) ⟨(h.push { cls := .type "tuple", data := .seq rest.toArray }).push (excNew C h.objs.size), g, d, t, os⟩) (hrest : rest.length ≤ sizeLine := by size_fits) :
    codeAny (model prog w) A (.call (.ref C) ⟨rest, []⟩) R ⟨h, g, d, t, os⟩ := by
  have f1 := tc_lookup
  have f2 := tc_bind (.ref C)
  have hT : (⟨h, g, d, t, os⟩ : Shared).TypeIs (.ref C) "type" := ⟨_, hC, rfl⟩
  refine codeAny_of_tree ?_
  show wpAny _ _ (callAny (.ref C) _) _ _ _
  repeat (any_goals (first | assumption | with_reducible refine wpAny_loadPart_at hC ?_ | wp_step))
  refine ⟨rfl, ?_⟩
  refine codeAny_call_builtin_at (Code.quiet_builtin _ (by decide +kernel)) entry_typeCall (wpAny_check_type_call_sub hC ?_)
  refine wpAny_mono (type_call_own (hrest := hrest) F T hC hn hni hb hq) (fun fin s' z => ?_) fun _ _ z => z
  cases fin with
  | done f => exact z
  | again c => exact z.elim
theorem ns_some_of {K : Frag} {h : Heap} {N : Addr} {mg : Str → Option Value} {n : Str} {v : Value} (X : K.In h) (G : h.Ns N mg) (e : nsIn K N n = some (some v)) : mg n = some v := by
  obtain ⟨o, es, ep, ho, hd, _, hf⟩ := G
  unfold nsIn at e
  split at e
  · rename_i c d es' n' sl q
    have := X _ _ q
    rw [ho] at this
    cases this
    cases hd
    split at e
    · rename_i en he
      cases e
      rw [← hf]
      unfold nsFind findBy
      rw [← Array.find?_toList, he]
      rfl
    · split at e <;> cases e
  · cases e
/-- a class of exceptions with an __init__ of its own -/
def excInI (K : Frag) (C : Addr) (bmB : List Value) (newId : String) (fI : Addr) : Bool := match K.lookup C with
  | some ⟨.type "type", _, .cls cd, sl⟩ => (match cd.mro, sl.toList with
    | .ref C' :: bm, [_, _, _, _, some (.builtin n), _] => C' == C && n == newId && !cd.hasDel && tailIn K bmB bm && nsOkIn K cd.ns && nsIn K cd.ns "__init__" == some (some (.ref fI))
    | _, _ => false)
  | _ => false
theorem call_exc {K : Frag} {s : Shared} {h₀ : Heap} {L fI : Addr} {m : Str → Option Value} {news : List (Addr × Obj)} {pos : List Value} {Q : Value → Shared → Prop} (FB : ExcBaseFacts B newId initId bmB) (F : Fr h₀ L s.heap m) (X₀ : K.In h₀) (Nw : News h₀ L s.heap news) (q : excInI K C bmB newId fI = true) (hf : isFn K (.ref fI) = true) (hsz : pos.length ≤ sizeLine)
    (hh : ∀ x t h', Fr h₀ L h' m → News h₀ L h' ((x, excNew C t) :: (t, { cls := .type "tuple", data := .seq pos.toArray }) :: news) → (∀ p ∈ news, p.1 < t) → t < x →
      codeAny (model prog w) (A.under (.builtin "type.__call__" ⟨.ref C :: pos, []⟩)) (.call (.ref fI) ⟨.ref x :: pos, []⟩) (InitBack x fun r s' => match r with | .ok (.ret v) => Q v s' | .ok _ => False | .error e => E e s') { s with heap := h' }) :
    wpAny (model prog w) A (call (.ref C) pos) Q E s := by
  have X := X₀.keeps F.keep
  unfold excInI at q
  split at q
  · rename_i dd cd sl ho
    split at q
    · rename_i C' bm k0 k1 k2 k3 n k5 hm hs
      simp only [Bool.and_eq_true, beq_iff_eq, Bool.not_eq_true'] at q
      obtain ⟨⟨⟨⟨⟨rfl, rfl⟩, hdel⟩, ht⟩, hok⟩, hni⟩ := q
      obtain ⟨nm, bs, mro, ns, qn, hd, sn, sub, ab, col, del⟩ := cd
      dsimp only at hm hdel hok hni
      subst hm hdel
      have hsl : sl = #[k0, k1, k2, k3, some (.builtin n), k5] := by
        obtain ⟨l⟩ := sl
        simp only at hs
        rw [hs]
      subst hsl
      obtain ⟨hp, g, d, t, os⟩ := s
      have hns : hp.Ns ns (hp.nsMap ns) := .of_isNs (isNs_of_in X hok)
      refine wpAny_call (call_own FB (tail_of_in X ht) (X _ _ ho) hns (ns_some_of X hns hni) (fun self => bind_fn X self (beq_iff_eq.mp hf)) (hh _ _ _ ((F.push _).push _) ?_ (fun p hp => Heap.lt_size (Nw p hp).1) (Nat.lt_succ_self _)) hsz)
      have := (Nw.push F { cls := .type "tuple", data := .seq pos.toArray }).push (F.push _) (excNew C' hp.objs.size)
      rwa [Heap.size_push] at this
    · cases q
  · cases q
end

theorem off_exc3 : True := by w_top off; exact trivial
theorem slot_wd_get : Slot "wrapper_descriptor" "__get__" "wrapper_descriptor.__get__" := .of (owner := "wrapper_descriptor") (n := "__get__") (by rw [typeLookup_type, builtinLookup_eq_fast]; kernel_rfl) (by decide +kernel) (by decide +kernel) (by decide +kernel) (by first | exact .inl (by decide +kernel) | exact .inr (by decide +kernel)) (by rw [isSubtype_type]; kernel_rfl)
theorem entry_wd_get : entryFor table "wrapper_descriptor.__get__" = some Builtin.«wrapper_descriptor.__get__» := entryFor_of_tree (by kernel_rfl)
theorem args_wd_get (a b c : Value) : argsOk "wrapper_descriptor.__get__" ⟨[a, b, c], []⟩ := by unfold argsOk; kernel_rfl
theorem type_wd : typeOf (.builtin "Exception.__init__") = pure (.type "wrapper_descriptor") := by kernel_rfl
theorem along34 (w : World) : alongIn (kf w.params) (Str.ofString "__init__") [.type "Exception", .type "BaseException", .type "object"] = some (some (.builtin "Exception.__init__")) := by kernel_rfl
section
open PySem.W
variable {prog : Program} {w : World} {A : Around} {E : Value → Shared → Prop} {h : Heap} {g : Array GenState} {d : Drawn} {t : Nat} {os : OsState}
set_option maxHeartbeats 2000000 in
theorem super_ga_b {so D x C : Addr} {l₀ l : List Value} {K : Frag} {name : Str} {tk : Tok} {Q : Fin → Shared → Prop}
    (hso : h.get? so = some (ks_superObj D x C)) (hno : Looks (model prog w) h (opaqueClassAbove (.ref C)) none)
    (hC : Looks (model prog w) h (mroOf (.ref C)) l₀) (hl : (l₀.dropWhile (· != .ref D)).drop 1 = l) (X : K.In h)
    (hf : alongIn K name l = some (some (.builtin "Exception.__init__"))) (hxC : x ≠ C) (hn : (name == ("__class__" : Str)) = false)
    {ox : Obj} (hx : h.get? x = some ox) (hcls : ox.cls = .ref C) (hsub : Looks (model prog w) h (isSubtype (.ref C) (.type "Exception")) true)
    (hq : Q (.done (.ret (.ref h.objs.size))) ⟨h.push { cls := .type "method-wrapper", data := .fields #[.builtin "Exception.__init__", .ref x] }, g, d, t, os⟩) :
    wpAny (model prog w) A (Builtin.«super.__getattribute__» ⟨[.ref so, .str name tk], []⟩) Q E ⟨h, g, d, t, os⟩ := by
  have hlk := slot_wd_get.lookup
  have hne : (Value.ref x == Value.ref C) = false := by simp [hxC]
  have hTf : (⟨h, g, d, t, os⟩ : Shared).TypeIs (.builtin "Exception.__init__") "wrapper_descriptor" := by first | exact type_wd | exact typeIs_builtin _ _ | trivial
  have hdt : (ks_superObj D x C : Obj).data = .fields #[.ref D, .ref x, .ref C] := rfl
  have f0 : (#[.ref D, .ref x, .ref C] : Array Value)[0]? = some (.ref D) := rfl
  have f1 : (#[.ref D, .ref x, .ref C] : Array Value)[1]? = some (.ref x) := rfl
  have f2 : (#[.ref D, .ref x, .ref C] : Array Value)[2]? = some (.ref C) := rfl
  unfold Builtin.«super.__getattribute__»
  repeat (first
    | (with_reducible refine wpAny_field hso hdt f0 ?_) | (with_reducible refine wpAny_field hso hdt f1 ?_) | (with_reducible refine wpAny_field hso hdt f2 ?_)
    | (with_reducible refine ks_wpAny_notOpaque hno ?_)
    | (with_reducible refine Looks.at hC ?_; rw [hl])
    | (refine ks_forIn_along X (fun _ _ => rfl) rfl ?_ hf)
    | (with_reducible refine wpAny_typeOf hTf ?_)
    | (with_reducible refine wpAny_call_entry slot_wd_get hTf entry_wd_get ?_ (args_wd_get _ _ _))
    | (with_reducible refine ⟨_, rfl, ?_⟩)
    | (with_reducible refine wpAny_loadPart_at hx ?_; rw [hcls])
    | (rw [show (".".intercalate ("Exception.__init__".cutAt '.').dropLast) = "Exception" by decide +kernel])
    | (with_reducible refine Looks.at hsub ?_)
    | (simp only [hn, hne, Bool.or_false, Bool.false_eq_true, if_false])
    | wp_step
    | dsimp only)
  all_goals exact hq
theorem getMethod_super_b {so D x C : Addr} {l₀ l : List Value} {K : Frag} {name : Str} {pl : Sem Bool} {Q : Value × List Value → Shared → Prop}
    (hso : h.get? so = some (ks_superObj D x C)) (hno : Looks (model prog w) h (opaqueClassAbove (.ref C)) none)
    (hC : Looks (model prog w) h (mroOf (.ref C)) l₀) (hl : (l₀.dropWhile (· != .ref D)).drop 1 = l) (X : K.In h)
    (hf : alongIn K name l = some (some (.builtin "Exception.__init__"))) (hxC : x ≠ C) (hn : (name == ("__class__" : Str)) = false)
    {ox : Obj} (hx : h.get? x = some ox) (hcls : ox.cls = .ref C) (hsub : Looks (model prog w) h (isSubtype (.ref C) (.type "Exception")) true)
    (hq : Q (.ref h.objs.size, []) ⟨h.push { cls := .type "method-wrapper", data := .fields #[.builtin "Exception.__init__", .ref x] }, g, d, t + 1, os⟩) :
    wpAny (model prog w) A (getMethod (.ref so) name pl) Q E ⟨h, g, d, t, os⟩ := by
  have hlk := F.ks_slot_super_ga.lookup
  have hcan := F.ks_canon_super_ga
  have hT : ∀ t', (⟨h, g, d, t', os⟩ : Shared).TypeIs (.ref so) "super" := fun _ => ⟨_, hso, rfl⟩
  unfold getMethod
  refine wpAny_bind (wpAny_specialOf (hT _) hlk ?_)
  show wpAny _ _ (if (Manifest.canonical "super.__getattribute__" != "object.__getattribute__") = true then _ else _) _ _ _
  rw [if_pos hcan]
  unfold getAttr getAttrBy
  refine wpAny_bind (wpAny_bind (wpAny_mkText (wpAny_holding (wpAny_bind (wpAny_typeOf (hT _) (wpAny_bind (wpAny_of_eq hlk ?_)))))))
  show wpAny _ _ (getAttrByItsOwn (.ref so) (.str name t) (.type "super") (.builtin "super.__getattribute__") true false) _ _ _
  unfold getAttrByItsOwn hookBefore callGetattribute boundAndCalled
  refine wpAny_bind (wpAny_of_eq (show (if onTheHeap (.type "super") then typeLookup (.type "super") "__getattr__" else pure none) = pure none from rfl) ?_)
  refine wpAny_bind (wpAny_attempt (wpAny_holding ?_))
  show wpAny _ _ (bindSpecial (.builtin "super.__getattribute__") (.ref so) >>= _) _ _ _
  refine wpAny_bind (wpAny_of_eq (F.ks_slot_super_ga.bind _) ?_)
  refine wpAny_mono (Q := fun v s' => v = .ref h.objs.size ∧ s' = ⟨h.push { cls := .type "method-wrapper", data := .fields #[.builtin "Exception.__init__", .ref x] }, g, d, t + 1, os⟩) (E := fun _ _ => False)
    (wpAny_call_entry F.ks_slot_super_ga (hT _) F.ks_entry_super_ga (super_ga_b hso hno hC hl X hf hxC hn hx hcls hsub ⟨_, rfl, rfl, rfl⟩) (F.ks_gaArgs_super _ _)) (fun v s' hv => ?_) fun _ _ z => z.elim
  obtain ⟨rfl, rfl⟩ := hv
  exact wpAny_pure (wpAny_pure hq)
end

theorem off_exc4 : True := by w_top off; exact trivial
theorem cls34 (w : World) : (clsIn (kf w.params) 34).map (·.mro) = some [.ref 34, .type "Exception", .type "BaseException", .type "object"] := by kernel_rfl
theorem dict34 (w : World) : hasDictIn (kf w.params) 34 = true := by kernel_rfl
theorem find34s (w : World) : findIn (kf w.params) (.ref 34) "__setattr__" = some (some (.builtin "object.__setattr__")) := by kernel_rfl
theorem find34g (w : World) : findIn (kf w.params) (.ref 34) "__getattribute__" = some (some (.builtin "BaseException.__getattribute__")) := by kernel_rfl
theorem find34h (w : World) : findIn (kf w.params) (.ref 34) "__getattr__" = some none := by kernel_rfl
theorem taker34n (w : World) : takerIn (kf w.params) 34 "number" = some none := by kernel_rfl
theorem taker34t (w : World) : takerIn (kf w.params) 34 "told" = some none := by kernel_rfl
theorem find34n (w : World) : findIn (kf w.params) (.ref 34) "number" = some none := by kernel_rfl
section
open Builtin Builtin.ObjectAttr
variable {prog : Program} {w : World} {A : Around} {E : Value → Shared → Prop} {s : Shared} {K : Frag} {x C : Addr} {ox : Obj} {od : Option Obj} {name : Str} {tk : Tok} {v : Value} {R : Result → Shared → Prop} {h₀ : Heap} {L : Addr} {m : Str → Option Value} {post : List (Addr × Obj)}
theorem osa_exc {bm : List Value} (X : K.In s.heap) (I : InstAt s.heap x ox C od) (hm : (clsIn K C).map (·.mro) = some (.ref C :: bm)) (SF : StoreFacts "Exception" bm "object.__setattr__" "object") (ht : takerIn K C name = some none)
    (h : ∀ b, wpAny (model prog w) A.in1 (storeInOwnDict (.ref x) (.ref C) (.str name tk) name v b)
      (fun fin s' => match fin with | .done f => R (.ok f) s' | .again c' => c'.quiet = true ∧ codeAny (model prog w) A c' R s') (fun e s' => R (.error e) s') s) :
    codeAny (model prog w) A (.call (.builtin "object.__setattr__") ⟨[.ref x, .str name tk, v], []⟩) R s := by
  obtain ⟨cd, hc, hmro⟩ := Option.map_eq_some_iff.mp hm
  have ne : cd.mro.isEmpty = false := by rw [hmro]; rfl
  have hasO : cd.mro.contains (.type "object") = true := by rw [hmro, List.contains_cons, SF.hasOwner, Bool.or_true]
  have sub : Looks (model prog w) s.heap (isInstance (.ref x) (.type "object")) true := I.type.andThen (looks_mroIn X (by unfold mroIn; rw [hc, Option.bind_some, if_neg (by rw [ne]; decide), hasO]))
  refine codeAny_call_builtin SF.slot.plain SF.entry (@check_slot (model prog w) _ _ s "object.__setattr__" "object" "__setattr__" (.ref x) [.str name tk, v] [] _ SF.kind SF.split sub (SF.args (.ref x) (.str name tk) v) ?_)
  obtain ⟨attr, ha, hr⟩ := Option.bind_eq_some_iff.mp ht
  have hmL : Looks (model prog w) s.heap (mroOf (.ref C)) cd.mro := (looks_clsIn X hc).andThen .now
  have L3 : Looks (model prog w) s.heap (storeTaker? attr) none := by
    cases attr with
    | none => exact .now
    | some a =>
      obtain ⟨b, hb, hq⟩ := Option.map_eq_some_iff.mp hr
      refine (looks_takesIn X hb).andThen ?_
      cases b <;> first | exact .now | cases hq
  rw [osa_eq, refuse_eq]
  refine wpAny_bind (wpAny_bind (I.type.here (wpAny_bind (hmL.here ?_))))
  rw [hmro, refuseLoop_ref, SF.passes]
  exact wpAny_pure (wpAny_bind (I.type.here (wpAny_bind ((looks_findIn X ha).here (wpAny_bind (L3.here (h _)))))))
/-- laying a name in a dict that is there -/
theorem store_dict {Q : Fin → Shared → Prop} {d : Addr} {es es' : List DictEntry} {n n' : Nat} (N : s.heap.get? d = some (dictOf es n)) (hl : (getL name es).isSome = true)
    (e : (putL name (PyData.keyHash w.params name) (.str name s.toks) v es, putN name es n) = (es', n')) (hz : es'.length ≤ 1000)
    (h : Q (.done (.ret .none)) { s with heap := s.heap.update d (Obj.putName name (PyData.keyHash w.params name) (.str name s.toks) v), toks := s.toks + 1 }) :
    wpAny (model prog w) A (storeInDict d (.str name tk) name v) Q E s := by
  obtain ⟨e1, e2⟩ := Prod.mk.inj e
  have ep : Obj.putName name (PyData.keyHash w.params name) (.str name s.toks) v (dictOf es n) = dictOf es' n' := by rw [putName_dict, e1, e2]
  have D' : (s.heap.update d (Obj.putName name (PyData.keyHash w.params name) (.str name s.toks) v)).get? d = some (dictOf es' n') := by
    rw [← ep]; exact Heap.get?_update_self _ N (by rw [ep]; rfl)
  have hl : (lookIn name (dictOf es n)).isSome = true := by unfold getL at hl; exact hl
  refine wpAny_bind (wpAny_pure (wpAny_bind ?_))
  unfold nsSet
  refine wpAny_bind (wpAny_bind (wpAny_askSetting (wpAny_pure (wpAny_bind (wpAny_mkText (wpAny_bind (wpAny_loadPart N ?_)))))))
  unfold lookIn at hl
  dsimp only at hl ⊢
  have c : (!es.toArray.any (·.key.isStr name) && es.toArray.any (·.refKey)) = false := by
    rw [← Array.any_toList, ← Array.any_toList]
    split at hl
    · rename_i en he
      rw [List.any_eq_true.mpr ⟨en, List.mem_of_find?_eq_some he, List.find?_some he⟩]; rfl
    · split at hl
      · cases hl
      · rename_i z; rw [Bool.not_eq_true] at z; rw [z, Bool.and_false]
  rw [aRefKeyMayBeTheName_at, c]
  refine wpAny_updatePart N ?_
  refine wpAny_bind (wpAny_lookBehind D' (by show Data.pastItsLine (.dict es'.toArray n') = none; exact pastItsLine_dict (by rw [List.size_toArray, sizeLine_eq]; omega)) ?_)
  exact wpAny_pure h
theorem set_first {Q : Unit → Shared → Prop} {es' : List DictEntry} {n' : Nat} (F : Fr h₀ L s.heap m) (X₀ : K.In h₀) (N : News h₀ L s.heap ((x, ox) :: post)) (hp : ∀ p ∈ post, p.1 ≠ x) (hox : ox.cls = .ref C) (hno : notCls ox = true) (hd : ox.dict = none) (hfr : ox.isFreed = false)
    (hs : findIn K (.ref C) "__setattr__" = some (some (.builtin "object.__setattr__"))) (hm : (clsIn K C).map (·.mro) = some [.ref C, .type "Exception", .type "BaseException", .type "object"]) (hh : hasDictIn K C = true) (ht : takerIn K C name = some none)
    (e : (putL name (PyData.keyHash w.params name) (.str name (s.toks + 1)) v [], putN name [] 0) = (es', n')) (hz : es'.length ≤ 1000)
    (h : ∀ d h', Fr h₀ L h' m → News h₀ L h' ((d, dictOf es' n') :: (x, { ox with dict := some d }) :: post) → d ≠ x → (∀ p ∈ post, p.1 < d) → Q () { s with heap := h', toks := s.toks + 2 }) :
    wpAny (model prog w) A (setAttr (.ref x) name v) Q E s := by
  have X := X₀.keeps F.keep
  have hx := (N _ (.head _)).1
  have I : InstAt s.heap x ox C none := ⟨hx, hox, hno, by rw [hd]; trivial⟩
  refine set_plain X I hs (osa_exc (s := { s with toks := s.toks + 1 }) X I hm PySem.F.store_Exception ht fun b => ?_)
  obtain ⟨cd, hc, hd'⟩ := any_some hh
  obtain ⟨oc, odi, oda, osl⟩ := ox
  dsimp only at hox hd
  subst hox hd
  have nc : ∀ c, oda ≠ .cls c := by
    rintro c rfl
    cases hno
  refine wpAny_bind (wpAny_pure (wpAny_bind (wpAny_bind (wpAny_loadPart hx (wpAny_bind (looks_clsIn X hc _ _ _ _ (fun _ _ e => e) ?_))))))
  rw [hd']
  have hx₁ : (s.heap.push emptyDict).get? x = some ⟨.ref C, none, oda, osl⟩ := Heap.get?_push_of_some _ hx
  have F₁ := F.push emptyDict
  have N₁ := N.push F emptyDict
  have hlt : ∀ p ∈ (x, (⟨.ref C, none, oda, osl⟩ : Obj)) :: post, p.1 < s.heap.objs.size := fun p hp => Heap.lt_size (N p hp).1
  have U := news_upd (pre := [(s.heap.objs.size, emptyDict)]) (f := fun o => { o with dict := some s.heap.objs.size }) F₁ N₁ (by
    intro p q
    rw [List.mem_singleton.mp q]
    exact Nat.ne_of_gt (hlt _ (.head _))) hp rfl (by cases oda <;> first | rfl | exact hfr)
  obtain ⟨F₂, N₂⟩ := U
  have D := (N₂ _ (.head _)).1
  show wpAny _ _ (match (none : Option Addr) with | some d => pure (some d) | none => _) _ _ _
  refine wpAny_mono (Q := fun r s' => r = some s.heap.objs.size ∧ s' = { s with heap := (s.heap.push emptyDict).update x fun o => { o with dict := some s.heap.objs.size }, toks := s.toks + 1 }) (E := fun _ _ => False) ?_ (fun r s' z => ?_) fun _ _ z => z.elim
  · cases oda <;> first | exact absurd rfl (nc _) | exact wpAny_bind (wpAny_alloc (wpAny_bind (wpAny_update hx₁ (wpAny_pure ⟨rfl, rfl⟩))))
  · obtain ⟨rfl, rfl⟩ := z
    have U := news_upd (pre := []) (f := Obj.putName name (PyData.keyHash w.params name) (.str name (s.toks + 1)) v) (o' := dictOf es' n') F₂ N₂ (by intro p q; cases q) (fun p q => by
      rcases List.mem_cons.mp q with rfl | q
      · exact Nat.ne_of_lt (Heap.lt_size hx)
      · exact Nat.ne_of_lt (hlt p (.tail _ q))) (by obtain ⟨e1, e2⟩ := Prod.mk.inj e; rw [show emptyDict = dictOf [] 0 from rfl, putName_dict, e1, e2]) rfl
    obtain ⟨F₃, N₃⟩ := U
    refine store_dict (es := []) (n := 0) D rfl e hz ?_
    exact h _ _ F₃ N₃ (Nat.ne_of_gt (hlt _ (.head _))) fun p q => hlt p (.tail _ q)
theorem set_next {Q : Unit → Shared → Prop} {es es' : List DictEntry} {n n' : Nat} {d : Addr} (F : Fr h₀ L s.heap m) (X₀ : K.In h₀) (N : News h₀ L s.heap ((d, dictOf es n) :: post)) (hp : ∀ p ∈ post, p.1 ≠ d) (hx : (x, ox) ∈ post) (hox : ox.cls = .ref C) (hno : notCls ox = true) (hd : ox.dict = some d)
    (hs : findIn K (.ref C) "__setattr__" = some (some (.builtin "object.__setattr__"))) (hm : (clsIn K C).map (·.mro) = some [.ref C, .type "Exception", .type "BaseException", .type "object"]) (hh : hasDictIn K C = true) (ht : takerIn K C name = some none) (hl : (getL name es).isSome = true)
    (e : (putL name (PyData.keyHash w.params name) (.str name (s.toks + 1)) v es, putN name es n) = (es', n')) (hz : es'.length ≤ 1000)
    (h : ∀ h', Fr h₀ L h' m → News h₀ L h' ((d, dictOf es' n') :: post) → Q () { s with heap := h', toks := s.toks + 2 }) :
    wpAny (model prog w) A (setAttr (.ref x) name v) Q E s := by
  have X := X₀.keeps F.keep
  have hx := (N _ (.tail _ hx)).1
  have D := (N _ (.head _)).1
  have I : InstAt s.heap x ox C (some (dictOf es n)) := ⟨hx, hox, hno, by rw [hd]; exact D⟩
  refine set_plain X I hs (osa_exc (s := { s with toks := s.toks + 1 }) X I hm PySem.F.store_Exception ht fun b => ?_)
  obtain ⟨cd, hc, hd'⟩ := any_some hh
  obtain ⟨oc, odi, oda, osl⟩ := ox
  dsimp only at hox hd
  subst hox hd
  refine wpAny_bind (wpAny_pure (wpAny_bind (wpAny_bind (wpAny_loadPart hx (wpAny_bind (looks_clsIn X hc _ _ _ _ (fun _ _ e => e) ?_))))))
  rw [hd']
  refine wpAny_pure (a := some d) ?_
  obtain ⟨e1, e2⟩ := Prod.mk.inj e
  obtain ⟨F₃, N₃⟩ := news_upd (pre := []) (f := Obj.putName name (PyData.keyHash w.params name) (.str name (s.toks + 1)) v) (o' := dictOf es' n') F N (by intro p q; cases q) hp (by rw [putName_dict, e1, e2]) rfl
  exact store_dict (s := { s with toks := s.toks + 1 }) D hl e hz (h _ F₃ N₃)
theorem slot_bexc_ga : Slot "Exception" "__getattribute__" "BaseException.__getattribute__" := .of (owner := "BaseException") (n := "__getattribute__") (by rw [typeLookup_type, builtinLookup_eq_fast]; kernel_rfl) (by decide +kernel) (by decide +kernel) (by decide +kernel)
    (by first | exact .inl (by decide +kernel) | exact .inr (by decide +kernel)) (by rw [isSubtype_type]; kernel_rfl)
theorem get_exc {Q : Value → Shared → Prop} {expr : Bool} {es : List DictEntry} {n : Nat} {bm : List Value} (X : K.In s.heap) (I : InstAt s.heap x ox C (some (dictOf es n))) (hm : (clsIn K C).map (·.mro) = some (.ref C :: bm)) (hbm : bm.contains (.type "BaseException") = true)
    (hg : findIn K (.ref C) "__getattribute__" = some (some (.builtin "BaseException.__getattribute__"))) (hgh : findIn K (.ref C) "__getattr__" = some none) (hh : hasDictIn K C = true)
    (ha : findIn K (.ref C) name = some none) (hl : getL name es = some (some v)) (hv : handedIn v = true) (h : Q v { s with toks := s.toks + 1 }) :
    wpAny (model prog w) A (getAttr (.ref x) name expr) Q E s := by
  obtain ⟨cd, hc, hmro⟩ := Option.map_eq_some_iff.mp hm
  have ne : cd.mro.isEmpty = false := by rw [hmro]; rfl
  have hasB : cd.mro.contains (.type "BaseException") = true := by rw [hmro, List.contains_cons, hbm, Bool.or_true]
  have sub : Looks (model prog w) s.heap (isInstance (.ref x) (.type "BaseException")) true := I.type.andThen (looks_mroIn X (by unfold mroIn; rw [hc, Option.bind_some, if_neg (by rw [ne]; decide), hasB]))
  obtain ⟨hh', g, d, t, os⟩ := s
  have L0 := I.type (M := model prog w)
  have L1 := looks_findIn (M := model prog w) X hg
  have L2 := looks_findIn (M := model prog w) X hgh
  have L3 := looks_find (M := model prog w) X I (findObj_own hh ha rfl hl)
  unfold getAttr getAttrBy
  refine wpAny_bind (wpAny_mkText (wpAny_holding (wpAny_bind (L0.at (wpAny_bind (L1.at ?_))))))
  have hne : (Value.builtin "BaseException.__getattribute__" == Value.builtin "object.__getattribute__") = false := by decide +kernel
  dsimp only
  rw [hne, Bool.and_false]
  show wpAny _ _ (getAttrByItsOwn (.ref x) (.str name t) (.ref C) (.builtin "BaseException.__getattribute__") true expr) _ _ _
  unfold getAttrByItsOwn hookBefore callGetattribute boundAndCalled
  rw [show (expr && onTheHeap (Value.builtin "BaseException.__getattribute__")) = false by cases expr <;> rfl]
  refine wpAny_bind (L2.at ?_)
  refine wpAny_bind (wpAny_attempt (wpAny_holding ?_))
  show wpAny _ _ (bindSpecial (.builtin "BaseException.__getattribute__") (.ref x) >>= _) _ _ _
  refine wpAny_bind (wpAny_of_eq (slot_bexc_ga.bind _) ?_)
  refine wpAny_mono (Q := fun u s' => u = v ∧ s' = ⟨hh', g, d, t + 1, os⟩) (E := fun _ _ => False) (wpAny_call (codeAny_call_builtin slot_bexc_ga.plain PySem.F.entry_bexc_ga (@check_slot (model prog w) _ _ ⟨hh', g, d, t + 1, os⟩ "BaseException.__getattribute__" "BaseException" "__getattribute__" (.ref x) [.str name t] [] _ (by decide +kernel) (by decide +kernel) sub (PySem.F.args_bexc_ga _ _) ?_))) (fun u s' z => ?_) fun _ _ z => z.elim
  · refine wpAny_bind (wpAny_pure (wpAny_bind (wpAny_pure (wpAny_bind (L0.at (wpAny_bind (L3.at ?_)))))))
    exact wpAny_pure ⟨rfl, rfl⟩
  · obtain ⟨rfl, rfl⟩ := z
    show wpAny _ _ (handedOut u) _ _ _
    rw [handedOut_of hv]; exact wpAny_pure h
end

theorem off_exc5 : True := by w_top off; exact trivial
section
open PySem.W
variable {prog : Program} {w : World} {A : Around} {E : Value → Shared → Prop} {h : Heap} {g : Array GenState} {d : Drawn} {t : Nat} {os : OsState}
variable {C : Addr}
theorem call_mw_init {x t0 q : Addr} {rest : List Value} {R : Result → Shared → Prop} (F : ExcBaseFacts "Exception" "Exception.__new__" "Exception.__init__" [.type "Exception", .type "BaseException", .type "object"])
    {oC : Obj} {cd : ClassData} (hC : h.get? C = some oC) (hCd : oC.data = .cls cd) (hx : h.get? x = some (excNew C t0)) (hm : h.get? q = some { cls := .type "method-wrapper", data := .fields #[.builtin "Exception.__init__", .ref x] }) (hrest : rest.length ≤ sizeLine)
    (hq : R (.ok (.ret .none)) ⟨(h.push { cls := .type "tuple", data := .seq rest.toArray }).update x (Obj.mapFields fun vs => vs.setIfInBounds 0 (.ref h.objs.size)), g, d, t, os⟩) :
    codeAny (model prog w) A (.call (.ref q) ⟨rest, []⟩) R ⟨h, g, d, t, os⟩ := by
  obtain ⟨occ, ocd, ocda, ocs⟩ := oC
  dsimp only at hCd
  subst hCd
  refine codeAny_of_tree ?_
  show wpAny _ A.in1 (callAny (.ref q) _) _ _ _
  unfold callAny
  refine wpAny_bind (wpAny_load hm ?_)
  dsimp only
  show wpAny _ _ (checkBoundCall "Exception.__init__" ⟨.ref x :: rest, []⟩ >>= _) _ _ _
  refine wpAny_bind ?_
  · unfold checkBoundCall
    simp only [F.initKind, F.initRow]
    rw [if_pos (by decide)]
    have hshort := F.noStar
    repeat (first | with_reducible refine wpAny_loadPart_at hx ?_ | with_reducible refine wpAny_loadPart_at hC ?_ | wp_step)
    refine wpAny_onRaise ?_
    rw [show ∀ (a b : String) (n : Nat), Bind.check ⟨.positional, "*", "Exception", .self, [⟨"args", .varPos, false⟩]⟩ a b n (List.map (fun x => x.fst) ({ pos := Value.ref x :: rest } : Args).kw) = pure () from
      fun a b n => check_star_args _ _ _ _ _ _]
    refine wpAny_pure ?_
    refine wpAny_pure ⟨Code.quiet_builtin _ (by decide +kernel), codeAny_builtin F.initEntry ?_⟩
    wp_walk
    exact hq
end
abbrev mwObj (x : Addr) : Obj := { cls := .type "method-wrapper", data := .fields #[.builtin "Exception.__init__", .ref x] }
abbrev tupObj (pos : List Value) : Obj := { cls := .type "tuple", data := .seq pos.toArray }
section
variable {prog : Program} {w : World} {A : Around} {E : Value → Shared → Prop} {s : Shared} {h₀ : Heap} {L : Addr} {m : Str → Option Value} {news rest : List (Addr × Obj)} {K : Frag} {x C D so t0 q : Addr}
theorem inst_exc {h : Heap} (N : News h₀ L h news) (hm : (x, excNew C t0) ∈ news) : InstAt h x (excNew C t0) C none := ⟨(N _ hm).1, rfl, rfl, trivial⟩
theorem method_b {pl : Sem Bool} {Q : Value × List Value → Shared → Prop} (F : Fr h₀ L s.heap m) (X₀ : K.In h₀) (N : News h₀ L s.heap news) (hso : (so, ks_superObj D x C) ∈ news) (hx : (x, excNew C t0) ∈ news) (ho : nsIn K cStatics "thirdparty.any" = some none)
    (hm : ks_superIn K C D "__init__" = some (some (.builtin "Exception.__init__"))) (hsub : mroIn K C (.type "Exception") = some true)
    (h : ∀ q h', Fr h₀ L h' m → News h₀ L h' ((q, mwObj x) :: news) → (∀ p ∈ news, p.1 < q) → Q (.ref q, []) { s with heap := h', toks := s.toks + 1 }) : wpAny (model prog w) A (getMethod (.ref so) "__init__" pl) Q E s := by
  have X : K.In s.heap := X₀.keeps F.keep
  obtain ⟨hh, g, d, t, os⟩ := s
  cases hc : clsIn K C with
  | none => unfold ks_superIn at hm; rw [hc] at hm; cases hm
  | some cd =>
    unfold ks_superIn at hm
    rw [hc] at hm
    refine getMethod_super_b (N _ hso).1 (looks_opaque X ho) (l₀ := cd.mro) ?_ rfl X hm (ks_ne X (inst_exc N hx) hc) (by decide +kernel) (N _ hx).1 rfl (looks_mroIn X hsub) ?_
    · exact fun A Q E s k q => wpAny_bind ((looks_clsIn X hc) A _ E s k (wpAny_pure q))
    · obtain ⟨F', N', l'⟩ := ks_newsPush (s := ⟨hh, g, d, t, os⟩) (o := mwObj x) F N rfl (Heap.get?_push_at rfl rfl) (fun b o e => Heap.get?_push_of_some _ e)
      exact h _ _ F' N' l'
theorem mw_call {pos : List Value} {Q : Value → Shared → Prop} (F : Fr h₀ L s.heap m) (X₀ : K.In h₀) (N : News h₀ L s.heap news) (hq : (q, mwObj x) ∈ news) (hx : (x, excNew C t0) ∈ news) (hC : (clsIn K C).isSome = true) (hrest : pos.length ≤ sizeLine) (hr : ∀ p ∈ rest, p ∈ news ∧ p.1 ≠ x)
    (h : ∀ t2 h', Fr h₀ L h' m → News h₀ L h' ((x, excNew C t2) :: (t2, tupObj pos) :: rest) → (∀ p ∈ news, p.1 < t2) → Q .none { s with heap := h' }) : wpAny (model prog w) A (call (.ref q) pos) Q E s := by
  have X : K.In s.heap := X₀.keeps F.keep
  obtain ⟨hh, g, d, t, os⟩ := s
  obtain ⟨cd, hc⟩ := Option.isSome_iff_exists.mp hC
  obtain ⟨oC, h1, h2⟩ : ∃ oD, hh.get? C = some oD ∧ oD.data = .cls cd := by
    unfold clsIn at hc
    split at hc
    · cases hc
      exact ⟨_, X _ _ (by assumption), rfl⟩
    · cases hc
  refine wpAny_call (call_mw_init PySem.F.excBase_Exception h1 h2 (N _ hx).1 (N _ hq).1 hrest ?_)
  have hlt : ∀ p ∈ news, p.1 < hh.objs.size := fun p hp => Heap.lt_size (N p hp).1
  have N1 : News h₀ L hh ((x, excNew C t0) :: rest) := fun p hp => by
    rcases List.mem_cons.mp hp with rfl | hp
    · exact N _ hx
    · exact N _ (hr p hp).1
  obtain ⟨F2, N2⟩ := news_upd (pre := [(hh.objs.size, tupObj pos)]) (f := Obj.mapFields fun vs => vs.setIfInBounds 0 (.ref hh.objs.size)) (o' := excNew C hh.objs.size) (F.push (tupObj pos)) (N1.push F (tupObj pos))
    (by intro p hp; rw [List.mem_singleton.mp hp]; exact Nat.ne_of_gt (hlt _ hx)) (fun p hp => (hr p hp).2) rfl rfl
  refine h _ _ F2 (fun p hp => N2 p ?_) hlt
  simp only [List.cons_append, List.nil_append, List.mem_cons] at hp ⊢
  rcases hp with h | h | h
  · exact .inr (.inl h)
  · exact .inl h
  · exact .inr (.inr h)
end
def Both (a b : Prop) : Prop := a ∧ b
section
variable {M : Model} {A : Around} {E : Value → Shared → Prop} {s : Shared} {env : Env} {pos : Pos} {first : List Value} {Q : Value → Shared → Prop} {q x : Addr}
theorem callWith_mw {e : Expr} {rest : List Expr} (h : wpAny M A (spliced (backTo pos (starEach (e :: rest) env))) (fun vs s₁ => Both (s₁.heap.get? q = some (mwObj x)) (wpAny M A (call (.ref q) (first ++ vs)) Q E s₁)) E s)
    (he : starEach (e :: rest) env = (false, eval e env) :: starEach rest env := by rfl) (hplain : (backTo pos (starEach rest env)).any (·.1) = false := by rfl) :
    wpAny M A (callWith pos (.ref q) first (backTo pos (starEach (e :: rest) env)) []) Q E s := by
  rw [he] at h ⊢
  exact callWith_of (P := fun h => h.get? q = some (mwObj x)) (by show ((false || (backTo pos (starEach rest env)).any (·.1)) || false) = false; rw [hplain]; rfl) (fun h hm => ⟨.machine, .inr (.inl rfl), (Looks.ld (part := none) hm).andThen .now⟩) (evalArgs_plain h)
end

theorem off_exc7 : True := by w_top off; exact trivial
/-- a tree that keeps each object's dict -/
inductive Tame : {α : Type} → Sem α → Prop
  | pure {α : Type} (a : α) : Tame (.pure a)
  | raise {α : Type} (e : Value) : Tame (.raise e : Sem α)
  | unsupported {α : Type} (t : String) : Tame (.unsupported t : Sem α)
  | rule {α : Type} (t : String) {k : Unit → Sem α} (h : Tame (k ())) : Tame (.rule t k)
  | at {α : Type} (p : Pos) {k : Unit → Sem α} (h : Tame (k ())) : Tame (.at p k)
  | load {α : Type} (a : Addr) (part : Option Value) {k : Obj → Sem α} (h : ∀ o, Tame (k o)) : Tame (.load a part k)
  | update {α : Type} (a : Addr) (part : Option Value) (f : Obj → Obj) {k : Unit → Sem α} (hf : ∀ o, o.isFreed = false → (f o).dict = o.dict ∧ (f o).isFreed = false) (h : Tame (k ())) : Tame (.update a part f k)
  | alloc {α : Type} (o : Obj) {k : Addr → Sem α} (h : ∀ a, Tame (k a)) : Tame (.alloc o k)
  | fresh {α : Type} {k : Tok → Sem α} (h : ∀ a, Tame (k a)) : Tame (.fresh k)
  | ask {α : Type} {k : Setting → Sem α} (h : ∀ a, Tame (k a)) : Tame (.ask k)
  | stack {α : Type} {k : List (Code × Pos) → Sem α} (h : ∀ l, Tame (k l)) : Tame (.stack k)
def DictKept (h h' : Heap) : Prop := ∀ b o, h.get? b = some o → ∃ o', h'.get? b = some o' ∧ o'.dict = o.dict
theorem DictKept.refl (h : Heap) : DictKept h h := fun _ o e => ⟨o, e, rfl⟩
theorem DictKept.trans {a b c : Heap} (x : DictKept a b) (y : DictKept b c) : DictKept a c := fun k o e =>
  let ⟨o1, e1, d1⟩ := x k o e; let ⟨o2, e2, d2⟩ := y k o1 e1; ⟨o2, e2, d2.trans d1⟩
theorem Tame.bind {α β : Type} {t : Sem α} {f : α → Sem β} (h : Tame t) (hf : ∀ a, Tame (f a)) : Tame (t >>= f) := by
  show Tame (t.bind f)
  induction h with
  | pure a => exact hf a
  | raise e => exact .raise e
  | unsupported t => exact .unsupported t
  | rule t _ ih => exact .rule t ih
  | «at» p _ ih => exact .at p ih
  | load a p _ ih => exact .load a p fun o => ih o
  | update a p g hg _ ih => exact .update a p g hg ih
  | alloc o _ ih => exact .alloc o fun a => ih a
  | fresh _ ih => exact .fresh fun a => ih a
  | ask _ ih => exact .ask fun a => ih a
  | stack _ ih => exact .stack fun a => ih a
theorem Tame.wp {α : Type} {t : Sem α} (h : Tame t) {M : Model} {Γ : PySem.Ctx} : ∀ {Q : α → Pos → Shared → Prop} {E : Value → Pos → Shared → Prop} {p : Pos} {s : Shared}, Sem.wp M Γ t Q E p s → Sem.wp M Γ t (fun a p' s' => Q a p' s' ∧ DictKept s.heap s'.heap) E p s := by
  induction h with
  | pure a => intro Q E p s x; simp only [Sem.wp] at x ⊢; exact ⟨x, .refl _⟩
  | raise e => intro Q E p s x; simp only [Sem.wp] at x ⊢; exact x
  | unsupported t => intro Q E p s x; simp only [Sem.wp] at x
  | rule t _ ih => intro Q E p s x; simp only [Sem.wp] at x ⊢; exact ih x
  | «at» p _ ih => intro Q E p s x; simp only [Sem.wp] at x ⊢; exact ih x
  | load a p _ ih => intro Q E p s x; simp only [Sem.wp] at x ⊢; obtain ⟨o, e, x⟩ := x; exact ⟨o, e, ih o x⟩
  | update a p g hg _ ih =>
    intro Q E p s x
    simp only [Sem.wp] at x ⊢
    refine ⟨x.1, Sem.wp_mono _ _ _ (fun a9 p9 s9 z => ⟨z.1, DictKept.trans ?_ z.2⟩) (fun _ _ _ z => z) _ _ (ih x.2)⟩
    intro b o e
    by_cases hb : b = a
    · subst hb
      have hfr := (Heap.get?_some_iff.mp e).2
      exact ⟨_, Heap.get?_update_self _ e (hg o hfr).2, (hg o hfr).1⟩
    · exact ⟨o, (Heap.get?_update_ne _ _ _ _ hb).trans e, rfl⟩
  | alloc o _ ih =>
    intro Q E p s x
    simp only [Sem.wp] at x ⊢
    exact Sem.wp_mono _ _ _ (fun a p' s' z => ⟨z.1, DictKept.trans (fun b o e => ⟨o, Heap.get?_push_of_some _ e, rfl⟩) z.2⟩) (fun _ _ _ z => z) _ _ (ih _ x)
  | fresh _ ih => intro Q E p s x; simp only [Sem.wp] at x ⊢; exact ih _ x
  | ask _ ih => intro Q E p s x; simp only [Sem.wp] at x ⊢; exact ih _ x
  | stack _ ih => intro Q E p s x; simp only [Sem.wp] at x ⊢; exact ih _ x
theorem Tame.any {α : Type} {t : Sem α} (h : Tame t) {M : Model} {A : Around} {Q : α → Shared → Prop} {E : Value → Shared → Prop} {s : Shared} (x : wpAny M A t Q E s) : wpAny M A t (fun a s' => Q a s' ∧ DictKept s.heap s'.heap) E s :=
  fun Γ p hΓ => h.wp (x Γ p hΓ)

theorem Tame.pure' {α : Type} (a : α) : Tame (Pure.pure a : Sem α) := .pure a
theorem tame_fieldsOf (v : Value) : Tame (fieldsOf v) := by
  unfold fieldsOf
  cases v <;> first | exact .unsupported _ | skip
  refine .bind (.load _ _ fun o => .pure o) fun o => ?_
  split <;> first | exact .pure' _ | exact .unsupported _
theorem tame_field (v : Value) (i : Nat) : Tame (field v i) := by
  unfold field
  refine .bind (tame_fieldsOf v) fun vs => ?_
  split <;> first | exact .pure' _ | exact .unsupported _
theorem tame_setField (v : Value) (i : Nat) (x : Value) : Tame (setField v i x) := by
  unfold setField
  cases v <;> first | exact .unsupported _ | skip
  unfold updateField
  refine .bind (.load _ _ fun o => .pure o) fun o => ?_
  split
  · split
    · refine .update _ _ _ (fun o h => ?_) (.pure _)
      obtain ⟨c, d, dt, sl⟩ := o
      cases dt <;> exact ⟨rfl, by first | rfl | exact h⟩
    · exact .unsupported _
  · exact .unsupported _
theorem tame_setFlight (e : Value) (fr : Option Addr) : Tame (setFlight e fr) := by
  unfold setFlight
  refine .bind (tame_field _ _) fun tb => ?_
  split
  · exact tame_setField _ _ _
  · exact .pure' _
theorem tame_ready : ∀ l : List Env, Tame (readyFrames l)
  | [] => .pure' _
  | env :: outer => by
    unfold readyFrames
    split
    · refine .bind (.load _ _ fun o => .pure o) fun o => ?_
      split
      · exact .pure' _
      · refine .bind ?_ fun im => .bind ?_ fun back => .bind ?_ fun _ => tame_ready outer
        · unfold behindIsImport
          split
          · exact .pure' _
          · split
            · exact .pure' _
            · exact .bind (tame_field _ _) fun _ => .pure' _
        · unfold keptBack
          split
          · split
            · exact .pure' _
            · unfold underTheClaimsCaller
              refine .bind (.bind (.stack fun l => .pure l) fun _ => .pure' _) fun _ => .pure' _
          · exact .pure' _
        · refine .update _ _ _ (fun o h => ?_) (.pure _)
          obtain ⟨c, d, dt, sl⟩ := o
          cases dt <;> exact ⟨rfl, by first | rfl | exact h⟩
    · exact .unsupported _
theorem tame_frameOf (env : Env) : Tame (PySem.frameOf env) := by
  unfold PySem.frameOf PySem.frameEnvs
  refine .bind (.bind (.stack fun l => .pure l) fun _ => .pure' _) fun es => .bind ?_ fun r => ?_
  · cases es.dropWhile (·.frame != env.frame) with
    | nil => exact .pure' _
    | cons e r => exact .bind (tame_ready _) fun _ => .pure' _
  · split <;> first | exact .pure' _ | exact .unsupported _
theorem tame_newFields (ty : String) (vs : List Value) : Tame (newFields ty vs) := by
  unfold newFields newObj
  dsimp only
  have jp : Tame (newObjAsIs (.type ty) (.fields vs.toArray)) := by
    unfold newObjAsIs
    exact .bind (.alloc _ fun a => .pure a) fun a => .pure' _
  split
  · exact .bind (.unsupported _) fun _ => jp
  · exact jp
theorem tame_noteFrame (e : Value) (env : Env) : Tame (noteFrame e env) := by
  unfold noteFrame
  split
  · refine .bind (tame_field _ _) fun head => ?_
    have rest : ∀ b, Tame (do setField e 1 (← EntryCells.newEntry head (← PySem.frameOf env) .none (rawInt b) .none (← entryPlaceOf b (head != .none)))) := fun b => by
      refine .bind (tame_frameOf _) fun a => .bind ?_ fun pl => .bind ?_ fun _ => tame_setField _ _ _
      · unfold entryPlaceOf
        refine .bind (.stack fun l => .pure l) fun acts => ?_
        split <;> exact .pure' _
      · exact tame_newFields _ _
    split
    · refine .bind (tame_field _ _) fun _ => ?_
      split
      · exact .pure' _
      · exact .bind (tame_setField _ _ _) fun _ => rest _
    · exact rest _
  · exact .unsupported _
theorem tame_leaving (env : Env) (e : Value) : Tame (leaving env e) := .bind (tame_noteFrame _ _) fun _ => tame_setFlight _ _

/-- an exception e of the class C with the dict d, on its way past the frames l; news are kept -/
def Raised (base G : Heap) (l : List Env) (e d C : Addr) (news : List (Addr × Obj)) (h : Heap) : Prop :=
  ∃ B a0, base.StaysIn B ∧ (∀ b o, G.get? b = some o → b ∉ l.filterMap (·.frame) → B.get? b = some o) ∧ (∀ q ∈ news, B.get? q.1 = some q.2 ∧ G.get? q.1 = none ∧ base.get? q.1 = none) ∧ Heap.FlyingW B l e (.ref C) a0 h ∧ ∃ oe, h.get? e = some oe ∧ oe.dict = some d
section
variable {M : Model} {A : Around} {E : Value → Shared → Prop} {s' : Shared} {base g g₂ h : Heap} {outer : List Env} {L a e d C : Addr} {m : Str → Option Value} {name : Str} {scope : Scope} {cd : Value} {Q : Unit → Shared → Prop} {news : List (Addr × Obj)}
theorem dict_on {h h' : Heap} (k : DictKept h h') (x : ∃ oe, h.get? e = some oe ∧ oe.dict = some d) : ∃ oe, h'.get? e = some oe ∧ oe.dict = some d := by
  obtain ⟨oe, e1, e2⟩ := x
  obtain ⟨o', e3, e4⟩ := k _ _ e1
  exact ⟨o', e3, e4.trans e2⟩
theorem leave_made {oe : Obj} {vs : Array Value} {a0 : Value} (K : Below A base outer g) (F : Fr g L s'.heap m) (N : News g L s'.heap ((e, oe) :: news)) (hne : ∀ q ∈ news, q.1 ≠ e)
    (hc : oe.cls = .ref C) (hd : oe.data = .fields vs) (h1 : vs[1]? = some .none) (h0 : vs[0]? = some a0) (hdict : oe.dict = some d)
    (hQ : ∀ h', Raised base g outer e d C news h' → g.UpToSlots h' → Q () { s' with heap := h' }) (hk : scope.kind = .function := by rfl) :
    wpAny M (A.deeper (envOf name scope L a cd)) (leaving (envOf name scope L a cd) (.ref e)) Q E s' := by
  have K' := K.push (name := name) (a := a) (cd := cd) F hk
  obtain ⟨he, heL, hen⟩ := N _ (.head _)
  have hin : ∀ env ∈ (envOf name scope L a cd :: outer), ∀ b, env.frame = some b → b ∈ e :: (envOf name scope L a cd :: outer).filterMap (·.frame) := fun env he b hb => .tail _ (List.mem_filterMap.mpr ⟨env, he, hb⟩)
  have st : base.StaysIn (hideAll s'.heap (e :: (envOf name scope L a cd :: outer).filterMap (·.frame))) := fun b o q => hideAll_get _ (K'.stays b o q) fun hm => by
    rcases List.mem_cons.mp hm with rfl | hm
    · rw [fresh_of_stays K.stays hen] at q; cases q
    · rw [(K'.frames.mem hm).1] at q; cases q
  have sg : ∀ b o, g.get? b = some o → b ∉ outer.filterMap (·.frame) → (hideAll s'.heap (e :: (envOf name scope L a cd :: outer).filterMap (·.frame))).get? b = some o := fun b o q nm => hideAll_get _ (F.keep b o q) fun hm => by
    rcases List.mem_cons.mp hm with rfl | hm
    · rw [hen] at q; cases q
    · rcases kts_mem hm with z | z
      · rw [z, kts_self F] at q
        cases q
      · exact nm z
  have hl : ∀ q ∈ news, (hideAll s'.heap (e :: (envOf name scope L a cd :: outer).filterMap (·.frame))).get? q.1 = some q.2 ∧ g.get? q.1 = none ∧ base.get? q.1 = none := fun q hq => by
    have N1 := N q (.tail _ hq)
    refine ⟨hideAll_get _ N1.1 fun hm => ?_, N1.2.2, fresh_of_stays K.stays N1.2.2⟩
    rcases List.mem_cons.mp hm with hm | hm
    · exact hne q hq hm
    · obtain ⟨env, he, hf⟩ := List.mem_filterMap.mp hm
      rcases List.mem_cons.mp he with rfl | he
      · exact N1.2.1 (Option.some.inj hf).symm
      · obtain ⟨o, ho, _⟩ := (K.frames.mem (List.mem_filterMap.mpr ⟨env, he, hf⟩)).2
        rw [N1.2.2] at ho; cases ho
  have hfl := funFrames_hide (base := base) K'.frames hin
  refine wpAny_mono ((tame_leaving _ _).any (wpAny_leaving_firstW (Q := fun _ s₁ => ∃ h', s₁ = { s' with heap := h' } ∧ Heap.LeftW (hideAll s'.heap (e :: (envOf name scope L a cd :: outer).filterMap (·.frame))) (envOf name scope L a cd :: outer) e oe.cls a0 s'.heap h') K'.stack hfl rfl he (fun b o q => of_hideAll _ q) (hideAll_none _ (.head _)) hd h1 h0 fun h' z => ⟨h', rfl, z⟩)) (fun _ s₁ z => ?_) fun _ _ z => z
  obtain ⟨⟨h', rfl, k1, ⟨_, _, k2⟩, k3, k4⟩, dk⟩ := z
  exact hQ h' ⟨_, a0, st, sg, hl, ⟨k1, hideAll_none _ (.head _), k2, hc ▸ k3⟩, dict_on dk ⟨oe, he, hdict⟩⟩ ((Heap.UpToSlots.of_keeps F.keep).trans k4)
theorem leave_on (K : Below A base outer g) (F : Fr g L g₂ m) (R : Raised base g₂ (envOf name scope L a cd :: outer) e d C news s'.heap) (hsm : g₂.UpToSlots s'.heap)
    (hQ : ∀ h', Raised base g outer e d C news h' → g.UpToSlots h' → Q () { s' with heap := h' }) :
    wpAny M (A.deeper (envOf name scope L a cd)) (leaving (envOf name scope L a cd) (.ref e)) Q E s' := by
  obtain ⟨B, a0, hB, hBG, hl, hfl, oe, he, hde⟩ := R
  refine wpAny_mono ((tame_leaving _ _).any (wpAny_leaves_onW (Q := fun _ s₁ => ∃ h', s₁ = { s' with heap := h' } ∧ Heap.FlyingW B outer e (.ref C) a0 h' ∧ s'.heap.UpToSlots h') (Around.frames_deeper K.stack) rfl hfl fun h' x1 x2 => ⟨h', rfl, x1, x2⟩)) (fun _ s₁ z => ?_) fun _ _ z => z
  obtain ⟨⟨h', rfl, x1, x2⟩, dk⟩ := z
  exact hQ h' ⟨B, a0, hB, fun b o q nm => hBG b o (F.keep b o q) (fun hm => by
    rcases kts_mem hm with z | z
    · rw [z, kts_self F] at q
      cases q
    · exact nm z), fun q hq => ⟨(hl q hq).1, kts_none F.keep (hl q hq).2.1, (hl q hq).2.2⟩, x1, dict_on dk ⟨oe, he, hde⟩⟩ ((Heap.UpToSlots.of_keeps F.keep).trans (hsm.trans x2))
end
section
variable {prog : Program} {w : World} {A₀ : Around} {E : Value → Shared → Prop} {s' : Shared} {base g G : Heap} {old : List (Addr × Obj)} {outer : List Env} {L a e d : Addr} {m : Str → Option Value} {name : Str} {scope : Scope} {cd : Value}
  {n : Str} {b₀ : Stmt} {suite : List Stmt} {pos np : Pos} {rest : List ExceptHandler} {Q : Flow → Shared → Prop} {news : List (Addr × Obj)} {KF : Frag} {C fI : Addr} {bmB : List Value} {newId : String}
  {p : Program} {loose : List Str} {mean : ExcName → Option Value} {mg mb : Str → Option Value} {x : Str}
theorem cls_of_inI {K : Frag} {h : Heap} (X : K.In h) (q : excInI K C bmB newId fI = true) : ∃ nm qn N bs bm hdct sn sub ab col dd k0 k1 k2 k3 k5, h.get? C = some (excClassObj nm qn C N bs bm hdct sn sub ab col dd k0 k1 k2 k3 k5 newId) ∧ OwnTail h bmB bm := by
  unfold excInI at q
  split at q
  · rename_i dd cd sl ho
    split at q
    · rename_i C' bm k0 k1 k2 k3 n k5 hm hs
      simp only [Bool.and_eq_true, beq_iff_eq, Bool.not_eq_true'] at q
      obtain ⟨⟨⟨⟨⟨rfl, rfl⟩, hdel⟩, ht⟩, hok⟩, hni⟩ := q
      obtain ⟨nm, bs, mro, ns, qn, hd, sn, sub, ab, col, del⟩ := cd
      dsimp only at hm hdel hok hni
      subst hm hdel
      have hsl : sl = #[k0, k1, k2, k3, some (.builtin n), k5] := by
        obtain ⟨l⟩ := sl
        simp only at hs
        rw [hs]
      subst hsl
      exact ⟨nm, qn, ns, bs, bm, hd, sn, sub, ab, col, dd, k0, k1, k2, k3, k5, X _ _ ho, tail_of_in X ht⟩
    · cases q
  · cases q
theorem caught_as (K : Below A₀ base outer g) (F : Fr g L G m) (hsm : G.UpToSlots s'.heap) (R : Raised base G (envOf name scope L a cd :: outer) e d C news s'.heap)
    (XB : KF.In base) (TB : Top p loose mean mg mb base) (ex : nsIn KF mainGlobals x = some (some (.ref C))) (q : excInI KF C bmB newId fI = true) (hbase : bmB.contains (.type "BaseException") = true) (No : News g L G old)
    (k : ∀ g' h' oe tk, Fr g' L h' (fun y => if y = n then some (.ref e) else m y) → Below A₀ base outer g' → KF.In g' → Top p loose mean mg mb g' → KtsTurn (outer.filterMap (·.frame)) g g' → News g' L h' ((e, oe) :: (news ++ old)) → oe.cls = .ref C → oe.dict = some d → notCls oe = true →
      wpAny (model prog w) ((A₀.deeper (envOf name scope L a cd)).mark (some (.ref e))) (execs (b₀ :: suite) (envOf name scope L a cd))
        (fun f s₄ => wpAny (model prog w) (A₀.deeper (envOf name scope L a cd)) (do bindName (envOf name scope L a cd) n .none; unbindBehindTheSuite (envOf name scope L a cd) n pos) (fun _ s₅ => Q f s₅) E s₄)
        (AsSuiteRaised (model prog w) ((A₀.deeper (envOf name scope L a cd)).mark (some (.ref e))) (envOf name scope L a cd) n pos (notedBy (model prog w) ((A₀.deeper (envOf name scope L a cd)).mark (some (.ref e))) (envOf name scope L a cd) (cameBackBy (model prog w) (A₀.deeper (envOf name scope L a cd)) (envOf name scope L a cd) E)))
        { s' with heap := h', toks := tk })
    (hk : scope.kind = .function := by rfl) (hlo : (envOf name scope L a cd).kindOf n = some .local := by rfl) (hx : (envOf name scope L a cd).kindOf x = some .globalImplicit := by rfl) (hd : (x == ("__debug__" : Str)) = false := by decide) :
    wpAny (model prog w) (A₀.deeper (envOf name scope L a cd)) (noteFrame (.ref e) (envOf name scope L a cd))
      (fun _ s₂ => wpAny (model prog w) (A₀.deeper (envOf name scope L a cd)) (setFlight (.ref e) none) (fun _ s₃ =>
        wpAny (model prog w) (A₀.deeper (envOf name scope L a cd)) (handleBy (.ref e) (envOf name scope L a cd) (.ExceptHandler (some (.Name x np)) (some n) (b₀ :: suite) pos :: rest)) Q E s₃) E s₂) E s' := by
  obtain ⟨B, a0, hB, hBG, hl, hfl, hdict⟩ := R
  have hL : B.get? L = none := by
    obtain ⟨_, ⟨L', _, hf, hn', _⟩, _⟩ := hfl.2.2.1
    obtain rfl : L = L' := Option.some.inj hf
    exact hn'
  refine wpAny_mono ((tame_noteFrame _ _).any (wpAny_looks_onW (Q := fun _ s₁ => ∃ h', s₁ = { s' with heap := h' } ∧ Heap.HeldW B (envOf name scope L a cd :: outer) e (.ref C) a0 L h' ∧ s'.heap.UpToSlots h') (Around.frames_deeper K.stack) rfl hfl fun h' x1 x2 => ⟨h', rfl, x1, x2⟩)) (fun _ s₁ z => ?_) fun _ _ z => z
  obtain ⟨⟨h₄, rfl, hheld₄, hsm₄⟩, dk₄⟩ := z
  refine wpAny_mono ((tame_setFlight _ _).any (wpAny_landsW (s := { s' with heap := h₄ }) (Q := fun _ s₁ => ∃ h', s₁ = { s' with heap := h' } ∧ Heap.FlyingW B (envOf name scope L a cd :: outer) e (.ref C) a0 h' ∧ h₄.UpToSlots h') hheld₄ fun h' x1 x2 => ⟨h', rfl, x1, x2⟩)) (fun _ s₁ z => ?_) fun _ _ z => z
  obtain ⟨⟨h₅, rfl, hheld, hsm₅'⟩, dk₅⟩ := z
  have hsm₅ := hsm₄.trans hsm₅'
  obtain ⟨g₅, T₅, F₅, K₅⟩ := kts_ground K F hBG hheld.1 (hsm.trans hsm₅)
  have X₅ : KF.In g₅ := XB.keeps K₅.stays
  have P₅ : TopRead p loose mg mb g₅ := topRead_of (TB.keeps K₅.stays)
  obtain ⟨ob, hob, hobc⟩ := hheld.there
  refine wpAny_handleBy_cons (codeAny_handlers_test (name_K F₅ X₅ P₅ ex ?_ hk hx hd)) (by intro q; cases q)
  obtain ⟨nm, qn, N, bs, bm, hdct, sn, sub, ab, col, dd, k0, k1, k2, k3, k5, hC, TL⟩ := cls_of_inI (X₅.keeps F₅.keep) q
  refine wpAny_excMatches_sub_self hC hob hobc (TL.hasType hbase) (codeAny_handlers_suite_as ?_)
  refine wpAny_mono ((tame_setFlight _ _).any (lands_againW (s := { s' with heap := h₅ }) (Q := fun _ s₁ => ∃ h', s₁ = { s' with heap := h' } ∧ Heap.FlyingW B (envOf name scope L a cd :: outer) e (.ref C) a0 h' ∧ h₅.UpToSlots h') hheld fun h' x1 x2 => ⟨h', rfl, x1, x2⟩)) (fun _ s₁ z => ?_) fun _ _ z => z
  obtain ⟨⟨h₆, rfl, hfl₆, hsm₆⟩, dk₆⟩ := z
  obtain ⟨g₆, T₆, F₆, K₆⟩ := kts_ground K F hBG hfl₆.1 ((hsm.trans hsm₅).trans hsm₆)
  obtain ⟨oe, ws, hoe, hoec, hoed, hoe0⟩ := hfl₆.first
  obtain ⟨oe', hoe', hdict'⟩ := dict_on dk₆ (dict_on dk₅ (dict_on dk₄ hdict))
  obtain rfl : oe' = oe := by rw [hoe] at hoe'; exact (Option.some.inj hoe').symm
  have ne₆ : g₆.get? e = none := T₆.none_ _ (kts_fresh F hBG hfl₆.2.1 fun o ho m => by
    obtain ⟨_, o', ho', hd⟩ := K.frames.mem m
    rw [ho] at ho'
    cases ho'
    obtain ⟨sl, hs⟩ := ((hsm.trans hsm₅).trans hsm₆) _ _ (F.keep _ _ ho) hd
    rw [hoe] at hs
    cases hs
    exact hd _ hoed)
  have N₆ := News.more F₆ News.nil hoe (fun es n q => by rw [hoed] at q; cases q) ne₆
  have Nl : News g₆ L h₆ news := fun q hq => ⟨hfl₆.1 _ _ (hl q hq).1, (fun z => by have := (hl q hq).1; rw [z, hL] at this; cases this), T₆.none_ _ (kts_none F.keep (hl q hq).2.1)⟩
  have Ol : News g₆ L h₆ old := fun q hq => by
    obtain ⟨n1, n2, n3⟩ := No q hq
    refine ⟨hfl₆.1 _ _ (hBG _ _ n1 fun hm => ?_), n2, T₆.none_ _ n3⟩
    rcases kts_mem hm with z | z
    · exact n2 z
    · obtain ⟨_, o', ho', _⟩ := K.frames.mem z
      rw [n3] at ho'; cases ho'
  refine stN F₆ (news := (e, oe') :: (news ++ old)) (fun q hq => ?_) (fun h₇ F₇ N₇ => ?_) hk hlo
  · rcases List.mem_cons.mp hq with rfl | hq
    · exact N₆ _ (.head _)
    · rcases List.mem_append.mp hq with hq | hq
      · exact Nl q hq
      · exact Ol q hq
  · exact k g₆ h₇ _ _ F₇ K₆ (XB.keeps K₆.stays) (TB.keeps K₆.stays) T₆ N₇ hoec hdict' (by unfold notCls; rw [hoed])
end

theorem off_exc8 : True := by w_top off; exact trivial
theorem news_pick {h₀ h : Heap} {L : Addr} {a b : Addr × Obj} {r : List (Addr × Obj)} (N : News h₀ L h (a :: b :: r)) : News h₀ L h [b, a] := by
  intro p hp
  rcases List.mem_cons.mp hp with rfl | hp
  · exact N _ (.tail _ (.head _))
  · rw [List.mem_singleton.mp hp]; exact N _ (.head _)
def RaiseOwn (C : Addr) (E : Value → Shared → Prop) (v : Value) (s₁ : Shared) : Prop := ∃ x t od nm q N bs bm hdct sn sub ab col dd k0 k1 k2 k3 k5 newId, v = .ref x ∧ bm.contains (.type "BaseException") = true ∧ s₁.heap.get? C = some (excClassObj nm q C N bs bm hdct sn sub ab col dd k0 k1 k2 k3 k5 newId) ∧
      s₁.heap.get? x = some { cls := .ref C, dict := od, data := .fields #[.ref t, .none, .none, .none, .bool false, .none] } ∧ E (.ref x) s₁
section
variable {M : Model} {A : Around} {E : Value → Shared → Prop} {s : Shared} {env : Env}
variable {nm q : Str} {C N : Addr} {bs bm : List Value} {hdct : Bool} {sn : List Str} {sub : List Value} {ab : Bool} {col : Option Bool} {dd : Option Addr} {k0 k1 k2 k3 k5 : Option Value} {newId : String}
theorem raise_own {e : Expr} {pos : Pos} {Q : Flow → Shared → Prop} (hh : A.handled = none)
    (h : wpAny M A (eval e env) (RaiseOwn C E) E s) :
    wpAny M A (exec (.Raise (some e) none pos) env) Q E s := by
  show wpAny M A (do standAt pos; raiseStmt env (some (do let v ← eval e env; standAt pos; pure v)) none) Q E s
  refine wpAny_bind (wpAny_standAt ?_)
  unfold raiseStmt
  dsimp only
  refine wpAny_bind (wpAny_bind (wpAny_mono h (fun v s₁ h₁ => wpAny_bind (wpAny_standAt (wpAny_pure ?_))) fun _ _ x => x))
  obtain ⟨x, t, od, nm, q, N, bs, bm, hdct, sn, sub, ab, col, dd, k0, k1, k2, k3, k5, newId, rfl, hbase, hC, he, hE⟩ := h₁
  have hcB : (Value.ref C :: bm).contains (.type "BaseException") = true := by rw [List.contains_cons, hbase, Bool.or_true]
  obtain ⟨hp, g, d, tk, os⟩ := s₁
  repeat (first | with_reducible refine wpAny_loadPart_at he ?_ | with_reducible refine wpAny_loadPart_at hC ?_ | (with_reducible refine wpAny_isSubtype_exc hC ?_; rw [hcB]) | wp_step)
  exact wpAny_raiseNew_none hh hE
end
/-- a claim about a call that raises SnobolError(1) -/
def ClR (w : World) (mean : ExcName → Option Value) (mg mb : Str → Option Value) (n : Nat) (f : Addr) (vs : List Value) (own : List (Addr × Obj)) (pre : Heap → Prop) : Prop :=
  ∀ (dp un : Nat) (gd : Option (List Code)) (cn : Str) (cs : Scope) (a : Addr) (ccd : Value) (cl : List (Str × Addr)) (outer : List Env) (A₀ : Around) (base h₀ : Heap) (L : Addr) (m : Str → Option Value) (s : Shared) (Q E : Value → Shared → Prop),
    Below A₀ base outer h₀ → Fr h₀ L s.heap m → (kf w.params).In h₀ → News h₀ L s.heap own → Top vw lz mean mg mb h₀ → cs.kind = .function →
    dp + n < recursionLimit → un + 8 * n < cLine → pre s.heap →
    (∀ e d es nn t h' tk', getL "number" es = some (some (.int 1 t)) → Raised base (hideAll s.heap (own.map (·.1))) (envX cn cs L a ccd cl :: outer) e d 34 [(d, dictOf es nn)] h' → Fr h₀ L (hideAll s.heap (own.map (·.1))) m → (hideAll s.heap (own.map (·.1))).UpToSlots h' → E (.ref e) { s with heap := h', toks := tk' }) →
    wpAny (model pg w) (ktrTop dp un gd cn cs L a ccd cl outer) (call (.ref f) vs) Q E s
def RaiseTo (base G : Heap) (l : List Env) (E : Value → Shared → Prop) (s : Shared) : Prop := ∀ e d es nn t h' tk', getL "number" es = some (some (.int 1 t)) → Raised base G l e d 34 [(d, dictOf es nn)] h' → G.UpToSlots h' → E (.ref e) { s with heap := h', toks := tk' }
section
variable {w : World} {mean : ExcName → Option Value} {mg mb : Str → Option Value} {n : Nat} {f : Addr} {vs : List Value} {own : List (Addr × Obj)} {pre : Heap → Prop}
  {name qual : Str} {params : Arguments} {body : List Stmt} {scope : Scope} {dV kV doc pm cdv ct oc : Value} {an od : Option Addr} {osl : Array (Option Value)} {binds : List (Str × Value)}
theorem ClR.enter (ho : (kf w.params).lookup f = some ⟨oc, od, .func (fnOf name qual params body scope dV kV doc pm an cdv ct), osl⟩) (hcd : codeIn (kf w.params) cdv qual = true) (h1 : 0 < n)
    (hbind : bindArgs (fnOf name qual params body scope dV kV doc pm an cdv ct) ⟨vs, []⟩ = pure binds) (hloc : ∀ y ∈ binds, scope.names.lookup y.1 = some .local)
    (h : ∀ (dp un : Nat) (gd : Option (List Code)) (cn : Str) (cs : Scope) (L a : Addr) (ccd : Value) (cl : List (Str × Addr)) (outer : List Env) (base : Heap) (s : Shared) (g : Heap) (L' : Addr) (h₁ : Heap) (tk : Nat) (E : Value → Shared → Prop),
      Fr g L' h₁ (fun y => binds.reverse.lookup y) → News g L' h₁ own → Below (ktrTop dp un gd cn cs L a ccd cl outer) base (envX cn cs L a ccd cl :: outer) g → (kf w.params).In g → Top vw lz mean mg mb g → (∀ p ∈ own, p.1 < L') → GSub s.heap g (own.map (·.1)) →
      dp + n < recursionLimit → un + 8 * n < cLine → pre s.heap →
      RaiseTo base g (envX cn cs L a ccd cl :: outer) E s →
      wpAny (model pg w) ((ktrTop dp un gd cn cs L a ccd cl outer).deeper (envOf qual scope L' f cdv)) (execs body (envOf qual scope L' f cdv))
        (fun _ _ => False)
        (fun e s' => wpAny (model pg w) ((ktrTop dp un gd cn cs L a ccd cl outer).deeper (envOf qual scope L' f cdv)) (leaving (envOf qual scope L' f cdv) e) (fun _ s'' => E e s'') (fun e' s'' => E e' s'') s') { s with heap := h₁, toks := tk })
    (hco : scope.isCoroutine = false) (hgen : scope.isGenerator = false) (hk : scope.kind = .function) (hcell : ∀ x ∈ scope.names, x.2 ≠ .cell) : ClR w mean mg mb n f vs own pre := by
  intro dp un gd cn cs a ccd cl outer A₀ base h₀ L m s Q E B F X N T hks hd hu hp hret
  refine wpAny_call ?_
  obtain ⟨FG, BG, st, lv⟩ := groundX (A := ktrTop dp un gd cn cs L a ccd cl outer) (R := fun r s' => match r with | .ok (.ret v) => Q v s' | .ok _ => False | .error e => E e s') B F N (env := envX cn cs L a ccd cl) rfl rfl hks
  refine codeAny_call_def (fd := fnX name qual params body scope [] dV kV doc pm an cdv ct) (body := body) (binds := binds) (by show dp < recursionLimit; omega) ((X.keeps F.keep) _ _ ho) rfl (T.nolimit.keeps F.keep) (codeRec_of (X.keeps F.keep) hcd) rfl (BindsTo.of_eq hbind) hcell hloc (fun h₁ hns hk₁ => ?_) hco hgen hk
  refine wpAny_mono (h dp un gd cn cs L a ccd cl outer base s _ s.heap.objs.size h₁ _ _ ⟨hns, fun b o e => hk₁ b o (of_hideAll _ e), Nat.le_of_eq (hideAll_size _ _)⟩
    (fun p hp => ⟨hk₁ _ _ (N p hp).1, Nat.ne_of_lt (Heap.lt_size (N p hp).1), hideAll_none _ (List.mem_map_of_mem hp)⟩) BG (X.keeps st) (T.keeps st) (fun p hp => Heap.lt_size (N p hp).1) (fun b o e n => hideAll_get _ e n) hd hu hp fun e d es nn t h' tk' a b c => hret e d es nn t h' tk' a b FG c)
    (fun fl s' he => he.elim) fun _ _ y => y
end

theorem off_exc9 : True := by w_top off; exact trivial
theorem exc34 (w : World) : excInI (kf w.params) 34 [.type "Exception", .type "BaseException", .type "object"] "Exception.__new__" 31 = true := by kernel_rfl
theorem fn31 (w : World) : isFn (kf w.params) (.ref 31) = true := by kernel_rfl
theorem any34 (w : World) : nsIn (kf w.params) cStatics "thirdparty.any" = some none := by kernel_rfl
theorem super34 (w : World) : ks_superIn (kf w.params) 34 34 "__init__" = some (some (.builtin "Exception.__init__")) := by kernel_rfl
theorem sub34 (w : World) : mroIn (kf w.params) 34 (.type "Exception") = some true := by kernel_rfl
theorem is34 (w : World) : (clsIn (kf w.params) 34).isSome = true := by kernel_rfl
section
local macro_rules | `(tactic| walk_at "zz") => `(tactic| skip)
local macro_rules | `(tactic| walk_at "exec Raise some none") => `(tactic| (k_here; k_dflt (refine raise_own (C := 34) rfl ?_)))
set_option maxHeartbeats 4000000 in
theorem need_raise (w : World) (mean mg mb) (v d : Addr) (es : List DictEntry) (n : Nat) : ClR w mean mg mb 12 128 [.ref v] [(v, instObj 68 d), (d, dictOf es n)] (fun _ => True) := by
  k_dflt ((refine here_in ?_; k_fill; intro _; refine Mine.ClR.enter (by k_is) (by k_is) (by decide) (by w_strict (exact rfl)) (by w_strict (exact locs rfl)) ?_ (by w_strict (exact rfl)) (by w_strict (exact rfl)) (by w_strict (exact rfl)) (by decide); (intro z9dp z9un z9gd z9cn z9cs z9L z9a z9ccd z9cl z9outer z9base z9s z9g z9L' z9h₁ z9tk z9E z9F' z9N' z9B' z9X' z9T' z9hlt z9G z9hd z9hu z9hp z9hraise); (try dsimp only)))
  (repeat' (first | (k_unfold; (try dsimp only)) | (k_end; wrow_close) | ((with_reducible show wpAny _ _ (execs (_ :: _) _) _ _ ⟨_, _, _, _ + _, _⟩); refine absTok ?_; intro tk) | walk1 | (dsimp only; first | walk1) | (leave1; walk_say "STEP leave1"; try dsimp only) | fail "no step"))
  (refine' call_exc (fI := 31) PySem.F.excBase_Exception ?k1 ?k2 ?k3 (exc34 _) (fn31 _) ?k6 ?_; (case k1 => k_asm); (case k2 => k_asm); (case k3 => k_asm); (case k6 => (rw [sizeLine_eq]; exact Nat.le_of_ble_eq_true rfl)); (intro x' d' h' F' N' l1 l2); refine' ks_code_super ?qk1 ?qk2 ?qk3 ?qk4 ?qk5 ?qkA ?qkF ?qkK ?qk6 ?qk7 ?qk8 ?qk9 ?qkB ?_ ?qc1 ?qc2 ?qc3 ?qc4; (case qkA => exact rfl); (case qkF => exact rfl); (case qkK => exact rfl); (case qk1 => k_asm); (case qk2 => k_asm); (case qk3 => k_asm); (case qk4 => k_asm); (case qk5 => k_asm); (case qk6 => k_is); (case qk7 => k_is); (case qk8 => k_room); (case qk9 => first | exact BindsTo.of_eq rfl | exact binds_K (by k_in) rfl (by k_is) rfl rfl rfl); (case qkB => exact locs rfl); (case qc1 => decide); (case qc2 => exact rfl); (case qc3 => exact rfl); (case qc4 => exact rfl); intro g9 L9 h9 FG9 F9 N9 B9 X9 T9 l9; (try k_lt l9); (try dsimp only); (try k_lift B9))
  (repeat' (first | (k_unfold; (try dsimp only)) | (k_end; wrow_close) | ((with_reducible show wpAny _ _ (execs (_ :: _) _) _ _ ⟨_, _, _, _ + _, _⟩); refine absTok ?_; intro tk) | walk1 | (dsimp only; first | walk1) | (leave1; walk_say "STEP leave1"; try dsimp only) | fail "no step"))
  (k_here; k_dflt (refine' ks_node (ox := excNew 34 d') (odx := none) ?F ?X ?N ?T ?k5 ?k6 ?k7 ?k8 ?k9 ?k10 ?k11 ?k12 ?k13 ?k14 ?k15 ?k16 ?k17 ?k18 ?k19 ?k20 ?k21 ?k22 ?_; (case F => exact F9); (case X => k_asm); (case N => exact N9); (case T => k_asm); (case k5 => k_is); (case k6 => rfl); (case k7 => rfl); (case k8 => exact inst_exc N9 (.head _)); (case k9 => k_is); (case k10 => rfl); (case k11 => (first | rfl | decide +kernel)); (case k12 => k_is); (case k13 => k_is); (case k14 => k_is); (case k15 => k_is); (case k16 => decide); (case k17 => rfl); (case k18 => rfl); (case k19 => rfl); (case k20 => rfl); (case k21 => decide +kernel); (case k22 => first | boot_by_name | rfl | kernel_rfl); intro so8 h8 F8 N8 l8))
  (refine' method_b (x := x') (C := 34) (D := 34) (t0 := d') ?F ?X ?N ?so ?hx (any34 w) (super34 w) (sub34 w) ?_; (case F => exact F8); (case X => k_asm); (case N => exact N8); (case so => exact .head _); (case hx => exact .tail _ (.head _)); intro q7 h7 F7 N7 l7)
  (try dsimp only)
  refine callWith_mw (x := x') ?_
  (repeat' (first | (k_unfold; (try dsimp only)) | (k_end; wrow_close) | ((with_reducible show wpAny _ _ (execs (_ :: _) _) _ _ ⟨_, _, _, _ + _, _⟩); refine absTok ?_; intro tk) | walk1 | (dsimp only; first | walk1) | (leave1; walk_say "STEP leave1"; try dsimp only) | fail "no step"))
  refine ⟨(N7 _ (.head _)).1, ?_⟩
  (refine' mw_call (x := x') (C := 34) (t0 := d') (rest := [(v, instObj 68 d), (d, dictOf es n)]) ?F ?X ?N ?hq ?hx (is34 w) ?hs ?hr ?_; (case F => exact F7); (case X => k_asm); (case N => exact N7); (case hq => exact .head _); (case hx => exact .tail _ (.tail _ (.head _))); (case hs => (rw [sizeLine_eq]; exact Nat.le_of_ble_eq_true rfl)); (case hr => (intro p hp; exact ⟨.tail _ (.tail _ (.tail _ (.tail _ hp))), Nat.ne_of_lt (Nat.lt_trans (l1 p hp) l2)⟩)); intro t6 h6 F6 N6 l6)
  (repeat' (first | (k_unfold; (try dsimp only)) | (k_end; wrow_close) | ((with_reducible show wpAny _ _ (execs (_ :: _) _) _ _ ⟨_, _, _, _ + _, _⟩); refine absTok ?_; intro tk) | walk1 | (dsimp only; first | walk1) | (leave1; walk_say "STEP leave1"; try dsimp only) | fail "no step"))
  (refine' set_first (x := x') (C := 34) ?F ?X ?N ?hp ?a1 ?a2 ?a3 ?a4 (find34s w) (cls34 w) (dict34 w) (taker34n w) ?e ?hz ?_; (case F => exact F6); (case X => k_asm); (case N => exact N6); (case hp => (intro p hp; rcases List.mem_cons.mp hp with rfl | hp <;> first | exact Nat.ne_of_lt (Nat.lt_trans (l1 p hp) l2) | exact Nat.ne_of_gt (l6 _ (.tail _ (.tail _ (.head _)))))); (case a1 => exact rfl); (case a2 => exact rfl); (case a3 => exact rfl); (case a4 => exact rfl); (case e => k_put); (case hz => exact Nat.le_of_ble_eq_true rfl); intro d5 h5 F5 N5 l5 l5')
  (repeat' (first | (k_unfold; (try dsimp only)) | (k_end; wrow_close) | ((with_reducible show wpAny _ _ (execs (_ :: _) _) _ _ ⟨_, _, _, _ + _, _⟩); refine absTok ?_; intro tk) | walk1 | (dsimp only; first | walk1) | (leave1; walk_say "STEP leave1"; try dsimp only) | fail "no step"))
  (refine' set_next (x := x') (C := 34) (d := d5) ?F ?X ?N ?hp ?hx ?a1 ?a2 ?a3 (find34s w) (cls34 w) (dict34 w) (taker34t w) ?hl ?e ?hz ?_; (case F => exact F5); (case X => k_asm); (case N => exact N5); (case hp => (intro p hp; rcases List.mem_cons.mp hp with rfl | hp <;> first | exact Nat.ne_of_lt (l5' p hp) | exact Ne.symm l5)); (case hx => exact .head _); (case a1 => exact rfl); (case a2 => exact rfl); (case a3 => exact rfl); (case hl => exact rfl); (case e => k_put); (case hz => exact Nat.le_of_ble_eq_true rfl); intro h4 F4 N4)
  (repeat' (first | (k_unfold; (try dsimp only)) | (k_end; wrow_close) | ((with_reducible show wpAny _ _ (execs (_ :: _) _) _ _ ⟨_, _, _, _ + _, _⟩); refine absTok ?_; intro tk) | walk1 | (dsimp only; first | walk1) | (leave1; walk_say "STEP leave1"; try dsimp only) | fail "no step"))
  with_reducible (rename Fr _ _ _ _ => kF; rename News _ _ _ _ => kN; rename RaiseTo _ _ _ _ _ => hraise)
  obtain ⟨nm, qn, N, bs, bm, hdct, sn, sub, ab, col, dd, k0, k1, k2, k3, k5, hC, TL⟩ := cls_of_inI (K := kf w.params) (h := h4) (Frag.In.keeps (by k_asm) kF.keep) (exc34 w)
  refine ⟨x', t6, some d5, nm, qn, N, bs, bm, hdct, sn, sub, ab, col, dd, k0, k1, k2, k3, k5, _, rfl, TL.hasType (by decide +kernel), hC, (kN _ (.tail _ (.head _))).1, ?_⟩
  refine leave_made (C := 34) (d := d5) (by k_asm) kF (news_pick kN) (fun q hq => by rw [List.mem_singleton.mp hq]; exact l5) rfl rfl rfl rfl rfl (fun h3 R3 U3 => ?_)
  exact hraise _ _ _ _ _ _ _ (by exact rfl) R3 U3
end
theorem ClR.use {w : World} {mean : ExcName → Option Value} {mg mb : Str → Option Value} {n : Nat} {f : Addr} {vs : List Value} {own : List (Addr × Obj)} {pre : Heap → Prop}
    {dp un : Nat} {gd : Option (List Code)} {cn : Str} {cs : Scope} {a : Addr} {ccd : Value} {cl : List (Str × Addr)} {outer : List Env} {A₀ : Around} {base h₀ : Heap} {L : Addr} {m : Str → Option Value} {s : Shared} {Q E : Value → Shared → Prop} {news : List (Addr × Obj)}
    (B : Below A₀ base outer h₀) (F : Fr h₀ L s.heap m) (X : (kf w.params).In h₀) (N : News h₀ L s.heap news) (T : Top vw lz mean mg mb h₀) (hk : cs.kind = .function)
    (C : ClR w mean mg mb n f vs own pre) (ho : ∀ p ∈ own, p ∈ news) (hd : dp + n < recursionLimit) (hu : un + 8 * n < cLine) (hp : pre s.heap)
    (ret : ∀ e d es nn t h' tk', getL "number" es = some (some (.int 1 t)) → Raised base (hideAll s.heap (own.map (·.1))) (envX cn cs L a ccd cl :: outer) e d 34 [(d, dictOf es nn)] h' → Fr h₀ L (hideAll s.heap (own.map (·.1))) m → (hideAll s.heap (own.map (·.1))).UpToSlots h' → E (.ref e) { s with heap := h', toks := tk' }) :
    wpAny (model pg w) (ktrTop dp un gd cn cs L a ccd cl outer) (call (.ref f) vs) Q E s :=
  C dp un gd cn cs a ccd cl outer A₀ base h₀ L m s Q E B F X (fun p hp => N p (ho p hp)) T hk hd hu hp ret
theorem ClR.use0 {w : World} {mean : ExcName → Option Value} {mg mb : Str → Option Value} {n : Nat} {f : Addr} {vs : List Value} {own : List (Addr × Obj)} {pre : Heap → Prop}
    {dp un : Nat} {gd : Option (List Code)} {cn : Str} {cs : Scope} {a : Addr} {ccd : Value} {cl : List (Str × Addr)} {outer : List Env} {A₀ : Around} {base h₀ : Heap} {L : Addr} {m : Str → Option Value} {s : Shared} {Q E : Value → Shared → Prop}
    (B : Below A₀ base outer h₀) (F : Fr h₀ L s.heap m) (X : (kf w.params).In h₀) (N : News h₀ L s.heap own) (T : Top vw lz mean mg mb h₀) (hk : cs.kind = .function)
    (C : ClR w mean mg mb n f vs own pre) (hd : dp + n < recursionLimit) (hu : un + 8 * n < cLine) (hp : pre s.heap)
    (ret : ∀ e d es nn t h' tk', getL "number" es = some (some (.int 1 t)) → Raised base (hideAll s.heap (own.map (·.1))) (envX cn cs L a ccd cl :: outer) e d 34 [(d, dictOf es nn)] h' → Fr h₀ L (hideAll s.heap (own.map (·.1))) m → (hideAll s.heap (own.map (·.1))).UpToSlots h' → E (.ref e) { s with heap := h', toks := tk' }) :
    wpAny (model pg w) (ktrTop dp un gd cn cs L a ccd cl outer) (call (.ref f) vs) Q E s :=
  C dp un gd cn cs a ccd cl outer A₀ base h₀ L m s Q E B F X N T hk hd hu hp ret

theorem off_exc10 : True := by w_top off; exact trivial
theorem ClR.use1 {w : World} {mean : ExcName → Option Value} {mg mb : Str → Option Value} {n : Nat} {f : Addr} {vs : List Value} {own : List (Addr × Obj)} {p : Addr × Obj} {pre : Heap → Prop}
    {dp un : Nat} {gd : Option (List Code)} {cn : Str} {cs : Scope} {a : Addr} {ccd : Value} {cl : List (Str × Addr)} {outer : List Env} {A₀ : Around} {base h₀ : Heap} {L : Addr} {m : Str → Option Value} {s : Shared} {Q E : Value → Shared → Prop}
    (B : Below A₀ base outer h₀) (F : Fr h₀ L s.heap m) (X : (kf w.params).In h₀) (N : News h₀ L s.heap (p :: own)) (T : Top vw lz mean mg mb h₀) (hk : cs.kind = .function)
    (C : ClR w mean mg mb n f vs own pre) (hd : dp + n < recursionLimit) (hu : un + 8 * n < cLine) (hp : pre s.heap)
    (ret : ∀ e d es nn t h' tk', getL "number" es = some (some (.int 1 t)) → Raised base (hideAll s.heap (own.map (·.1))) (envX cn cs L a ccd cl :: outer) e d 34 [(d, dictOf es nn)] h' → Fr h₀ L (hideAll s.heap (own.map (·.1))) m → (hideAll s.heap (own.map (·.1))).UpToSlots h' → E (.ref e) { s with heap := h', toks := tk' }) :
    wpAny (model pg w) (ktrTop dp un gd cn cs L a ccd cl outer) (call (.ref f) vs) Q E s :=
  C dp un gd cn cs a ccd cl outer A₀ base h₀ L m s Q E B F X (fun q hq => N q (.tail _ hq)) T hk hd hu hp ret
theorem gsub_list {h g : Heap} {l v d : Addr} {xs : Array Value} {o1 o2 : Obj} (G : GSub h g (([(v, o1), (d, o2)] : List (Addr × Obj)).map (·.1))) (hl : h.IsList l xs) (h1 : l ≠ v) (h2 : l ≠ d) : g.IsList l xs := by
  obtain ⟨o, ho, r⟩ := hl
  refine ⟨o, G _ _ ho (fun h => ?_), r⟩
  simp at h
  rcases h with h | h
  · exact h1 h
  · exact h2 h
section
local macro_rules | `(tactic| walk_at "zz") => `(tactic| skip)
set_option maxHeartbeats 2000000 in
theorem trep_raise0 (w : World) (mean mg mb) (wv v1 v2 : Value) (a v d : Addr) (es : List DictEntry) (n : Nat) :
    ClR w mean mg mb 24 168 [wv, .ref a] [(v, instObj 68 d), (d, dictOf es n)] (fun h => h.IsList a [.ref v, v1, v2].toArray ∧ a ≠ v ∧ a ≠ d) := by
  k_dflt ((refine here_in ?_; k_fill; intro _; refine Mine.ClR.enter (by k_is) (by k_is) (by decide) (by w_strict (exact rfl)) (by w_strict (exact locs rfl)) ?_ (by w_strict (exact rfl)) (by w_strict (exact rfl)) (by w_strict (exact rfl)) (by decide); (intro z9dp z9un z9gd z9cn z9cs z9L z9a z9ccd z9cl z9outer z9base z9s z9g z9L' z9h₁ z9tk z9E z9F' z9N' z9B' z9X' z9T' z9hlt z9G z9hd z9hu z9hp z9hraise); (try dsimp only)))
  rename _ ∧ _ => hp
  (rename GSub _ _ _ => G)
  have hL' := gsub_list G hp.1 hp.2.1 hp.2.2
  (repeat' (first | (k_unfold; (try dsimp only)) | (k_end; wrow_close) | ((with_reducible show wpAny _ _ (execs (_ :: _) _) _ _ ⟨_, _, _, _ + _, _⟩); refine absTok ?_; intro tk) | (with_reducible first | (k_here; (with_reducible show wpAny _ _ (call (Value.ref 128) [Value.ref _]) _ _ _); k_dflt (first | (refine Mine.ClR.use0 (by k_asm) (by k_asm) (by k_asm) (by k_asm) (by k_asm) (by w_strict (first | exact rfl | assumption)) (need_raise _ _ _ _ _ _ _ _) (by k_room) (by k_units) trivial ?_; intro e9 d9 es9 nn9 t9 h9 tk9 hg9 R9 F9 U9; refine leave_on (by k_asm) F9 R9 U9 (fun h8 R8 U8 => ?_); (with_reducible rename RaiseTo _ _ _ _ _ => hraise); exact hraise _ _ _ _ _ _ _ hg9 R8 U8) | (refine Mine.ClR.use1 (by k_asm) (by k_asm) (by k_asm) (by k_asm) (by k_asm) (by w_strict (first | exact rfl | assumption)) (need_raise _ _ _ _ _ _ _ _) (by k_room) (by k_units) trivial ?_; intro e9 d9 es9 nn9 t9 h9 tk9 hg9 R9 F9 U9; refine leave_on (by k_asm) F9 R9 U9 (fun h8 R8 U8 => ?_); (with_reducible rename RaiseTo _ _ _ _ _ => hraise); exact hraise _ _ _ _ _ _ _ hg9 R8 U8))) | ((with_reducible show wpAny _ _ (call (Value.ref _) _) _ _ _); (k_here; k_dflt (refine Mine.Cl.useS (by k_asm) (by k_asm) (by k_asm) (by k_asm) (by k_asm) (by w_strict (first | exact rfl | assumption)) (by k_room) (by k_units) trivial (need_text_tv _ _ _ _ _ _ (by w_strict (first | assumption | exact TV.str _ _)) (by w_strict (((try simp only [rep_len, List.length_append, List.length_cons, List.length_nil]); omega)))) ?_; intro t9 h9 tk9 F9 N9 keep9; (try k_sweep); (try dsimp only))))) | walk1 | (dsimp only; first | (with_reducible first | (k_here; (with_reducible show wpAny _ _ (call (Value.ref 128) [Value.ref _]) _ _ _); k_dflt (first | (refine Mine.ClR.use0 (by k_asm) (by k_asm) (by k_asm) (by k_asm) (by k_asm) (by w_strict (first | exact rfl | assumption)) (need_raise _ _ _ _ _ _ _ _) (by k_room) (by k_units) trivial ?_; intro e9 d9 es9 nn9 t9 h9 tk9 hg9 R9 F9 U9; refine leave_on (by k_asm) F9 R9 U9 (fun h8 R8 U8 => ?_); (with_reducible rename RaiseTo _ _ _ _ _ => hraise); exact hraise _ _ _ _ _ _ _ hg9 R8 U8) | (refine Mine.ClR.use1 (by k_asm) (by k_asm) (by k_asm) (by k_asm) (by k_asm) (by w_strict (first | exact rfl | assumption)) (need_raise _ _ _ _ _ _ _ _) (by k_room) (by k_units) trivial ?_; intro e9 d9 es9 nn9 t9 h9 tk9 hg9 R9 F9 U9; refine leave_on (by k_asm) F9 R9 U9 (fun h8 R8 U8 => ?_); (with_reducible rename RaiseTo _ _ _ _ _ => hraise); exact hraise _ _ _ _ _ _ _ hg9 R8 U8))) | ((with_reducible show wpAny _ _ (call (Value.ref _) _) _ _ _); (k_here; k_dflt (refine Mine.Cl.useS (by k_asm) (by k_asm) (by k_asm) (by k_asm) (by k_asm) (by w_strict (first | exact rfl | assumption)) (by k_room) (by k_units) trivial (need_text_tv _ _ _ _ _ _ (by w_strict (first | assumption | exact TV.str _ _)) (by w_strict (((try simp only [rep_len, List.length_append, List.length_cons, List.length_nil]); omega)))) ?_; intro t9 h9 tk9 F9 N9 keep9; (try k_sweep); (try dsimp only))))) | walk1) | (leave1; walk_say "STEP leave1"; try dsimp only) | fail "no step"))
set_option maxHeartbeats 2000000 in
theorem trep_raise1 (w : World) (mean mg mb) (wv v0 v2 : Value) (a v d : Addr) (es : List DictEntry) (n : Nat) (x : List Nat) (h0 : TV v0 x) (hx : x.length ≤ 64) :
    ClR w mean mg mb 24 168 [wv, .ref a] [(v, instObj 68 d), (d, dictOf es n)] (fun h => h.IsList a [v0, .ref v, v2].toArray ∧ a ≠ v ∧ a ≠ d) := by
  k_dflt ((refine here_in ?_; k_fill; intro _; refine Mine.ClR.enter (by k_is) (by k_is) (by decide) (by w_strict (exact rfl)) (by w_strict (exact locs rfl)) ?_ (by w_strict (exact rfl)) (by w_strict (exact rfl)) (by w_strict (exact rfl)) (by decide); (intro z9dp z9un z9gd z9cn z9cs z9L z9a z9ccd z9cl z9outer z9base z9s z9g z9L' z9h₁ z9tk z9E z9F' z9N' z9B' z9X' z9T' z9hlt z9G z9hd z9hu z9hp z9hraise); (try dsimp only)))
  rename _ ∧ _ => hp
  (rename GSub _ _ _ => G)
  have hL' := gsub_list G hp.1 hp.2.1 hp.2.2
  (repeat' (first | (k_unfold; (try dsimp only)) | (k_end; wrow_close) | ((with_reducible show wpAny _ _ (execs (_ :: _) _) _ _ ⟨_, _, _, _ + _, _⟩); refine absTok ?_; intro tk) | (with_reducible first | (k_here; (with_reducible show wpAny _ _ (call (Value.ref 128) [Value.ref _]) _ _ _); k_dflt (first | (refine Mine.ClR.use0 (by k_asm) (by k_asm) (by k_asm) (by k_asm) (by k_asm) (by w_strict (first | exact rfl | assumption)) (need_raise _ _ _ _ _ _ _ _) (by k_room) (by k_units) trivial ?_; intro e9 d9 es9 nn9 t9 h9 tk9 hg9 R9 F9 U9; refine leave_on (by k_asm) F9 R9 U9 (fun h8 R8 U8 => ?_); (with_reducible rename RaiseTo _ _ _ _ _ => hraise); exact hraise _ _ _ _ _ _ _ hg9 R8 U8) | (refine Mine.ClR.use1 (by k_asm) (by k_asm) (by k_asm) (by k_asm) (by k_asm) (by w_strict (first | exact rfl | assumption)) (need_raise _ _ _ _ _ _ _ _) (by k_room) (by k_units) trivial ?_; intro e9 d9 es9 nn9 t9 h9 tk9 hg9 R9 F9 U9; refine leave_on (by k_asm) F9 R9 U9 (fun h8 R8 U8 => ?_); (with_reducible rename RaiseTo _ _ _ _ _ => hraise); exact hraise _ _ _ _ _ _ _ hg9 R8 U8))) | ((with_reducible show wpAny _ _ (call (Value.ref _) _) _ _ _); (k_here; k_dflt (refine Mine.Cl.useS (by k_asm) (by k_asm) (by k_asm) (by k_asm) (by k_asm) (by w_strict (first | exact rfl | assumption)) (by k_room) (by k_units) trivial (need_text_tv _ _ _ _ _ _ (by w_strict (first | assumption | exact TV.str _ _)) (by w_strict (((try simp only [rep_len, List.length_append, List.length_cons, List.length_nil]); omega)))) ?_; intro t9 h9 tk9 F9 N9 keep9; (try k_sweep); (try dsimp only))))) | walk1 | (dsimp only; first | (with_reducible first | (k_here; (with_reducible show wpAny _ _ (call (Value.ref 128) [Value.ref _]) _ _ _); k_dflt (first | (refine Mine.ClR.use0 (by k_asm) (by k_asm) (by k_asm) (by k_asm) (by k_asm) (by w_strict (first | exact rfl | assumption)) (need_raise _ _ _ _ _ _ _ _) (by k_room) (by k_units) trivial ?_; intro e9 d9 es9 nn9 t9 h9 tk9 hg9 R9 F9 U9; refine leave_on (by k_asm) F9 R9 U9 (fun h8 R8 U8 => ?_); (with_reducible rename RaiseTo _ _ _ _ _ => hraise); exact hraise _ _ _ _ _ _ _ hg9 R8 U8) | (refine Mine.ClR.use1 (by k_asm) (by k_asm) (by k_asm) (by k_asm) (by k_asm) (by w_strict (first | exact rfl | assumption)) (need_raise _ _ _ _ _ _ _ _) (by k_room) (by k_units) trivial ?_; intro e9 d9 es9 nn9 t9 h9 tk9 hg9 R9 F9 U9; refine leave_on (by k_asm) F9 R9 U9 (fun h8 R8 U8 => ?_); (with_reducible rename RaiseTo _ _ _ _ _ => hraise); exact hraise _ _ _ _ _ _ _ hg9 R8 U8))) | ((with_reducible show wpAny _ _ (call (Value.ref _) _) _ _ _); (k_here; k_dflt (refine Mine.Cl.useS (by k_asm) (by k_asm) (by k_asm) (by k_asm) (by k_asm) (by w_strict (first | exact rfl | assumption)) (by k_room) (by k_units) trivial (need_text_tv _ _ _ _ _ _ (by w_strict (first | assumption | exact TV.str _ _)) (by w_strict (((try simp only [rep_len, List.length_append, List.length_cons, List.length_nil]); omega)))) ?_; intro t9 h9 tk9 F9 N9 keep9; (try k_sweep); (try dsimp only))))) | walk1) | (leave1; walk_say "STEP leave1"; try dsimp only) | fail "no step"))
set_option maxHeartbeats 2000000 in
theorem trep_raise2 (w : World) (mean mg mb) (wv v0 v1 : Value) (a v d : Addr) (es : List DictEntry) (n : Nat) (x o : List Nat) (h0 : TV v0 x) (h1 : TV v1 o) (hx : x.length ≤ 64) (ho : o.length ≤ 64) :
    ClR w mean mg mb 24 168 [wv, .ref a] [(v, instObj 68 d), (d, dictOf es n)] (fun h => h.IsList a [v0, v1, .ref v].toArray ∧ a ≠ v ∧ a ≠ d) := by
  k_dflt ((refine here_in ?_; k_fill; intro _; refine Mine.ClR.enter (by k_is) (by k_is) (by decide) (by w_strict (exact rfl)) (by w_strict (exact locs rfl)) ?_ (by w_strict (exact rfl)) (by w_strict (exact rfl)) (by w_strict (exact rfl)) (by decide); (intro z9dp z9un z9gd z9cn z9cs z9L z9a z9ccd z9cl z9outer z9base z9s z9g z9L' z9h₁ z9tk z9E z9F' z9N' z9B' z9X' z9T' z9hlt z9G z9hd z9hu z9hp z9hraise); (try dsimp only)))
  rename _ ∧ _ => hp
  (rename GSub _ _ _ => G)
  have hL' := gsub_list G hp.1 hp.2.1 hp.2.2
  (repeat' (first | (k_unfold; (try dsimp only)) | (k_end; wrow_close) | ((with_reducible show wpAny _ _ (execs (_ :: _) _) _ _ ⟨_, _, _, _ + _, _⟩); refine absTok ?_; intro tk) | (with_reducible first | (k_here; (with_reducible show wpAny _ _ (call (Value.ref 128) [Value.ref _]) _ _ _); k_dflt (first | (refine Mine.ClR.use0 (by k_asm) (by k_asm) (by k_asm) (by k_asm) (by k_asm) (by w_strict (first | exact rfl | assumption)) (need_raise _ _ _ _ _ _ _ _) (by k_room) (by k_units) trivial ?_; intro e9 d9 es9 nn9 t9 h9 tk9 hg9 R9 F9 U9; refine leave_on (by k_asm) F9 R9 U9 (fun h8 R8 U8 => ?_); (with_reducible rename RaiseTo _ _ _ _ _ => hraise); exact hraise _ _ _ _ _ _ _ hg9 R8 U8) | (refine Mine.ClR.use1 (by k_asm) (by k_asm) (by k_asm) (by k_asm) (by k_asm) (by w_strict (first | exact rfl | assumption)) (need_raise _ _ _ _ _ _ _ _) (by k_room) (by k_units) trivial ?_; intro e9 d9 es9 nn9 t9 h9 tk9 hg9 R9 F9 U9; refine leave_on (by k_asm) F9 R9 U9 (fun h8 R8 U8 => ?_); (with_reducible rename RaiseTo _ _ _ _ _ => hraise); exact hraise _ _ _ _ _ _ _ hg9 R8 U8))) | ((with_reducible show wpAny _ _ (call (Value.ref _) _) _ _ _); (k_here; k_dflt (refine Mine.Cl.useS (by k_asm) (by k_asm) (by k_asm) (by k_asm) (by k_asm) (by w_strict (first | exact rfl | assumption)) (by k_room) (by k_units) trivial (need_text_tv _ _ _ _ _ _ (by w_strict (first | assumption | exact TV.str _ _)) (by w_strict (((try simp only [rep_len, List.length_append, List.length_cons, List.length_nil]); omega)))) ?_; intro t9 h9 tk9 F9 N9 keep9; (try k_sweep); (try dsimp only))))) | walk1 | (dsimp only; first | (with_reducible first | (k_here; (with_reducible show wpAny _ _ (call (Value.ref 128) [Value.ref _]) _ _ _); k_dflt (first | (refine Mine.ClR.use0 (by k_asm) (by k_asm) (by k_asm) (by k_asm) (by k_asm) (by w_strict (first | exact rfl | assumption)) (need_raise _ _ _ _ _ _ _ _) (by k_room) (by k_units) trivial ?_; intro e9 d9 es9 nn9 t9 h9 tk9 hg9 R9 F9 U9; refine leave_on (by k_asm) F9 R9 U9 (fun h8 R8 U8 => ?_); (with_reducible rename RaiseTo _ _ _ _ _ => hraise); exact hraise _ _ _ _ _ _ _ hg9 R8 U8) | (refine Mine.ClR.use1 (by k_asm) (by k_asm) (by k_asm) (by k_asm) (by k_asm) (by w_strict (first | exact rfl | assumption)) (need_raise _ _ _ _ _ _ _ _) (by k_room) (by k_units) trivial ?_; intro e9 d9 es9 nn9 t9 h9 tk9 hg9 R9 F9 U9; refine leave_on (by k_asm) F9 R9 U9 (fun h8 R8 U8 => ?_); (with_reducible rename RaiseTo _ _ _ _ _ => hraise); exact hraise _ _ _ _ _ _ _ hg9 R8 U8))) | ((with_reducible show wpAny _ _ (call (Value.ref _) _) _ _ _); (k_here; k_dflt (refine Mine.Cl.useS (by k_asm) (by k_asm) (by k_asm) (by k_asm) (by k_asm) (by w_strict (first | exact rfl | assumption)) (by k_room) (by k_units) trivial (need_text_tv _ _ _ _ _ _ (by w_strict (first | assumption | exact TV.str _ _)) (by w_strict (((try simp only [rep_len, List.length_append, List.length_cons, List.length_nil]); omega)))) ?_; intro t9 h9 tk9 F9 N9 keep9; (try k_sweep); (try dsimp only))))) | walk1) | (leave1; walk_say "STEP leave1"; try dsimp only) | fail "no step"))
end

theorem off_exc11 : True := by w_top off; exact trivial
/-- the outer frames' own objects, up to their slots -/
def FrOk (fs : List Addr) (g : Heap) (l : List (Addr × Obj)) : Prop := ∀ b ∈ fs, ∃ o sl, g.get? b = some o ∧ (∀ vs, o.data ≠ .fields vs) ∧ (b, ({ o with slots := sl } : Obj)) ∈ l
section
variable {A : Around} {base g g' h : Heap} {outer : List Env} {L : Addr} {m : Str → Option Value} {l : List (Addr × Obj)}
theorem frames_list (K : Below A base outer g) (T : KtsTurn (outer.filterMap (·.frame)) g g') (F : Fr g' L h m) : ∃ l, FrOk (outer.filterMap (·.frame)) g l ∧ News (hideAll g (outer.filterMap (·.frame))) L h l ∧ ∀ p ∈ l, ∀ vs, p.2.data ≠ .fields vs := by
  have at1 : ∀ b ∈ outer.filterMap (·.frame), ∃ o sl, g.get? b = some o ∧ (∀ vs, o.data ≠ .fields vs) ∧ h.get? b = some { o with slots := sl } := fun b hb => by
    obtain ⟨_, o, ho, hd⟩ := K.frames.mem hb
    obtain ⟨sl, hs⟩ := T.frame b o ho hb
    exact ⟨o, sl, ho, hd, F.keep _ _ hs⟩
  refine ⟨(outer.filterMap (·.frame)).filterMap fun b => (h.get? b).map fun o => (b, o), fun b hb => ?_, fun p hp => ?_, fun p hp => ?_⟩
  · obtain ⟨o, sl, h1, h2, h3⟩ := at1 b hb
    exact ⟨o, sl, h1, h2, List.mem_filterMap.mpr ⟨b, hb, by rw [h3]; rfl⟩⟩
  · obtain ⟨b, hb, e⟩ := List.mem_filterMap.mp hp
    obtain ⟨o, sl, h1, h2, h3⟩ := at1 b hb
    rw [h3] at e
    obtain rfl := Option.some.inj e
    refine ⟨h3, fun q => ?_, hideAll_none _ hb⟩
    have q : b = L := q
    subst q
    obtain ⟨sl, hs⟩ := T.frame b o h1 hb
    rw [kts_self F] at hs
    cases hs
  · obtain ⟨b, hb, e⟩ := List.mem_filterMap.mp hp
    obtain ⟨o, sl, h1, h2, h3⟩ := at1 b hb
    rw [h3] at e
    obtain rfl := Option.some.inj e
    exact h2
theorem ground_back (K : Below A base outer g) (F : Fr (hideAll g (outer.filterMap (·.frame))) L h m) (N : News (hideAll g (outer.filterMap (·.frame))) L h l) (ok : FrOk (outer.filterMap (·.frame)) g l) :
    ∃ g', KtsTurn (outer.filterMap (·.frame)) g g' ∧ Fr g' L h m ∧ Below A base outer g' := by
  obtain ⟨T, S⟩ := kts_turn_at (h := h) (fs := outer.filterMap (·.frame)) (g := g)
    (fun b hb => by
      obtain ⟨_, o, ho, _⟩ := K.frames.mem hb
      exact ⟨o, ho⟩)
    (fun b o e nm => F.keep b o (hideAll_get _ e nm))
    (fun b o e hm => by
      obtain ⟨o', sl, h1, h2, h3⟩ := ok b hm
      rw [e] at h1
      cases h1
      exact ⟨sl, (N _ h3).1⟩)
  refine ⟨_, T, ⟨F.ns, S, by rw [T.size]; have := F.above; rwa [hideAll_size] at this⟩, ⟨K.stack, fun b o e => T.other b o (K.stays b o e) (fun hm => by
    rw [(K.frames.mem hm).1] at e
    cases e), K.frames.of_keeps fun b o e _ => ?_⟩⟩
  obtain ⟨sl, hs⟩ := T.up e
  exact ⟨_, hs, rfl⟩
theorem fr_down {fs : List Addr} (T : KtsTurn fs g g') (F : Fr g' L h m) : Fr (hideAll g fs) L h m :=
  ⟨F.ns, fun b o e => F.keep b o (T.other b o (of_hideAll _ e) fun hm => by rw [hideAll_none _ hm] at e; cases e), by rw [hideAll_size, ← T.size]; exact F.above⟩
theorem news_down {fs : List Addr} (T : KtsTurn fs g g') (N : News g' L h l) : News (hideAll g fs) L h l := fun p hp => by
  obtain ⟨n1, n2, n3⟩ := N p hp
  refine ⟨n1, n2, ?_⟩
  cases q : (hideAll g fs).get? p.1 with
  | none => rfl
  | some o =>
    obtain ⟨sl, hs⟩ := T.up (of_hideAll _ q)
    rw [n3] at hs; cases hs
theorem news_up {fs : List Addr} {r : List (Addr × Obj)} (T : KtsTurn fs g g') (N : News (hideAll g fs) L h (r ++ l)) (ok : FrOk fs g l) (hr : ∀ p ∈ r, ∃ vs, p.2.data = .fields vs) : News g' L h r := fun p hp => by
  obtain ⟨n1, n2, n3⟩ := N p (List.mem_append_left _ hp)
  refine ⟨n1, n2, T.none_ _ ?_⟩
  cases q : g.get? p.1 with
  | none => rfl
  | some o =>
    by_cases hm : p.1 ∈ fs
    · obtain ⟨o', sl, h1, h2, h3⟩ := ok _ hm
      have e := (N _ (List.mem_append_right _ h3)).1
      rw [n1] at e
      obtain ⟨vs, hv⟩ := hr p hp
      have : p.2 = { o' with slots := sl } := Option.some.inj e
      rw [this] at hv
      exact absurd hv (h2 vs)
    · rw [hideAll_get _ q hm] at n3; cases n3
theorem frames_all (K : Below A base outer g) (F : Fr g L h m) : ∃ l, FrOk (outer.filterMap (·.frame)) g l ∧ News (hideAll g (outer.filterMap (·.frame))) L h l ∧ (∀ p ∈ l, ∀ vs, p.2.data ≠ .fields vs) ∧ Fr (hideAll g (outer.filterMap (·.frame))) L h m := by
  obtain ⟨l, a, b, c⟩ := frames_list K KtsTurn.refl F
  exact ⟨l, a, b, c, fr_down KtsTurn.refl F⟩
end
/-- how a turn ends whose ground may have turned -/
def TurnPost (P : (Str → Option Value) → Prop) (Q : Flow → Shared → Prop) (fs : List Addr) (g : Heap) (L : Addr) (s : Shared) (I : Addr) (it : Obj) (fl : Flow) (s' : Shared) : Prop := match fl with
  | .ret v => Q (.ret v) s'
  | .brk => Q .next s'
  | _ => ∃ h' tk' g2 m', s' = { s with heap := h', toks := tk' } ∧ KtsTurn fs g g2 ∧ Fr g2 L h' m' ∧ News g2 L h' [(I, it)] ∧ P m'
section
variable {prog : Program} {w : World} {A A₀ : Around} {E : Value → Shared → Prop} {s : Shared} {env : Env} {base g : Heap} {outer : List Env} {x : Str} {body : List Stmt} {Q : Flow → Shared → Prop} {I : Addr} {a : Int} {n : Nat}
theorem range_turns (K : Below A₀ base outer g) (P : (Str → Option Value) → Prop)
    (turn : ∀ i, i < n → ∀ t' h tk m g1, KtsTurn (outer.filterMap (·.frame)) g g1 → Below A₀ base outer g1 → P m → Fr g1 env.locals h (fun y => if y = x then some (.int (a + (i : Int)) t') else m y) →
      News g1 env.locals h [(I, itR (a + ((i + 1 : Nat) : Int)) ((n : Int) - ((i + 1 : Nat) : Int)))] →
      wpAny (model prog w) A (execs body env) (TurnPost P Q (outer.filterMap (·.frame)) g env.locals { s with heap := h, toks := tk } I (itR (a + ((i + 1 : Nat) : Int)) ((n : Int) - ((i + 1 : Nat) : Int)))) E { s with heap := h, toks := tk })
    (done : ∀ h tk m g1, KtsTurn (outer.filterMap (·.frame)) g g1 → Below A₀ base outer g1 → P m → Fr g1 env.locals h m → Q .next { s with heap := h, toks := tk }) :
    ∀ k i m l, i + k = n → FrOk (outer.filterMap (·.frame)) g l → (∀ p ∈ l, ∀ vs, p.2.data ≠ .fields vs) → P m → RangeRest prog w A E (hideAll g (outer.filterMap (·.frame))) env x body Q s I a n k i m l := by
  intro k
  induction k with
  | zero =>
    intro i m l hi ok kD hm
    refine RangeRest.zero fun h tk F N => ?_
    obtain ⟨g1, T, F1, B1⟩ := ground_back K F N ok
    exact done h tk m g1 T B1 hm F1
  | succ k ih =>
    intro i m l hi ok kD hm
    refine RangeRest.succ fun t h tk F N => ?_
    obtain ⟨g1, T, F1, B1⟩ := ground_back K F (fun p hp => N p (.tail _ hp)) ok
    have N1 := news_up (r := [(I, itR (a + ((i + 1 : Nat) : Int)) ((n : Int) - ((i + 1 : Nat) : Int)))]) T N ok (fun p hp => by rw [List.mem_singleton.mp hp]; exact ⟨_, rfl⟩)
    refine wpAny_mono (turn i (by omega) t h tk m g1 T B1 hm F1 N1) (fun fl s' z => ?_) fun _ _ z => z
    have fin : (∃ h' tk' g2 m', s' = { s with heap := h', toks := tk' } ∧ KtsTurn (outer.filterMap (·.frame)) g g2 ∧ Fr g2 env.locals h' m' ∧ News g2 env.locals h' [(I, itR (a + ((i + 1 : Nat) : Int)) ((n : Int) - ((i + 1 : Nat) : Int)))] ∧ P m') →
        UnrEnd (hideAll g (outer.filterMap (·.frame))) env.locals { s with heap := h, toks := tk } I (itR (a + ((i + 1 : Nat) : Int)) ((n : Int) - ((i + 1 : Nat) : Int))) (RangeRest prog w A E (hideAll g (outer.filterMap (·.frame))) env x body Q s I a n k (i + 1)) s' := by
      rintro ⟨h', tk', g2, m', rfl, T2, F2, N2, hm'⟩
      obtain ⟨l', ok', Nl, kD'⟩ := frames_list K T2 F2
      have Nd := news_down T2 N2
      refine ⟨h', tk', m', l', rfl, fr_down T2 F2, fun p hp => ?_, fun p hp e => ?_, ih (i + 1) m' l' (by omega) ok' kD' hm'⟩
      · rcases List.mem_cons.mp hp with rfl | hp
        · exact Nd _ (.head _)
        · exact Nl p hp
      · have h1 := (Nl p hp).1
        have h2 := (Nd _ (.head _)).1
        rw [e, h2] at h1
        have := Option.some.inj h1
        exact kD' p hp _ (by rw [← this]; rfl)
    cases fl with
    | ret v => exact z
    | brk => exact z
    | next => exact fin z
    | cont => exact fin z
end


theorem off_fails : True := by w_top off; exact trivial
/-- a claim about a call that answers True, whatever it leaves -/
def ClT (w : World) (mean : ExcName → Option Value) (mg mb : Str → Option Value) (n : Nat) (f : Addr) (vs : List Value) (pre : Heap → Prop) : Prop :=
  ∀ (dp un : Nat) (gd : Option (List Code)) (cn : Str) (cs : Scope) (a : Addr) (ccd : Value) (cl : List (Str × Addr)) (outer : List Env) (A₀ : Around) (base h₀ : Heap) (L : Addr) (m : Str → Option Value) (s : Shared) (Q E : Value → Shared → Prop),
    Below A₀ base outer h₀ → Fr h₀ L s.heap m → (kf w.params).In h₀ → Top vw lz mean mg mb h₀ → cs.kind = .function → (kf w.params).In base → Top vw lz mean mg mb base →
    dp + n < recursionLimit → un + 8 * n < cLine → pre s.heap → (∀ h' tk', base.StaysIn h' → Q (.bool true) { s with heap := h', toks := tk' }) → wpAny (model pg w) (ktrTop dp un gd cn cs L a ccd cl outer) (call (.ref f) vs) Q E s
section
variable {w : World} {mean : ExcName → Option Value} {mg mb : Str → Option Value} {n : Nat} {f : Addr} {vs : List Value} {pre : Heap → Prop}
  {name qual : Str} {params : Arguments} {body : List Stmt} {scope : Scope} {dV kV doc pm cdv ct oc : Value} {an od : Option Addr} {osl : Array (Option Value)} {binds : List (Str × Value)}
def TrueEnd (base : Heap) (s : Shared) (fl : Flow) (s' : Shared) : Prop := (match fl with | .ret v => v | _ => .none) = Value.bool true ∧ ∃ h' tk', s' = { s with heap := h', toks := tk' } ∧ base.StaysIn h'
theorem ClT.enter (ho : (kf w.params).lookup f = some ⟨oc, od, .func (fnOf name qual params body scope dV kV doc pm an cdv ct), osl⟩) (hcd : codeIn (kf w.params) cdv qual = true) (h1 : 0 < n)
    (hbind : bindArgs (fnOf name qual params body scope dV kV doc pm an cdv ct) ⟨vs, []⟩ = pure binds) (hloc : ∀ y ∈ binds, scope.names.lookup y.1 = some .local)
    (h : ∀ (dp un : Nat) (gd : Option (List Code)) (cn : Str) (cs : Scope) (L a : Addr) (ccd : Value) (cl : List (Str × Addr)) (outer : List Env) (base : Heap) (s : Shared) (g : Heap) (L' : Addr) (h₁ : Heap) (tk : Nat) (E : Value → Shared → Prop),
      Fr g L' h₁ (fun y => binds.reverse.lookup y) → News g L' h₁ [] → Below (ktrTop dp un gd cn cs L a ccd cl outer) base (envX cn cs L a ccd cl :: outer) g → (kf w.params).In g → Top vw lz mean mg mb g → GSub s.heap g [] → (kf w.params).In base → Top vw lz mean mg mb base →
      dp + n < recursionLimit → un + 8 * n < cLine → pre s.heap →
      wpAny (model pg w) ((ktrTop dp un gd cn cs L a ccd cl outer).deeper (envOf qual scope L' f cdv)) (execs body (envOf qual scope L' f cdv))
        (fun fl s' => TrueEnd base s fl s')
        (fun e s' => wpAny (model pg w) ((ktrTop dp un gd cn cs L a ccd cl outer).deeper (envOf qual scope L' f cdv)) (leaving (envOf qual scope L' f cdv) e) (fun _ s'' => E e s'') (fun e' s'' => E e' s'') s') { s with heap := h₁, toks := tk })
    (hco : scope.isCoroutine = false) (hgen : scope.isGenerator = false) (hk : scope.kind = .function) (hcell : ∀ x ∈ scope.names, x.2 ≠ .cell) : ClT w mean mg mb n f vs pre := by
  intro dp un gd cn cs a ccd cl outer A₀ base h₀ L m s Q E B F X T hks XB TB hd hu hp hret
  refine wpAny_call ?_
  obtain ⟨FG, BG, st, lv⟩ := groundX (A := ktrTop dp un gd cn cs L a ccd cl outer) (R := fun r s' => match r with | .ok (.ret v) => Q v s' | .ok _ => False | .error e => E e s') B F (news := []) (fun _ h => nomatch h) (env := envX cn cs L a ccd cl) rfl rfl hks
  refine codeAny_call_def (fd := fnX name qual params body scope [] dV kV doc pm an cdv ct) (body := body) (binds := binds) (by show dp < recursionLimit; omega) ((X.keeps F.keep) _ _ ho) rfl (T.nolimit.keeps F.keep) (codeRec_of (X.keeps F.keep) hcd) rfl (BindsTo.of_eq hbind) hcell hloc (fun h₁ hns hk₁ => ?_) hco hgen hk
  refine wpAny_mono (h dp un gd cn cs L a ccd cl outer base s _ s.heap.objs.size h₁ _ _ ⟨hns, fun b o e => hk₁ b o (of_hideAll _ e), Nat.le_of_eq (hideAll_size _ _)⟩
    (fun _ h => nomatch h) BG (X.keeps st) (T.keeps st) (fun b o e n => hideAll_get _ e n) XB TB hd hu hp)
    (fun fl s' he => ?_) fun _ _ y => y
  obtain ⟨he, h', tk', rfl, hb⟩ := he
  have z := hret h' tk' hb
  rw [← he] at z
  exact z
end
theorem two_ne {h₀ h : Heap} {L : Addr} {news : List (Addr × Obj)} {a b : Addr} {o1 o2 : Obj} (N : News h₀ L h news) (h1 : (a, o1) ∈ news) (h2 : (b, o2) ∈ news) (hc : o1.cls ≠ o2.cls) : a ≠ b := by
  rintro rfl
  have e1 := (N _ h1).1
  have e2 := (N _ h2).1
  rw [e1] at e2
  exact hc (congrArg Obj.cls (Option.some.inj e2))
theorem trep_raise_use {w : World} {mean : ExcName → Option Value} {mg mb : Str → Option Value}
    {dp un : Nat} {gd : Option (List Code)} {cn : Str} {cs : Scope} {a : Addr} {ccd : Value} {cl : List (Str × Addr)} {outer : List Env} {A₀ : Around} {base h₀ : Heap} {L : Addr} {m : Str → Option Value} {s : Shared} {Q E : Value → Shared → Prop} {news old : List (Addr × Obj)}
    {wv v0 v1 v2 : Value} {l v d : Addr} {es : List DictEntry} {n k : Nat}
    (B : Below A₀ base outer h₀) (F : Fr h₀ L s.heap m) (X : (kf w.params).In h₀) (N : News h₀ L s.heap news) (T : Top vw lz mean mg mb h₀) (hk : cs.kind = .function)
    (ml : (l, W.listOf [v0, v1, v2].toArray k) ∈ news) (mv : (v, instObj 68 d) ∈ news) (md : (d, dictOf es n) ∈ news)
    (hv : (v0 = .ref v) ∨ (∃ x, v1 = .ref v ∧ TV v0 x ∧ x.length ≤ 64) ∨ (∃ x o, v2 = .ref v ∧ TV v0 x ∧ x.length ≤ 64 ∧ TV v1 o ∧ o.length ≤ 64))
    (hold₀ : ∀ p ∈ old, p ∈ news ∧ p.2.cls ≠ .ref 68 ∧ p.2.cls ≠ .type "dict")
    (hd : dp + 24 < recursionLimit) (hu : un + 8 * 24 < cLine)
    (ret : ∀ e d' es' nn t G h' tk', getL "number" es' = some (some (.int 1 t)) → Raised base G (envX cn cs L a ccd cl :: outer) e d' 34 [(d', dictOf es' nn)] h' → Fr h₀ L G m → News h₀ L G old → G.UpToSlots h' → E (.ref e) { s with heap := h', toks := tk' }) :
    wpAny (model pg w) (ktrTop dp un gd cn cs L a ccd cl outer) (call (.ref 168) [wv, .ref l]) Q E s := by
  have hl : s.heap.IsList l [v0, v1, v2].toArray := by
    refine ⟨_, (N _ ml).1, rfl, k, rfl⟩
  have h1 : l ≠ v := two_ne N ml mv (by simp)
  have h2 : l ≠ d := two_ne N ml md (by simp)
  have hold : ∀ p ∈ old, p ∈ news ∧ p.1 ≠ v ∧ p.1 ≠ d := fun p hp => ⟨(hold₀ p hp).1, two_ne N (hold₀ p hp).1 mv (hold₀ p hp).2.1, two_ne N (hold₀ p hp).1 md (hold₀ p hp).2.2⟩
  have ho : ∀ p ∈ [(v, instObj 68 d), (d, dictOf es n)], p ∈ news := by
    intro p hp
    rcases List.mem_cons.mp hp with rfl | hp
    · exact mv
    · rw [List.mem_singleton.mp hp]; exact md
  have fin : ∀ e d' es' nn t h' tk', getL "number" es' = some (some (.int 1 t)) → Raised base (hideAll s.heap (([(v, instObj 68 d), (d, dictOf es n)] : List (Addr × Obj)).map (·.1))) (envX cn cs L a ccd cl :: outer) e d' 34 [(d', dictOf es' nn)] h' → Fr h₀ L (hideAll s.heap (([(v, instObj 68 d), (d, dictOf es n)] : List (Addr × Obj)).map (·.1))) m → (hideAll s.heap (([(v, instObj 68 d), (d, dictOf es n)] : List (Addr × Obj)).map (·.1))).UpToSlots h' → E (.ref e) { s with heap := h', toks := tk' } := fun e d' es' nn t h' tk' a1 a2 a3 a4 =>
    ret e d' es' nn t _ h' tk' a1 a2 a3 (fun p hp => ⟨hideAll_get _ (N p (hold p hp).1).1 (by simpa using (hold p hp).2), (N p (hold p hp).1).2⟩) a4
  rcases hv with rfl | ⟨x, rfl, t0, hx⟩ | ⟨x, o, rfl, t0, hx, t1, ho1⟩
  · exact ClR.use B F X N T hk (trep_raise0 w mean mg mb wv v1 v2 l v d es n) ho hd hu ⟨hl, h1, h2⟩ fin
  · exact ClR.use B F X N T hk (trep_raise1 w mean mg mb wv v0 v2 l v d es n x t0 hx) ho hd hu ⟨hl, h1, h2⟩ fin
  · exact ClR.use B F X N T hk (trep_raise2 w mean mg mb wv v0 v1 l v d es n x o t0 t1 hx ho1) ho hd hu ⟨hl, h1, h2⟩ fin
def Marker : Prop := True
def Mark2 : Prop := True
theorem news_nil {h₀ h : Heap} {L : Addr} {m : Str → Option Value} (_F : Fr h₀ L h m) : News h₀ L h [] := fun _ h => nomatch h
theorem TV.lit {x : Str} {l : List Nat} (h : x = S l) (t : Tok) : TV (.str x t) l := h ▸ TV.str l t

/-- what the second loop keeps of the names -/
def Held (x o n : List Nat) (t t1 t2 : Tok) (wv : Value) (m : Str → Option Value) : Prop := m "text" = some (.str (S x) t) ∧ m "olds" = some (.str (S o) t1) ∧ m "news" = some (.str (S n) t2) ∧ m "world" = some wv
theorem four {m : Str → Option Value} {a b c d : Value} (h1 : m "text" = some a) (h2 : m "olds" = some b) (h3 : m "news" = some c) (h4 : m "world" = some d) :
    m = fun (y : Str) => if y = "text" then some a else if y = "olds" then some b else if y = "news" then some c else if y = "world" then some d else m y := by
  funext y
  split
  · rename_i h; rw [h, h1]
  · split
    · rename_i h; rw [h, h2]
    · split
      · rename_i h; rw [h, h3]
      · split
        · rename_i h; rw [h, h4]
        · rfl
section
local macro_rules | `(tactic| walk_at "exec For Name Call cons nil") => `(tactic| (k_here; rename Marker => mk9; refine stop ?_))
local macro_rules | `(tactic| walk_at "pyIter ref") => `(tactic| (rename Mark2 => mk9; refine stop ?_))
local macro_rules | `(tactic| walk_at "call ref") => `(tactic| (k_here; (with_reducible show wpAny _ _ (call (Value.ref 168) _) _ _ _); rename Mark2 => mk9; refine stop ?_))
local macro_rules | `(tactic| walk_at "TurnPost") => `(tactic| (refine stop ?_))
set_option maxHeartbeats 4000000 in
theorem fails_cl (w : World) (mean mg mb) (wv : Value) (x o n : List Nat) (t t1 t2 : Tok) (hx : x.length ≤ 8) (ho : o.length ≤ 8) (hne : o ≠ []) (hon : o.length = n.length) :
    ClT w mean mg mb 40 277 [wv, .str (S x) t, .str (S o) t1, .str (S n) t2] (fun _ => True) := by
  have ho1 : 1 ≤ o.length := List.length_pos_iff.mpr hne
  k_dflt ((refine here_in ?_; k_fill; intro _; refine Mine.ClT.enter (by k_is) (by k_is) (by decide) (by w_strict (exact rfl)) (by w_strict (exact locs rfl)) ?_ (by w_strict (exact rfl)) (by w_strict (exact rfl)) (by w_strict (exact rfl)) (by decide); (intro z9dp z9un z9gd z9cn z9cs z9L z9a z9ccd z9cl z9outer z9base z9s z9g z9L' z9h₁ z9tk z9E z9F' z9N' z9B' z9X' z9T' z9G z9XB z9TB z9hd z9hu z9hp); (try dsimp only)))
  with_reducible (rename Frag.In _ _ => XB; rename Top _ _ _ _ _ _ => TB)
  have mk : Marker := trivial
  (repeat' (first | (k_unfold; (try dsimp only)) | (k_end; wrow_close) | ((with_reducible show wpAny _ _ (execs (_ :: _) _) _ _ ⟨_, _, _, _ + _, _⟩); refine absTok ?_; intro tk) | (with_reducible first | ((with_reducible show wpAny _ _ (call (Value.ref _) _) _ _ _); (k_here; k_dflt (refine Mine.Cl.use2 (by k_asm) (by k_asm) (by k_asm) (by k_asm) (by k_asm) (by w_strict (first | exact rfl | assumption)) (by k_room) (by k_units) (by is_list) (trep_fail _ _ _ _ _ _ _ _ _ _ _ _ (by w_strict (exact TV.lit (by kopn_code) _)) (by w_strict (exact TV.lit (by kopn_code) _)) (by w_strict (exact TV.lit (by kopn_code) _)) (by w_strict (omega)) (by w_strict (first | omega | (simp only [List.length_append, List.length_cons, List.length_nil]; omega))) (by w_strict (first | omega | (simp only [List.length_nil]; omega))) (by w_strict (first | exact .inl rfl | (refine .inr ?_; simp only [List.length_append, List.length_cons, List.length_nil]; omega)))) ?_; intro v9 own9 h9 tk9 R9 F9 N9 M9 keep9; obtain ⟨f9, d9, es9, nn9, e9, e9'⟩ := R9; subst e9; subst e9'; (have N8 := news_two N9 M9); clear N9 M9; (try k_sweep); (try dsimp only)))) | (k_here; (with_reducible show wpAny _ _ (call (Value.builtin "isinstance") [Value.ref _, Value.ref 47]) _ _ _); k_dflt (refine isF_yes (by k_asm) (by k_asm) (by k_asm) (by k_mem) (by k_mem) (by k_is) ?_)) | (k_here; (with_reducible show wpAny _ _ (binaryOp Operator.Add (Value.str _ _) (Value.str _ _)) _ _ _); (refine add_S (by kopn_code) (by kopn_code) (by w_strict (((try simp only [rep_len, List.length_append, List.length_cons, List.length_nil, List.length_drop, List.length_take]); omega))) ?_; intro _ _))) | walk1 | (dsimp only; first | (with_reducible first | ((with_reducible show wpAny _ _ (call (Value.ref _) _) _ _ _); (k_here; k_dflt (refine Mine.Cl.use2 (by k_asm) (by k_asm) (by k_asm) (by k_asm) (by k_asm) (by w_strict (first | exact rfl | assumption)) (by k_room) (by k_units) (by is_list) (trep_fail _ _ _ _ _ _ _ _ _ _ _ _ (by w_strict (exact TV.lit (by kopn_code) _)) (by w_strict (exact TV.lit (by kopn_code) _)) (by w_strict (exact TV.lit (by kopn_code) _)) (by w_strict (omega)) (by w_strict (first | omega | (simp only [List.length_append, List.length_cons, List.length_nil]; omega))) (by w_strict (first | omega | (simp only [List.length_nil]; omega))) (by w_strict (first | exact .inl rfl | (refine .inr ?_; simp only [List.length_append, List.length_cons, List.length_nil]; omega)))) ?_; intro v9 own9 h9 tk9 R9 F9 N9 M9 keep9; obtain ⟨f9, d9, es9, nn9, e9, e9'⟩ := R9; subst e9; subst e9'; (have N8 := news_two N9 M9); clear N9 M9; (try k_sweep); (try dsimp only)))) | (k_here; (with_reducible show wpAny _ _ (call (Value.builtin "isinstance") [Value.ref _, Value.ref 47]) _ _ _); k_dflt (refine isF_yes (by k_asm) (by k_asm) (by k_asm) (by k_mem) (by k_mem) (by k_is) ?_)) | (k_here; (with_reducible show wpAny _ _ (binaryOp Operator.Add (Value.str _ _) (Value.str _ _)) _ _ _); (refine add_S (by kopn_code) (by kopn_code) (by w_strict (((try simp only [rep_len, List.length_append, List.length_cons, List.length_nil, List.length_drop, List.length_take]); omega))) ?_; intro _ _))) | walk1) | (leave1; walk_say "STEP leave1"; try dsimp only) | fail "no step"))
  with_reducible (rename Fr _ _ _ _ => kF; revert kF)
  (repeat (with_reducible (rename Fr _ _ _ _ => zz); clear zz))
  (repeat (with_reducible (rename News _ _ _ _ => zz); clear zz))
  (repeat (with_reducible (rename ∀ (b : Addr) (o : Obj), _ → _ => zz); clear zz))
  intro kF
  with_reducible (rename Marker => mk9; clear mk9)
  refine unstop ?_
  obtain ⟨l0, ok0, kN0, kD0, kF0⟩ := frames_all (by k_asm) kF
  refine For_invVF kF0 rfl rfl ?_
  clear kF0 kN0 kD0 ok0
  have kN := news_nil kF
  have mk2 : Mark2 := trivial
  (repeat' (first | (k_unfold; (try dsimp only)) | (k_end; wrow_close) | ((with_reducible show wpAny _ _ (execs (_ :: _) _) _ _ ⟨_, _, _, _ + _, _⟩); refine absTok ?_; intro tk) | (with_reducible first | ((with_reducible show wpAny _ _ (call (Value.ref _) _) _ _ _); (k_here; k_dflt (refine Mine.Cl.use2 (by k_asm) (by k_asm) (by k_asm) (by k_asm) (by k_asm) (by w_strict (first | exact rfl | assumption)) (by k_room) (by k_units) (by is_list) (trep_fail _ _ _ _ _ _ _ _ _ _ _ _ (by w_strict (exact TV.lit (by kopn_code) _)) (by w_strict (exact TV.lit (by kopn_code) _)) (by w_strict (exact TV.lit (by kopn_code) _)) (by w_strict (omega)) (by w_strict (first | omega | (simp only [List.length_append, List.length_cons, List.length_nil]; omega))) (by w_strict (first | omega | (simp only [List.length_nil]; omega))) (by w_strict (first | exact .inl rfl | (refine .inr ?_; simp only [List.length_append, List.length_cons, List.length_nil]; omega)))) ?_; intro v9 own9 h9 tk9 R9 F9 N9 M9 keep9; obtain ⟨f9, d9, es9, nn9, e9, e9'⟩ := R9; subst e9; subst e9'; (have N8 := news_two N9 M9); clear N9 M9; (try k_sweep); (try dsimp only)))) | (k_here; (with_reducible show wpAny _ _ (call (Value.builtin "isinstance") [Value.ref _, Value.ref 47]) _ _ _); k_dflt (refine isF_yes (by k_asm) (by k_asm) (by k_asm) (by k_mem) (by k_mem) (by k_is) ?_)) | (k_here; (with_reducible show wpAny _ _ (binaryOp Operator.Add (Value.str _ _) (Value.str _ _)) _ _ _); (refine add_S (by kopn_code) (by kopn_code) (by w_strict (((try simp only [rep_len, List.length_append, List.length_cons, List.length_nil, List.length_drop, List.length_take]); omega))) ?_; intro _ _))) | walk1 | (dsimp only; first | (with_reducible first | ((with_reducible show wpAny _ _ (call (Value.ref _) _) _ _ _); (k_here; k_dflt (refine Mine.Cl.use2 (by k_asm) (by k_asm) (by k_asm) (by k_asm) (by k_asm) (by w_strict (first | exact rfl | assumption)) (by k_room) (by k_units) (by is_list) (trep_fail _ _ _ _ _ _ _ _ _ _ _ _ (by w_strict (exact TV.lit (by kopn_code) _)) (by w_strict (exact TV.lit (by kopn_code) _)) (by w_strict (exact TV.lit (by kopn_code) _)) (by w_strict (omega)) (by w_strict (first | omega | (simp only [List.length_append, List.length_cons, List.length_nil]; omega))) (by w_strict (first | omega | (simp only [List.length_nil]; omega))) (by w_strict (first | exact .inl rfl | (refine .inr ?_; simp only [List.length_append, List.length_cons, List.length_nil]; omega)))) ?_; intro v9 own9 h9 tk9 R9 F9 N9 M9 keep9; obtain ⟨f9, d9, es9, nn9, e9, e9'⟩ := R9; subst e9; subst e9'; (have N8 := news_two N9 M9); clear N9 M9; (try k_sweep); (try dsimp only)))) | (k_here; (with_reducible show wpAny _ _ (call (Value.builtin "isinstance") [Value.ref _, Value.ref 47]) _ _ _); k_dflt (refine isF_yes (by k_asm) (by k_asm) (by k_asm) (by k_mem) (by k_mem) (by k_is) ?_)) | (k_here; (with_reducible show wpAny _ _ (binaryOp Operator.Add (Value.str _ _) (Value.str _ _)) _ _ _); (refine add_S (by kopn_code) (by kopn_code) (by w_strict (((try simp only [rep_len, List.length_append, List.length_cons, List.length_nil, List.length_drop, List.length_take]); omega))) ?_; intro _ _))) | walk1) | (leave1; walk_say "STEP leave1"; try dsimp only) | fail "no step"))
  refine unstop ?_
  with_reducible (rename IsRange _ _ _ _ _ _ _ _ => R9; rename Fr _ _ _ _ => kF3)
  with_reducible (rename Mark2 => mk9; clear mk9)
  obtain ⟨l, ok, kN3, kD, kF4⟩ := frames_all (by k_asm) kF3
  refine iter_rangeUnr (n := 3) rfl R9 (by decide) (by decide) kF4 kN3 (fun I hI => ?_)
  refine range_turns (by k_asm) (Held x o n t t1 t2 wv) (fun i hi t9 h9 tk9 m9 g9 T9 B9 P9 F9 N9 => ?_) (fun h9 tk9 m9 g9 T9 B9 P9 F9 => ?_) 3 0 _ l rfl ok kD ⟨by exact rfl, by exact rfl, by exact rfl, by exact rfl⟩
  · have X9 := XB.keeps B9.stays
    have Q9 := TB.keeps B9.stays
    obtain ⟨f1, f2, f3, f4⟩ := P9
    rw [four f1 f2 f3 f4] at F9
    obtain rfl | rfl | rfl : i = 0 ∨ i = 1 ∨ i = 2 := by omega
    · have mk3 : Mark2 := trivial
      (repeat' (first | (k_unfold; (try dsimp only)) | (k_end; wrow_close) | ((with_reducible show wpAny _ _ (execs (_ :: _) _) _ _ ⟨_, _, _, _ + _, _⟩); refine absTok ?_; intro tk) | (with_reducible first | ((with_reducible show wpAny _ _ (call (Value.ref _) _) _ _ _); (k_here; k_dflt (refine Mine.Cl.use2 (by k_asm) (by k_asm) (by k_asm) (by k_asm) (by k_asm) (by w_strict (first | exact rfl | assumption)) (by k_room) (by k_units) (by is_list) (trep_fail _ _ _ _ _ _ _ _ _ _ _ _ (by w_strict (exact TV.lit (by kopn_code) _)) (by w_strict (exact TV.lit (by kopn_code) _)) (by w_strict (exact TV.lit (by kopn_code) _)) (by w_strict (omega)) (by w_strict (first | omega | (simp only [List.length_append, List.length_cons, List.length_nil]; omega))) (by w_strict (first | omega | (simp only [List.length_nil]; omega))) (by w_strict (first | exact .inl rfl | (refine .inr ?_; simp only [List.length_append, List.length_cons, List.length_nil]; omega)))) ?_; intro v9 own9 h9 tk9 R9 F9 N9 M9 keep9; obtain ⟨f9, d9, es9, nn9, e9, e9'⟩ := R9; subst e9; subst e9'; (have N8 := news_two N9 M9); clear N9 M9; (try k_sweep); (try dsimp only)))) | (k_here; (with_reducible show wpAny _ _ (call (Value.builtin "isinstance") [Value.ref _, Value.ref 47]) _ _ _); k_dflt (refine isF_yes (by k_asm) (by k_asm) (by k_asm) (by k_mem) (by k_mem) (by k_is) ?_)) | (k_here; (with_reducible show wpAny _ _ (binaryOp Operator.Add (Value.str _ _) (Value.str _ _)) _ _ _); (refine add_S (by kopn_code) (by kopn_code) (by w_strict (((try simp only [rep_len, List.length_append, List.length_cons, List.length_nil, List.length_drop, List.length_take]); omega))) ?_; intro _ _))) | walk1 | (dsimp only; first | (with_reducible first | ((with_reducible show wpAny _ _ (call (Value.ref _) _) _ _ _); (k_here; k_dflt (refine Mine.Cl.use2 (by k_asm) (by k_asm) (by k_asm) (by k_asm) (by k_asm) (by w_strict (first | exact rfl | assumption)) (by k_room) (by k_units) (by is_list) (trep_fail _ _ _ _ _ _ _ _ _ _ _ _ (by w_strict (exact TV.lit (by kopn_code) _)) (by w_strict (exact TV.lit (by kopn_code) _)) (by w_strict (exact TV.lit (by kopn_code) _)) (by w_strict (omega)) (by w_strict (first | omega | (simp only [List.length_append, List.length_cons, List.length_nil]; omega))) (by w_strict (first | omega | (simp only [List.length_nil]; omega))) (by w_strict (first | exact .inl rfl | (refine .inr ?_; simp only [List.length_append, List.length_cons, List.length_nil]; omega)))) ?_; intro v9 own9 h9 tk9 R9 F9 N9 M9 keep9; obtain ⟨f9, d9, es9, nn9, e9, e9'⟩ := R9; subst e9; subst e9'; (have N8 := news_two N9 M9); clear N9 M9; (try k_sweep); (try dsimp only)))) | (k_here; (with_reducible show wpAny _ _ (call (Value.builtin "isinstance") [Value.ref _, Value.ref 47]) _ _ _); k_dflt (refine isF_yes (by k_asm) (by k_asm) (by k_asm) (by k_mem) (by k_mem) (by k_is) ?_)) | (k_here; (with_reducible show wpAny _ _ (binaryOp Operator.Add (Value.str _ _) (Value.str _ _)) _ _ _); (refine add_S (by kopn_code) (by kopn_code) (by w_strict (((try simp only [rep_len, List.length_append, List.length_cons, List.length_nil, List.length_drop, List.length_take]); omega))) ?_; intro _ _))) | walk1) | (leave1; walk_say "STEP leave1"; try dsimp only) | fail "no step"))
      refine unstop ?_
      with_reducible (rename Mark2 => mk9; clear mk9)
      (refine' trep_raise_use (old := [(I, _)]) ?B ?F ?X ?N ?T ?k ?ml ?mv ?md ?hv ?ho ?d ?u ?_; (case B => k_asm); (case F => k_asm); (case X => k_asm); (case N => k_asm); (case T => k_asm); (case k => exact rfl); (case ml => k_mem); (case hv => exact .inl rfl); (case mv => k_mem); (case md => k_mem); (case ho => (intro p hp; rw [List.mem_singleton.mp hp]; exact ⟨by k_mem, (by show Value.type "range_iterator" ≠ _; simp), (by show Value.type "range_iterator" ≠ _; simp)⟩)); (case d => k_room); (case u => k_units); intro e6 d6 es6 nn6 t6 G6 h6 tk6 hg6 R6 FG6 NG6 U6)
      (refine caught_as (by k_asm) FG6 U6 R6 XB TB (by k_is) (exc34 w) (by decide +kernel) NG6 (fun g5 h5 oe5 tk5 F5 B5 X5 P5 T5 N5 hc5 hd5 hn5 => ?_))
      (try dsimp only [List.cons_append, List.nil_append] at N5)
      (repeat' (first | (k_unfold; (try dsimp only)) | (k_end; wrow_close) | ((with_reducible show wpAny _ _ (execs (_ :: _) _) _ _ ⟨_, _, _, _ + _, _⟩); refine absTok ?_; intro tk) | (with_reducible first | ((with_reducible show wpAny _ _ (call (Value.ref _) _) _ _ _); (k_here; k_dflt (refine Mine.Cl.use2 (by k_asm) (by k_asm) (by k_asm) (by k_asm) (by k_asm) (by w_strict (first | exact rfl | assumption)) (by k_room) (by k_units) (by is_list) (trep_fail _ _ _ _ _ _ _ _ _ _ _ _ (by w_strict (exact TV.lit (by kopn_code) _)) (by w_strict (exact TV.lit (by kopn_code) _)) (by w_strict (exact TV.lit (by kopn_code) _)) (by w_strict (omega)) (by w_strict (first | omega | (simp only [List.length_append, List.length_cons, List.length_nil]; omega))) (by w_strict (first | omega | (simp only [List.length_nil]; omega))) (by w_strict (first | exact .inl rfl | (refine .inr ?_; simp only [List.length_append, List.length_cons, List.length_nil]; omega)))) ?_; intro v9 own9 h9 tk9 R9 F9 N9 M9 keep9; obtain ⟨f9, d9, es9, nn9, e9, e9'⟩ := R9; subst e9; subst e9'; (have N8 := news_two N9 M9); clear N9 M9; (try k_sweep); (try dsimp only)))) | (k_here; (with_reducible show wpAny _ _ (call (Value.builtin "isinstance") [Value.ref _, Value.ref 47]) _ _ _); k_dflt (refine isF_yes (by k_asm) (by k_asm) (by k_asm) (by k_mem) (by k_mem) (by k_is) ?_)) | (k_here; (with_reducible show wpAny _ _ (binaryOp Operator.Add (Value.str _ _) (Value.str _ _)) _ _ _); (refine add_S (by kopn_code) (by kopn_code) (by w_strict (((try simp only [rep_len, List.length_append, List.length_cons, List.length_nil, List.length_drop, List.length_take]); omega))) ?_; intro _ _))) | walk1 | (dsimp only; first | (with_reducible first | ((with_reducible show wpAny _ _ (call (Value.ref _) _) _ _ _); (k_here; k_dflt (refine Mine.Cl.use2 (by k_asm) (by k_asm) (by k_asm) (by k_asm) (by k_asm) (by w_strict (first | exact rfl | assumption)) (by k_room) (by k_units) (by is_list) (trep_fail _ _ _ _ _ _ _ _ _ _ _ _ (by w_strict (exact TV.lit (by kopn_code) _)) (by w_strict (exact TV.lit (by kopn_code) _)) (by w_strict (exact TV.lit (by kopn_code) _)) (by w_strict (omega)) (by w_strict (first | omega | (simp only [List.length_append, List.length_cons, List.length_nil]; omega))) (by w_strict (first | omega | (simp only [List.length_nil]; omega))) (by w_strict (first | exact .inl rfl | (refine .inr ?_; simp only [List.length_append, List.length_cons, List.length_nil]; omega)))) ?_; intro v9 own9 h9 tk9 R9 F9 N9 M9 keep9; obtain ⟨f9, d9, es9, nn9, e9, e9'⟩ := R9; subst e9; subst e9'; (have N8 := news_two N9 M9); clear N9 M9; (try k_sweep); (try dsimp only)))) | (k_here; (with_reducible show wpAny _ _ (call (Value.builtin "isinstance") [Value.ref _, Value.ref 47]) _ _ _); k_dflt (refine isF_yes (by k_asm) (by k_asm) (by k_asm) (by k_mem) (by k_mem) (by k_is) ?_)) | (k_here; (with_reducible show wpAny _ _ (binaryOp Operator.Add (Value.str _ _) (Value.str _ _)) _ _ _); (refine add_S (by kopn_code) (by kopn_code) (by w_strict (((try simp only [rep_len, List.length_append, List.length_cons, List.length_nil, List.length_drop, List.length_take]); omega))) ?_; intro _ _))) | walk1) | (leave1; walk_say "STEP leave1"; try dsimp only) | fail "no step"))
      (refine get_exc (C := 34) (ox := oe5) (es := es6) (n := nn6) (X5.keeps F5.keep) ⟨(N5 _ (.head _)).1, hc5, hn5, by rw [hd5]; exact (N5 _ (.tail _ (.head _))).1⟩ (cls34 w) (by decide +kernel) (find34g w) (find34h w) (dict34 w) (find34n w) hg6 rfl ?_)
      (repeat' (first | (k_unfold; (try dsimp only)) | (k_end; wrow_close) | ((with_reducible show wpAny _ _ (execs (_ :: _) _) _ _ ⟨_, _, _, _ + _, _⟩); refine absTok ?_; intro tk) | (with_reducible first | ((with_reducible show wpAny _ _ (call (Value.ref _) _) _ _ _); (k_here; k_dflt (refine Mine.Cl.use2 (by k_asm) (by k_asm) (by k_asm) (by k_asm) (by k_asm) (by w_strict (first | exact rfl | assumption)) (by k_room) (by k_units) (by is_list) (trep_fail _ _ _ _ _ _ _ _ _ _ _ _ (by w_strict (exact TV.lit (by kopn_code) _)) (by w_strict (exact TV.lit (by kopn_code) _)) (by w_strict (exact TV.lit (by kopn_code) _)) (by w_strict (omega)) (by w_strict (first | omega | (simp only [List.length_append, List.length_cons, List.length_nil]; omega))) (by w_strict (first | omega | (simp only [List.length_nil]; omega))) (by w_strict (first | exact .inl rfl | (refine .inr ?_; simp only [List.length_append, List.length_cons, List.length_nil]; omega)))) ?_; intro v9 own9 h9 tk9 R9 F9 N9 M9 keep9; obtain ⟨f9, d9, es9, nn9, e9, e9'⟩ := R9; subst e9; subst e9'; (have N8 := news_two N9 M9); clear N9 M9; (try k_sweep); (try dsimp only)))) | (k_here; (with_reducible show wpAny _ _ (call (Value.builtin "isinstance") [Value.ref _, Value.ref 47]) _ _ _); k_dflt (refine isF_yes (by k_asm) (by k_asm) (by k_asm) (by k_mem) (by k_mem) (by k_is) ?_)) | (k_here; (with_reducible show wpAny _ _ (binaryOp Operator.Add (Value.str _ _) (Value.str _ _)) _ _ _); (refine add_S (by kopn_code) (by kopn_code) (by w_strict (((try simp only [rep_len, List.length_append, List.length_cons, List.length_nil, List.length_drop, List.length_take]); omega))) ?_; intro _ _))) | walk1 | (dsimp only; first | (with_reducible first | ((with_reducible show wpAny _ _ (call (Value.ref _) _) _ _ _); (k_here; k_dflt (refine Mine.Cl.use2 (by k_asm) (by k_asm) (by k_asm) (by k_asm) (by k_asm) (by w_strict (first | exact rfl | assumption)) (by k_room) (by k_units) (by is_list) (trep_fail _ _ _ _ _ _ _ _ _ _ _ _ (by w_strict (exact TV.lit (by kopn_code) _)) (by w_strict (exact TV.lit (by kopn_code) _)) (by w_strict (exact TV.lit (by kopn_code) _)) (by w_strict (omega)) (by w_strict (first | omega | (simp only [List.length_append, List.length_cons, List.length_nil]; omega))) (by w_strict (first | omega | (simp only [List.length_nil]; omega))) (by w_strict (first | exact .inl rfl | (refine .inr ?_; simp only [List.length_append, List.length_cons, List.length_nil]; omega)))) ?_; intro v9 own9 h9 tk9 R9 F9 N9 M9 keep9; obtain ⟨f9, d9, es9, nn9, e9, e9'⟩ := R9; subst e9; subst e9'; (have N8 := news_two N9 M9); clear N9 M9; (try k_sweep); (try dsimp only)))) | (k_here; (with_reducible show wpAny _ _ (call (Value.builtin "isinstance") [Value.ref _, Value.ref 47]) _ _ _); k_dflt (refine isF_yes (by k_asm) (by k_asm) (by k_asm) (by k_mem) (by k_mem) (by k_is) ?_)) | (k_here; (with_reducible show wpAny _ _ (binaryOp Operator.Add (Value.str _ _) (Value.str _ _)) _ _ _); (refine add_S (by kopn_code) (by kopn_code) (by w_strict (((try simp only [rep_len, List.length_append, List.length_cons, List.length_nil, List.length_drop, List.length_take]); omega))) ?_; intro _ _))) | walk1) | (leave1; walk_say "STEP leave1"; try dsimp only) | fail "no step"))
      with_reducible (rename Fr _ _ _ _ => kF8; rename News _ _ _ _ => kN8)
      exact unstop ⟨_, _, _, _, rfl, T9.trans T5, kF8, (fun p hp => by rw [List.mem_singleton.mp hp]; exact kN8 _ (.tail _ (.tail _ (.head _)))), by exact rfl, by exact rfl, by exact rfl, by exact rfl⟩
    · have mk3 : Mark2 := trivial
      (repeat' (first | (k_unfold; (try dsimp only)) | (k_end; wrow_close) | ((with_reducible show wpAny _ _ (execs (_ :: _) _) _ _ ⟨_, _, _, _ + _, _⟩); refine absTok ?_; intro tk) | (with_reducible first | ((with_reducible show wpAny _ _ (call (Value.ref _) _) _ _ _); (k_here; k_dflt (refine Mine.Cl.use2 (by k_asm) (by k_asm) (by k_asm) (by k_asm) (by k_asm) (by w_strict (first | exact rfl | assumption)) (by k_room) (by k_units) (by is_list) (trep_fail _ _ _ _ _ _ _ _ _ _ _ _ (by w_strict (exact TV.lit (by kopn_code) _)) (by w_strict (exact TV.lit (by kopn_code) _)) (by w_strict (exact TV.lit (by kopn_code) _)) (by w_strict (omega)) (by w_strict (first | omega | (simp only [List.length_append, List.length_cons, List.length_nil]; omega))) (by w_strict (first | omega | (simp only [List.length_nil]; omega))) (by w_strict (first | exact .inl rfl | (refine .inr ?_; simp only [List.length_append, List.length_cons, List.length_nil]; omega)))) ?_; intro v9 own9 h9 tk9 R9 F9 N9 M9 keep9; obtain ⟨f9, d9, es9, nn9, e9, e9'⟩ := R9; subst e9; subst e9'; (have N8 := news_two N9 M9); clear N9 M9; (try k_sweep); (try dsimp only)))) | (k_here; (with_reducible show wpAny _ _ (call (Value.builtin "isinstance") [Value.ref _, Value.ref 47]) _ _ _); k_dflt (refine isF_yes (by k_asm) (by k_asm) (by k_asm) (by k_mem) (by k_mem) (by k_is) ?_)) | (k_here; (with_reducible show wpAny _ _ (binaryOp Operator.Add (Value.str _ _) (Value.str _ _)) _ _ _); (refine add_S (by kopn_code) (by kopn_code) (by w_strict (((try simp only [rep_len, List.length_append, List.length_cons, List.length_nil, List.length_drop, List.length_take]); omega))) ?_; intro _ _))) | walk1 | (dsimp only; first | (with_reducible first | ((with_reducible show wpAny _ _ (call (Value.ref _) _) _ _ _); (k_here; k_dflt (refine Mine.Cl.use2 (by k_asm) (by k_asm) (by k_asm) (by k_asm) (by k_asm) (by w_strict (first | exact rfl | assumption)) (by k_room) (by k_units) (by is_list) (trep_fail _ _ _ _ _ _ _ _ _ _ _ _ (by w_strict (exact TV.lit (by kopn_code) _)) (by w_strict (exact TV.lit (by kopn_code) _)) (by w_strict (exact TV.lit (by kopn_code) _)) (by w_strict (omega)) (by w_strict (first | omega | (simp only [List.length_append, List.length_cons, List.length_nil]; omega))) (by w_strict (first | omega | (simp only [List.length_nil]; omega))) (by w_strict (first | exact .inl rfl | (refine .inr ?_; simp only [List.length_append, List.length_cons, List.length_nil]; omega)))) ?_; intro v9 own9 h9 tk9 R9 F9 N9 M9 keep9; obtain ⟨f9, d9, es9, nn9, e9, e9'⟩ := R9; subst e9; subst e9'; (have N8 := news_two N9 M9); clear N9 M9; (try k_sweep); (try dsimp only)))) | (k_here; (with_reducible show wpAny _ _ (call (Value.builtin "isinstance") [Value.ref _, Value.ref 47]) _ _ _); k_dflt (refine isF_yes (by k_asm) (by k_asm) (by k_asm) (by k_mem) (by k_mem) (by k_is) ?_)) | (k_here; (with_reducible show wpAny _ _ (binaryOp Operator.Add (Value.str _ _) (Value.str _ _)) _ _ _); (refine add_S (by kopn_code) (by kopn_code) (by w_strict (((try simp only [rep_len, List.length_append, List.length_cons, List.length_nil, List.length_drop, List.length_take]); omega))) ?_; intro _ _))) | walk1) | (leave1; walk_say "STEP leave1"; try dsimp only) | fail "no step"))
      refine unstop ?_
      with_reducible (rename Mark2 => mk9; clear mk9)
      (refine' trep_raise_use (old := [(I, _)]) ?B ?F ?X ?N ?T ?k ?ml ?mv ?md ?hv ?ho ?d ?u ?_; (case B => k_asm); (case F => k_asm); (case X => k_asm); (case N => k_asm); (case T => k_asm); (case k => exact rfl); (case ml => k_mem); (case hv => exact .inr (.inl ⟨x, rfl, TV.str _ _, by omega⟩)); (case mv => k_mem); (case md => k_mem); (case ho => (intro p hp; rw [List.mem_singleton.mp hp]; exact ⟨by k_mem, (by show Value.type "range_iterator" ≠ _; simp), (by show Value.type "range_iterator" ≠ _; simp)⟩)); (case d => k_room); (case u => k_units); intro e6 d6 es6 nn6 t6 G6 h6 tk6 hg6 R6 FG6 NG6 U6)
      (refine caught_as (by k_asm) FG6 U6 R6 XB TB (by k_is) (exc34 w) (by decide +kernel) NG6 (fun g5 h5 oe5 tk5 F5 B5 X5 P5 T5 N5 hc5 hd5 hn5 => ?_))
      (try dsimp only [List.cons_append, List.nil_append] at N5)
      (repeat' (first | (k_unfold; (try dsimp only)) | (k_end; wrow_close) | ((with_reducible show wpAny _ _ (execs (_ :: _) _) _ _ ⟨_, _, _, _ + _, _⟩); refine absTok ?_; intro tk) | (with_reducible first | ((with_reducible show wpAny _ _ (call (Value.ref _) _) _ _ _); (k_here; k_dflt (refine Mine.Cl.use2 (by k_asm) (by k_asm) (by k_asm) (by k_asm) (by k_asm) (by w_strict (first | exact rfl | assumption)) (by k_room) (by k_units) (by is_list) (trep_fail _ _ _ _ _ _ _ _ _ _ _ _ (by w_strict (exact TV.lit (by kopn_code) _)) (by w_strict (exact TV.lit (by kopn_code) _)) (by w_strict (exact TV.lit (by kopn_code) _)) (by w_strict (omega)) (by w_strict (first | omega | (simp only [List.length_append, List.length_cons, List.length_nil]; omega))) (by w_strict (first | omega | (simp only [List.length_nil]; omega))) (by w_strict (first | exact .inl rfl | (refine .inr ?_; simp only [List.length_append, List.length_cons, List.length_nil]; omega)))) ?_; intro v9 own9 h9 tk9 R9 F9 N9 M9 keep9; obtain ⟨f9, d9, es9, nn9, e9, e9'⟩ := R9; subst e9; subst e9'; (have N8 := news_two N9 M9); clear N9 M9; (try k_sweep); (try dsimp only)))) | (k_here; (with_reducible show wpAny _ _ (call (Value.builtin "isinstance") [Value.ref _, Value.ref 47]) _ _ _); k_dflt (refine isF_yes (by k_asm) (by k_asm) (by k_asm) (by k_mem) (by k_mem) (by k_is) ?_)) | (k_here; (with_reducible show wpAny _ _ (binaryOp Operator.Add (Value.str _ _) (Value.str _ _)) _ _ _); (refine add_S (by kopn_code) (by kopn_code) (by w_strict (((try simp only [rep_len, List.length_append, List.length_cons, List.length_nil, List.length_drop, List.length_take]); omega))) ?_; intro _ _))) | walk1 | (dsimp only; first | (with_reducible first | ((with_reducible show wpAny _ _ (call (Value.ref _) _) _ _ _); (k_here; k_dflt (refine Mine.Cl.use2 (by k_asm) (by k_asm) (by k_asm) (by k_asm) (by k_asm) (by w_strict (first | exact rfl | assumption)) (by k_room) (by k_units) (by is_list) (trep_fail _ _ _ _ _ _ _ _ _ _ _ _ (by w_strict (exact TV.lit (by kopn_code) _)) (by w_strict (exact TV.lit (by kopn_code) _)) (by w_strict (exact TV.lit (by kopn_code) _)) (by w_strict (omega)) (by w_strict (first | omega | (simp only [List.length_append, List.length_cons, List.length_nil]; omega))) (by w_strict (first | omega | (simp only [List.length_nil]; omega))) (by w_strict (first | exact .inl rfl | (refine .inr ?_; simp only [List.length_append, List.length_cons, List.length_nil]; omega)))) ?_; intro v9 own9 h9 tk9 R9 F9 N9 M9 keep9; obtain ⟨f9, d9, es9, nn9, e9, e9'⟩ := R9; subst e9; subst e9'; (have N8 := news_two N9 M9); clear N9 M9; (try k_sweep); (try dsimp only)))) | (k_here; (with_reducible show wpAny _ _ (call (Value.builtin "isinstance") [Value.ref _, Value.ref 47]) _ _ _); k_dflt (refine isF_yes (by k_asm) (by k_asm) (by k_asm) (by k_mem) (by k_mem) (by k_is) ?_)) | (k_here; (with_reducible show wpAny _ _ (binaryOp Operator.Add (Value.str _ _) (Value.str _ _)) _ _ _); (refine add_S (by kopn_code) (by kopn_code) (by w_strict (((try simp only [rep_len, List.length_append, List.length_cons, List.length_nil, List.length_drop, List.length_take]); omega))) ?_; intro _ _))) | walk1) | (leave1; walk_say "STEP leave1"; try dsimp only) | fail "no step"))
      (refine get_exc (C := 34) (ox := oe5) (es := es6) (n := nn6) (X5.keeps F5.keep) ⟨(N5 _ (.head _)).1, hc5, hn5, by rw [hd5]; exact (N5 _ (.tail _ (.head _))).1⟩ (cls34 w) (by decide +kernel) (find34g w) (find34h w) (dict34 w) (find34n w) hg6 rfl ?_)
      (repeat' (first | (k_unfold; (try dsimp only)) | (k_end; wrow_close) | ((with_reducible show wpAny _ _ (execs (_ :: _) _) _ _ ⟨_, _, _, _ + _, _⟩); refine absTok ?_; intro tk) | (with_reducible first | ((with_reducible show wpAny _ _ (call (Value.ref _) _) _ _ _); (k_here; k_dflt (refine Mine.Cl.use2 (by k_asm) (by k_asm) (by k_asm) (by k_asm) (by k_asm) (by w_strict (first | exact rfl | assumption)) (by k_room) (by k_units) (by is_list) (trep_fail _ _ _ _ _ _ _ _ _ _ _ _ (by w_strict (exact TV.lit (by kopn_code) _)) (by w_strict (exact TV.lit (by kopn_code) _)) (by w_strict (exact TV.lit (by kopn_code) _)) (by w_strict (omega)) (by w_strict (first | omega | (simp only [List.length_append, List.length_cons, List.length_nil]; omega))) (by w_strict (first | omega | (simp only [List.length_nil]; omega))) (by w_strict (first | exact .inl rfl | (refine .inr ?_; simp only [List.length_append, List.length_cons, List.length_nil]; omega)))) ?_; intro v9 own9 h9 tk9 R9 F9 N9 M9 keep9; obtain ⟨f9, d9, es9, nn9, e9, e9'⟩ := R9; subst e9; subst e9'; (have N8 := news_two N9 M9); clear N9 M9; (try k_sweep); (try dsimp only)))) | (k_here; (with_reducible show wpAny _ _ (call (Value.builtin "isinstance") [Value.ref _, Value.ref 47]) _ _ _); k_dflt (refine isF_yes (by k_asm) (by k_asm) (by k_asm) (by k_mem) (by k_mem) (by k_is) ?_)) | (k_here; (with_reducible show wpAny _ _ (binaryOp Operator.Add (Value.str _ _) (Value.str _ _)) _ _ _); (refine add_S (by kopn_code) (by kopn_code) (by w_strict (((try simp only [rep_len, List.length_append, List.length_cons, List.length_nil, List.length_drop, List.length_take]); omega))) ?_; intro _ _))) | walk1 | (dsimp only; first | (with_reducible first | ((with_reducible show wpAny _ _ (call (Value.ref _) _) _ _ _); (k_here; k_dflt (refine Mine.Cl.use2 (by k_asm) (by k_asm) (by k_asm) (by k_asm) (by k_asm) (by w_strict (first | exact rfl | assumption)) (by k_room) (by k_units) (by is_list) (trep_fail _ _ _ _ _ _ _ _ _ _ _ _ (by w_strict (exact TV.lit (by kopn_code) _)) (by w_strict (exact TV.lit (by kopn_code) _)) (by w_strict (exact TV.lit (by kopn_code) _)) (by w_strict (omega)) (by w_strict (first | omega | (simp only [List.length_append, List.length_cons, List.length_nil]; omega))) (by w_strict (first | omega | (simp only [List.length_nil]; omega))) (by w_strict (first | exact .inl rfl | (refine .inr ?_; simp only [List.length_append, List.length_cons, List.length_nil]; omega)))) ?_; intro v9 own9 h9 tk9 R9 F9 N9 M9 keep9; obtain ⟨f9, d9, es9, nn9, e9, e9'⟩ := R9; subst e9; subst e9'; (have N8 := news_two N9 M9); clear N9 M9; (try k_sweep); (try dsimp only)))) | (k_here; (with_reducible show wpAny _ _ (call (Value.builtin "isinstance") [Value.ref _, Value.ref 47]) _ _ _); k_dflt (refine isF_yes (by k_asm) (by k_asm) (by k_asm) (by k_mem) (by k_mem) (by k_is) ?_)) | (k_here; (with_reducible show wpAny _ _ (binaryOp Operator.Add (Value.str _ _) (Value.str _ _)) _ _ _); (refine add_S (by kopn_code) (by kopn_code) (by w_strict (((try simp only [rep_len, List.length_append, List.length_cons, List.length_nil, List.length_drop, List.length_take]); omega))) ?_; intro _ _))) | walk1) | (leave1; walk_say "STEP leave1"; try dsimp only) | fail "no step"))
      with_reducible (rename Fr _ _ _ _ => kF8; rename News _ _ _ _ => kN8)
      exact unstop ⟨_, _, _, _, rfl, T9.trans T5, kF8, (fun p hp => by rw [List.mem_singleton.mp hp]; exact kN8 _ (.tail _ (.tail _ (.head _)))), by exact rfl, by exact rfl, by exact rfl, by exact rfl⟩
    · have mk3 : Mark2 := trivial
      (repeat' (first | (k_unfold; (try dsimp only)) | (k_end; wrow_close) | ((with_reducible show wpAny _ _ (execs (_ :: _) _) _ _ ⟨_, _, _, _ + _, _⟩); refine absTok ?_; intro tk) | (with_reducible first | ((with_reducible show wpAny _ _ (call (Value.ref _) _) _ _ _); (k_here; k_dflt (refine Mine.Cl.use2 (by k_asm) (by k_asm) (by k_asm) (by k_asm) (by k_asm) (by w_strict (first | exact rfl | assumption)) (by k_room) (by k_units) (by is_list) (trep_fail _ _ _ _ _ _ _ _ _ _ _ _ (by w_strict (exact TV.lit (by kopn_code) _)) (by w_strict (exact TV.lit (by kopn_code) _)) (by w_strict (exact TV.lit (by kopn_code) _)) (by w_strict (omega)) (by w_strict (first | omega | (simp only [List.length_append, List.length_cons, List.length_nil]; omega))) (by w_strict (first | omega | (simp only [List.length_nil]; omega))) (by w_strict (first | exact .inl rfl | (refine .inr ?_; simp only [List.length_append, List.length_cons, List.length_nil]; omega)))) ?_; intro v9 own9 h9 tk9 R9 F9 N9 M9 keep9; obtain ⟨f9, d9, es9, nn9, e9, e9'⟩ := R9; subst e9; subst e9'; (have N8 := news_two N9 M9); clear N9 M9; (try k_sweep); (try dsimp only)))) | (k_here; (with_reducible show wpAny _ _ (call (Value.builtin "isinstance") [Value.ref _, Value.ref 47]) _ _ _); k_dflt (refine isF_yes (by k_asm) (by k_asm) (by k_asm) (by k_mem) (by k_mem) (by k_is) ?_)) | (k_here; (with_reducible show wpAny _ _ (binaryOp Operator.Add (Value.str _ _) (Value.str _ _)) _ _ _); (refine add_S (by kopn_code) (by kopn_code) (by w_strict (((try simp only [rep_len, List.length_append, List.length_cons, List.length_nil, List.length_drop, List.length_take]); omega))) ?_; intro _ _))) | walk1 | (dsimp only; first | (with_reducible first | ((with_reducible show wpAny _ _ (call (Value.ref _) _) _ _ _); (k_here; k_dflt (refine Mine.Cl.use2 (by k_asm) (by k_asm) (by k_asm) (by k_asm) (by k_asm) (by w_strict (first | exact rfl | assumption)) (by k_room) (by k_units) (by is_list) (trep_fail _ _ _ _ _ _ _ _ _ _ _ _ (by w_strict (exact TV.lit (by kopn_code) _)) (by w_strict (exact TV.lit (by kopn_code) _)) (by w_strict (exact TV.lit (by kopn_code) _)) (by w_strict (omega)) (by w_strict (first | omega | (simp only [List.length_append, List.length_cons, List.length_nil]; omega))) (by w_strict (first | omega | (simp only [List.length_nil]; omega))) (by w_strict (first | exact .inl rfl | (refine .inr ?_; simp only [List.length_append, List.length_cons, List.length_nil]; omega)))) ?_; intro v9 own9 h9 tk9 R9 F9 N9 M9 keep9; obtain ⟨f9, d9, es9, nn9, e9, e9'⟩ := R9; subst e9; subst e9'; (have N8 := news_two N9 M9); clear N9 M9; (try k_sweep); (try dsimp only)))) | (k_here; (with_reducible show wpAny _ _ (call (Value.builtin "isinstance") [Value.ref _, Value.ref 47]) _ _ _); k_dflt (refine isF_yes (by k_asm) (by k_asm) (by k_asm) (by k_mem) (by k_mem) (by k_is) ?_)) | (k_here; (with_reducible show wpAny _ _ (binaryOp Operator.Add (Value.str _ _) (Value.str _ _)) _ _ _); (refine add_S (by kopn_code) (by kopn_code) (by w_strict (((try simp only [rep_len, List.length_append, List.length_cons, List.length_nil, List.length_drop, List.length_take]); omega))) ?_; intro _ _))) | walk1) | (leave1; walk_say "STEP leave1"; try dsimp only) | fail "no step"))
      refine unstop ?_
      with_reducible (rename Mark2 => mk9; clear mk9)
      (refine' trep_raise_use (old := [(I, _)]) ?B ?F ?X ?N ?T ?k ?ml ?mv ?md ?hv ?ho ?d ?u ?_; (case B => k_asm); (case F => k_asm); (case X => k_asm); (case N => k_asm); (case T => k_asm); (case k => exact rfl); (case ml => k_mem); (case hv => exact .inr (.inr ⟨x, o, rfl, TV.str _ _, by omega, TV.str _ _, by omega⟩)); (case mv => k_mem); (case md => k_mem); (case ho => (intro p hp; rw [List.mem_singleton.mp hp]; exact ⟨by k_mem, (by show Value.type "range_iterator" ≠ _; simp), (by show Value.type "range_iterator" ≠ _; simp)⟩)); (case d => k_room); (case u => k_units); intro e6 d6 es6 nn6 t6 G6 h6 tk6 hg6 R6 FG6 NG6 U6)
      (refine caught_as (by k_asm) FG6 U6 R6 XB TB (by k_is) (exc34 w) (by decide +kernel) NG6 (fun g5 h5 oe5 tk5 F5 B5 X5 P5 T5 N5 hc5 hd5 hn5 => ?_))
      (try dsimp only [List.cons_append, List.nil_append] at N5)
      (repeat' (first | (k_unfold; (try dsimp only)) | (k_end; wrow_close) | ((with_reducible show wpAny _ _ (execs (_ :: _) _) _ _ ⟨_, _, _, _ + _, _⟩); refine absTok ?_; intro tk) | (with_reducible first | ((with_reducible show wpAny _ _ (call (Value.ref _) _) _ _ _); (k_here; k_dflt (refine Mine.Cl.use2 (by k_asm) (by k_asm) (by k_asm) (by k_asm) (by k_asm) (by w_strict (first | exact rfl | assumption)) (by k_room) (by k_units) (by is_list) (trep_fail _ _ _ _ _ _ _ _ _ _ _ _ (by w_strict (exact TV.lit (by kopn_code) _)) (by w_strict (exact TV.lit (by kopn_code) _)) (by w_strict (exact TV.lit (by kopn_code) _)) (by w_strict (omega)) (by w_strict (first | omega | (simp only [List.length_append, List.length_cons, List.length_nil]; omega))) (by w_strict (first | omega | (simp only [List.length_nil]; omega))) (by w_strict (first | exact .inl rfl | (refine .inr ?_; simp only [List.length_append, List.length_cons, List.length_nil]; omega)))) ?_; intro v9 own9 h9 tk9 R9 F9 N9 M9 keep9; obtain ⟨f9, d9, es9, nn9, e9, e9'⟩ := R9; subst e9; subst e9'; (have N8 := news_two N9 M9); clear N9 M9; (try k_sweep); (try dsimp only)))) | (k_here; (with_reducible show wpAny _ _ (call (Value.builtin "isinstance") [Value.ref _, Value.ref 47]) _ _ _); k_dflt (refine isF_yes (by k_asm) (by k_asm) (by k_asm) (by k_mem) (by k_mem) (by k_is) ?_)) | (k_here; (with_reducible show wpAny _ _ (binaryOp Operator.Add (Value.str _ _) (Value.str _ _)) _ _ _); (refine add_S (by kopn_code) (by kopn_code) (by w_strict (((try simp only [rep_len, List.length_append, List.length_cons, List.length_nil, List.length_drop, List.length_take]); omega))) ?_; intro _ _))) | walk1 | (dsimp only; first | (with_reducible first | ((with_reducible show wpAny _ _ (call (Value.ref _) _) _ _ _); (k_here; k_dflt (refine Mine.Cl.use2 (by k_asm) (by k_asm) (by k_asm) (by k_asm) (by k_asm) (by w_strict (first | exact rfl | assumption)) (by k_room) (by k_units) (by is_list) (trep_fail _ _ _ _ _ _ _ _ _ _ _ _ (by w_strict (exact TV.lit (by kopn_code) _)) (by w_strict (exact TV.lit (by kopn_code) _)) (by w_strict (exact TV.lit (by kopn_code) _)) (by w_strict (omega)) (by w_strict (first | omega | (simp only [List.length_append, List.length_cons, List.length_nil]; omega))) (by w_strict (first | omega | (simp only [List.length_nil]; omega))) (by w_strict (first | exact .inl rfl | (refine .inr ?_; simp only [List.length_append, List.length_cons, List.length_nil]; omega)))) ?_; intro v9 own9 h9 tk9 R9 F9 N9 M9 keep9; obtain ⟨f9, d9, es9, nn9, e9, e9'⟩ := R9; subst e9; subst e9'; (have N8 := news_two N9 M9); clear N9 M9; (try k_sweep); (try dsimp only)))) | (k_here; (with_reducible show wpAny _ _ (call (Value.builtin "isinstance") [Value.ref _, Value.ref 47]) _ _ _); k_dflt (refine isF_yes (by k_asm) (by k_asm) (by k_asm) (by k_mem) (by k_mem) (by k_is) ?_)) | (k_here; (with_reducible show wpAny _ _ (binaryOp Operator.Add (Value.str _ _) (Value.str _ _)) _ _ _); (refine add_S (by kopn_code) (by kopn_code) (by w_strict (((try simp only [rep_len, List.length_append, List.length_cons, List.length_nil, List.length_drop, List.length_take]); omega))) ?_; intro _ _))) | walk1) | (leave1; walk_say "STEP leave1"; try dsimp only) | fail "no step"))
      (refine get_exc (C := 34) (ox := oe5) (es := es6) (n := nn6) (X5.keeps F5.keep) ⟨(N5 _ (.head _)).1, hc5, hn5, by rw [hd5]; exact (N5 _ (.tail _ (.head _))).1⟩ (cls34 w) (by decide +kernel) (find34g w) (find34h w) (dict34 w) (find34n w) hg6 rfl ?_)
      (repeat' (first | (k_unfold; (try dsimp only)) | (k_end; wrow_close) | ((with_reducible show wpAny _ _ (execs (_ :: _) _) _ _ ⟨_, _, _, _ + _, _⟩); refine absTok ?_; intro tk) | (with_reducible first | ((with_reducible show wpAny _ _ (call (Value.ref _) _) _ _ _); (k_here; k_dflt (refine Mine.Cl.use2 (by k_asm) (by k_asm) (by k_asm) (by k_asm) (by k_asm) (by w_strict (first | exact rfl | assumption)) (by k_room) (by k_units) (by is_list) (trep_fail _ _ _ _ _ _ _ _ _ _ _ _ (by w_strict (exact TV.lit (by kopn_code) _)) (by w_strict (exact TV.lit (by kopn_code) _)) (by w_strict (exact TV.lit (by kopn_code) _)) (by w_strict (omega)) (by w_strict (first | omega | (simp only [List.length_append, List.length_cons, List.length_nil]; omega))) (by w_strict (first | omega | (simp only [List.length_nil]; omega))) (by w_strict (first | exact .inl rfl | (refine .inr ?_; simp only [List.length_append, List.length_cons, List.length_nil]; omega)))) ?_; intro v9 own9 h9 tk9 R9 F9 N9 M9 keep9; obtain ⟨f9, d9, es9, nn9, e9, e9'⟩ := R9; subst e9; subst e9'; (have N8 := news_two N9 M9); clear N9 M9; (try k_sweep); (try dsimp only)))) | (k_here; (with_reducible show wpAny _ _ (call (Value.builtin "isinstance") [Value.ref _, Value.ref 47]) _ _ _); k_dflt (refine isF_yes (by k_asm) (by k_asm) (by k_asm) (by k_mem) (by k_mem) (by k_is) ?_)) | (k_here; (with_reducible show wpAny _ _ (binaryOp Operator.Add (Value.str _ _) (Value.str _ _)) _ _ _); (refine add_S (by kopn_code) (by kopn_code) (by w_strict (((try simp only [rep_len, List.length_append, List.length_cons, List.length_nil, List.length_drop, List.length_take]); omega))) ?_; intro _ _))) | walk1 | (dsimp only; first | (with_reducible first | ((with_reducible show wpAny _ _ (call (Value.ref _) _) _ _ _); (k_here; k_dflt (refine Mine.Cl.use2 (by k_asm) (by k_asm) (by k_asm) (by k_asm) (by k_asm) (by w_strict (first | exact rfl | assumption)) (by k_room) (by k_units) (by is_list) (trep_fail _ _ _ _ _ _ _ _ _ _ _ _ (by w_strict (exact TV.lit (by kopn_code) _)) (by w_strict (exact TV.lit (by kopn_code) _)) (by w_strict (exact TV.lit (by kopn_code) _)) (by w_strict (omega)) (by w_strict (first | omega | (simp only [List.length_append, List.length_cons, List.length_nil]; omega))) (by w_strict (first | omega | (simp only [List.length_nil]; omega))) (by w_strict (first | exact .inl rfl | (refine .inr ?_; simp only [List.length_append, List.length_cons, List.length_nil]; omega)))) ?_; intro v9 own9 h9 tk9 R9 F9 N9 M9 keep9; obtain ⟨f9, d9, es9, nn9, e9, e9'⟩ := R9; subst e9; subst e9'; (have N8 := news_two N9 M9); clear N9 M9; (try k_sweep); (try dsimp only)))) | (k_here; (with_reducible show wpAny _ _ (call (Value.builtin "isinstance") [Value.ref _, Value.ref 47]) _ _ _); k_dflt (refine isF_yes (by k_asm) (by k_asm) (by k_asm) (by k_mem) (by k_mem) (by k_is) ?_)) | (k_here; (with_reducible show wpAny _ _ (binaryOp Operator.Add (Value.str _ _) (Value.str _ _)) _ _ _); (refine add_S (by kopn_code) (by kopn_code) (by w_strict (((try simp only [rep_len, List.length_append, List.length_cons, List.length_nil, List.length_drop, List.length_take]); omega))) ?_; intro _ _))) | walk1) | (leave1; walk_say "STEP leave1"; try dsimp only) | fail "no step"))
      with_reducible (rename Fr _ _ _ _ => kF8; rename News _ _ _ _ => kN8)
      exact unstop ⟨_, _, _, _, rfl, T9.trans T5, kF8, (fun p hp => by rw [List.mem_singleton.mp hp]; exact kN8 _ (.tail _ (.tail _ (.head _)))), by exact rfl, by exact rfl, by exact rfl, by exact rfl⟩
  · have X9 := XB.keeps B9.stays
    have Q9 := TB.keeps B9.stays
    have N9 := news_nil F9
    dsimp only
    (repeat' (first | (k_unfold; (try dsimp only)) | (k_end; wrow_close) | ((with_reducible show wpAny _ _ (execs (_ :: _) _) _ _ ⟨_, _, _, _ + _, _⟩); refine absTok ?_; intro tk) | (with_reducible first | ((with_reducible show wpAny _ _ (call (Value.ref _) _) _ _ _); (k_here; k_dflt (refine Mine.Cl.use2 (by k_asm) (by k_asm) (by k_asm) (by k_asm) (by k_asm) (by w_strict (first | exact rfl | assumption)) (by k_room) (by k_units) (by is_list) (trep_fail _ _ _ _ _ _ _ _ _ _ _ _ (by w_strict (exact TV.lit (by kopn_code) _)) (by w_strict (exact TV.lit (by kopn_code) _)) (by w_strict (exact TV.lit (by kopn_code) _)) (by w_strict (omega)) (by w_strict (first | omega | (simp only [List.length_append, List.length_cons, List.length_nil]; omega))) (by w_strict (first | omega | (simp only [List.length_nil]; omega))) (by w_strict (first | exact .inl rfl | (refine .inr ?_; simp only [List.length_append, List.length_cons, List.length_nil]; omega)))) ?_; intro v9 own9 h9 tk9 R9 F9 N9 M9 keep9; obtain ⟨f9, d9, es9, nn9, e9, e9'⟩ := R9; subst e9; subst e9'; (have N8 := news_two N9 M9); clear N9 M9; (try k_sweep); (try dsimp only)))) | (k_here; (with_reducible show wpAny _ _ (call (Value.builtin "isinstance") [Value.ref _, Value.ref 47]) _ _ _); k_dflt (refine isF_yes (by k_asm) (by k_asm) (by k_asm) (by k_mem) (by k_mem) (by k_is) ?_)) | (k_here; (with_reducible show wpAny _ _ (binaryOp Operator.Add (Value.str _ _) (Value.str _ _)) _ _ _); (refine add_S (by kopn_code) (by kopn_code) (by w_strict (((try simp only [rep_len, List.length_append, List.length_cons, List.length_nil, List.length_drop, List.length_take]); omega))) ?_; intro _ _))) | walk1 | (dsimp only; first | (with_reducible first | ((with_reducible show wpAny _ _ (call (Value.ref _) _) _ _ _); (k_here; k_dflt (refine Mine.Cl.use2 (by k_asm) (by k_asm) (by k_asm) (by k_asm) (by k_asm) (by w_strict (first | exact rfl | assumption)) (by k_room) (by k_units) (by is_list) (trep_fail _ _ _ _ _ _ _ _ _ _ _ _ (by w_strict (exact TV.lit (by kopn_code) _)) (by w_strict (exact TV.lit (by kopn_code) _)) (by w_strict (exact TV.lit (by kopn_code) _)) (by w_strict (omega)) (by w_strict (first | omega | (simp only [List.length_append, List.length_cons, List.length_nil]; omega))) (by w_strict (first | omega | (simp only [List.length_nil]; omega))) (by w_strict (first | exact .inl rfl | (refine .inr ?_; simp only [List.length_append, List.length_cons, List.length_nil]; omega)))) ?_; intro v9 own9 h9 tk9 R9 F9 N9 M9 keep9; obtain ⟨f9, d9, es9, nn9, e9, e9'⟩ := R9; subst e9; subst e9'; (have N8 := news_two N9 M9); clear N9 M9; (try k_sweep); (try dsimp only)))) | (k_here; (with_reducible show wpAny _ _ (call (Value.builtin "isinstance") [Value.ref _, Value.ref 47]) _ _ _); k_dflt (refine isF_yes (by k_asm) (by k_asm) (by k_asm) (by k_mem) (by k_mem) (by k_is) ?_)) | (k_here; (with_reducible show wpAny _ _ (binaryOp Operator.Add (Value.str _ _) (Value.str _ _)) _ _ _); (refine add_S (by kopn_code) (by kopn_code) (by w_strict (((try simp only [rep_len, List.length_append, List.length_cons, List.length_nil, List.length_drop, List.length_take]); omega))) ?_; intro _ _))) | walk1) | (leave1; walk_say "STEP leave1"; try dsimp only) | fail "no step"))
    all_goals exact ⟨rfl, _, _, rfl, fun b o e => F9.keep b o (B9.stays b o e)⟩
end

theorem off_law0 : True := by w_top off; exact trivial
theorem caU : callerA.units = 4 := rfl
theorem caD : callerA.depth = 301 := rfl
local macro_rules | `(tactic| k_units) => `(tactic| ((try simp only [units_in1, units_deeper, Around.mark_units, units_caller]); (try dsimp only [ktrTop]); (have caU9 := caU); (have caL9 := cLine_is); omega))
local macro_rules | `(tactic| k_room) => `(tactic| ((try simp only [depth_mark, depth_under_make, depth_under_kw, depth_in1, depth_deeper, depth_caller]); (try dsimp only [ktrTop]); (have caU9 := caD); (show _ < 1000); omega))
noncomputable def lawDef : List Stmt × Scope := match pg.main.body.getLast? with | some (.FunctionDef _ _ body _ _ _ scope _ _ _) => (body, scope) | _ => ([], { kind := .function, names := [], isGenerator := false, isCoroutine := false })
noncomputable def lawScope : Scope := lawDef.2
noncomputable def lawFrom (k : Nat) : List Stmt := lawDef.1.drop k
noncomputable def lawAt (k : Nat) : Stmt := (lawDef.1[k]?).getD (.Pass default)
noncomputable abbrev lawEnv (L fa : Addr) (cdv : Value) : Env := envOfC (Str.ofString "law") lawScope L fa cdv
/-- what an exception would find -/
noncomputable abbrev LawE (w : World) (L fa : Addr) (cdv : Value) (Er : Value → Shared → Prop) (e : Value) (s' : Shared) : Prop := wpAny (model pg w) (callerA.deeper (lawEnv L fa cdv)) (leaving (lawEnv L fa cdv) e) (fun _ s'' => Er e s'') (fun e' s'' => Er e' s'') s'
/-- a loop over a range: J is what stands between the turns -/
def JPost (J : Nat → (Str → Option Value) → List (Addr × Obj) → Prop) (Q : Flow → Shared → Prop) (h₀ : Heap) (L : Addr) (i : Nat) (s : Shared) (I : Addr) (it : Obj) (fl : Flow) (s' : Shared) : Prop := match fl with
  | .ret v => Q (.ret v) s'
  | .brk => Q .next s'
  | _ => ∃ h' tk' m' news', s' = { s with heap := h', toks := tk' } ∧ Fr h₀ L h' m' ∧ News h₀ L h' ((I, it) :: news') ∧ (∀ p ∈ news', p.1 ≠ I) ∧ J i m' news'
section
variable {prog : Program} {w : World} {A : Around} {E : Value → Shared → Prop} {s : Shared} {env : Env} {h₀ : Heap} {x : Str} {body : List Stmt} {Q : Flow → Shared → Prop} {I : Addr} {a : Int} {n : Nat}
theorem range_inv (J : Nat → (Str → Option Value) → List (Addr × Obj) → Prop)
    (turn : ∀ i, i < n → ∀ t' h tk m news, J i m news → (∀ p ∈ news, p.1 ≠ I) → Fr h₀ env.locals h (fun y => if y = x then some (.int (a + (i : Int)) t') else m y) →
      News h₀ env.locals h ((I, itR (a + ((i + 1 : Nat) : Int)) ((n : Int) - ((i + 1 : Nat) : Int))) :: news) →
      wpAny (model prog w) A (execs body env) (JPost J Q h₀ env.locals (i + 1) { s with heap := h, toks := tk } I (itR (a + ((i + 1 : Nat) : Int)) ((n : Int) - ((i + 1 : Nat) : Int)))) E { s with heap := h, toks := tk })
    (done : ∀ h tk m news, J n m news → Fr h₀ env.locals h m → News h₀ env.locals h news → Q .next { s with heap := h, toks := tk }) :
    ∀ k i m news, i + k = n → (∀ p ∈ news, p.1 ≠ I) → J i m news → RangeRest prog w A E h₀ env x body Q s I a n k i m news := by
  intro k
  induction k with
  | zero =>
    intro i m news hi _ hJ
    obtain rfl : i = n := by omega
    exact RangeRest.zero fun h tk F N => done h tk m news hJ F N
  | succ k ih =>
    intro i m news hi hI hJ
    refine RangeRest.succ fun t h tk F N => ?_
    refine wpAny_mono (turn i (by omega) t h tk m news hJ hI F N) (fun fl s' z => ?_) fun _ _ z => z
    have fin : (∃ h' tk' m' news', s' = { s with heap := h', toks := tk' } ∧ Fr h₀ env.locals h' m' ∧ News h₀ env.locals h' ((I, itR (a + ((i + 1 : Nat) : Int)) ((n : Int) - ((i + 1 : Nat) : Int))) :: news') ∧ (∀ p ∈ news', p.1 ≠ I) ∧ J (i + 1) m' news') →
        UnrEnd h₀ env.locals { s with heap := h, toks := tk } I (itR (a + ((i + 1 : Nat) : Int)) ((n : Int) - ((i + 1 : Nat) : Int))) (RangeRest prog w A E h₀ env x body Q s I a n k (i + 1)) s' := by
      rintro ⟨h', tk', m', news', rfl, F', N', ho, hJ'⟩
      exact ⟨h', tk', m', news', rfl, F', N', ho, ih (i + 1) m' news' (by omega) ho hJ'⟩
    cases fl with
    | ret v => exact z
    | brk => exact z
    | next => exact fin z
    | cont => exact fin z
end
theorem inL {α : Type} {a : α} {l all : List α} (x : a ∈ all) (r : ∀ p ∈ l, p ∈ all) : ∀ p ∈ a :: l, p ∈ all := List.forall_mem_cons.mpr ⟨x, r⟩
theorem News.sub {h₀ h : Heap} {L : Addr} {all l : List (Addr × Obj)} (N : News h₀ L h all) (x : ∀ p ∈ l, p ∈ all) : News h₀ L h l := fun p hp => N p (x p hp)
theorem OwnOff.more {R : List (Addr × Obj)} {q : Addr × Obj} {adr : List Addr} (x : OwnOff R adr) (h : ∀ b ∈ adr, q.1 ≠ b) : OwnOff (q :: R) adr := fun p hp b hb => by
  rcases List.mem_cons.mp hp with rfl | hp
  · exact h b hb
  · exact x p hp b hb
theorem OwnOff.one {R : List (Addr × Obj)} {a : Addr} {adr : List Addr} (x : OwnOff R adr) (h : ∀ p ∈ R, p.1 ≠ a) : OwnOff R (a :: adr) := fun p hp b hb => by
  rcases List.mem_cons.mp hb with rfl | hb
  · exact h p hp
  · exact x p hp b hb
theorem OwnOff.less {R : List (Addr × Obj)} {adr adr' : List Addr} (x : OwnOff R adr) (h : ∀ b ∈ adr', b ∈ adr) : OwnOff R adr' := fun p hp b hb => x p hp b (h b hb)
theorem map3 {m : Str → Option Value} {a b c : Value} (h1 : m "world" = some a) (h2 : m "tables" = some b) (h3 : m "texts" = some c) :
    m = fun (y : Str) => if y = "world" then some a else if y = "tables" then some b else if y = "texts" then some c else m y := by
  funext y
  split
  · rename_i h; rw [h, h1]
  · split
    · rename_i h; rw [h, h2]
    · split
      · rename_i h; rw [h, h3]
      · rfl
theorem map4 {m : Str → Option Value} {a b c d : Value} (h1 : m "world" = some a) (h2 : m "tables" = some b) (h3 : m "texts" = some c) (h4 : m "pairs" = some d) :
    m = fun (y : Str) => if y = "world" then some a else if y = "tables" then some b else if y = "texts" then some c else if y = "pairs" then some d else m y := by
  funext y
  split
  · rename_i h; rw [h, h1]
  · split
    · rename_i h; rw [h, h2]
    · split
      · rename_i h; rw [h, h3]
      · split
        · rename_i h; rw [h, h4]
        · rfl
/-- the addresses and objects that law keeps -/
structure LawK where
  (wl cl wc wa wd tb tx : Addr)
  (oc : Obj)
  (xs : List Value)
  (es : List DictEntry)
  (nd : Nat)
abbrev LawK.well (K : LawK) (k : Int) (t : Tok) (nn : Nat) : Addr × Obj := (K.wl, W.listOf [.ref K.cl, .int k t].toArray nn)
abbrev LawK.rest (K : LawK) (ox : Obj) (R : List (Addr × Obj)) : List (Addr × Obj) := (K.cl, W.listOf K.xs.toArray 0) :: (K.wc, K.oc) :: (K.wa, instObj 221 K.wd) :: (K.wd, dictOf K.es K.nd) :: (K.tx, ox) :: R
structure LawK.Ok (K : LawK) (is : List Int) : Prop where
  hoc : K.oc.data = .cell (some (.ref K.wl))
  hint : IntsAre K.xs is
  hlen : is.length ≤ 64
  hne : @Ne Addr K.cl K.wl
  e1 : @Ne Nat K.wl K.tb
  e2 : @Ne Nat K.wl K.tx
  e3 : @Ne Nat K.tb K.tx
  e4 : @Ne Nat K.wl K.wc ∧ @Ne Nat K.wl K.wa ∧ @Ne Nat K.wl K.wd
  e5 : @Ne Nat K.tb K.wc ∧ @Ne Nat K.tb K.wa ∧ @Ne Nat K.tb K.wd ∧ @Ne Nat K.tb K.cl
  e6 : @Ne Nat K.tx K.wc ∧ @Ne Nat K.tx K.wa ∧ @Ne Nat K.tx K.wd ∧ @Ne Nat K.tx K.cl
/-- a table: its signs, theirs -/
def Tab (o n : List Nat) : Prop := o.length = n.length ∧ 1 ≤ o.length ∧ o.length ≤ 4
/-- between the turns of the loop that makes the tables -/
def J1 (K : LawK) (ox : Obj) (i : Nat) (m : Str → Option Value) (news : List (Addr × Obj)) : Prop := ∃ (k : Int) (t : Tok) (nn nb : Nat) (R : List (Addr × Obj)) (ps : List (Addr × List Nat × List Nat)),
  news = K.well k t nn :: (K.tb, W.listOf (ps.map fun q => Value.ref q.1).toArray nb) :: K.rest ox R ∧ OwnOff R [K.wl, K.tb, K.tx] ∧ 0 ≤ k ∧ k ≤ 9 * (i : Int) ∧ ps.length = i ∧
  (∀ q ∈ ps, Tab q.2.1 q.2.2 ∧ ∃ t1 t2, (q.1, tupObj [.str (S q.2.1) t1, .str (S q.2.2) t2]) ∈ R) ∧ m "world" = some (.ref K.wa) ∧ m "tables" = some (.ref K.tb) ∧ m "texts" = some (.ref K.tx)
/-- between the turns of the loop that makes one table's pairs -/
def J2 (K : LawK) (ox : Obj) (tbo : Obj) (pl : Addr) (k0 : Int) (R0 : List (Addr × Obj)) (i : Nat) (m : Str → Option Value) (news : List (Addr × Obj)) : Prop := ∃ (k : Int) (t : Tok) (nn nq : Nat) (R : List (Addr × Obj)) (qs : List (Addr × Nat × Nat)),
  news = K.well k t nn :: (pl, W.listOf (qs.map fun q => Value.ref q.1).toArray nq) :: (K.tb, tbo) :: K.rest ox R ∧ OwnOff R [K.wl, pl, K.tb, K.tx] ∧ (∀ p ∈ R0, p ∈ R) ∧ k0 ≤ k ∧ k ≤ k0 + 2 * (i : Int) ∧ qs.length = i ∧
  (∀ q ∈ qs, ∃ t1 t2, (q.1, tupObj [.str (S [q.2.1]) t1, .str (S [q.2.2]) t2]) ∈ R) ∧ m "world" = some (.ref K.wa) ∧ m "tables" = some (.ref K.tb) ∧ m "texts" = some (.ref K.tx) ∧ m "pairs" = some (.ref pl)

theorem allLt_all {d : Addr} : ∀ {l : List (Addr × Obj)}, AllLt d l → ∀ p ∈ l, p.1 ≠ d
  | [], _, _, h => nomatch h
  | _ :: _, x, p, h => by
    rcases List.mem_cons.mp h with rfl | h
    · exact Nat.ne_of_lt x.1
    · exact allLt_all x.2 p h
theorem rng4 (k : Nat) (h : k < 6) : Builtin.Range.small 0 (1 + (k : Int)) 1 = true ∧ Builtin.Range.rangeSize 0 (1 + (k : Int)) 1 = ((1 + k : Nat) : Int) := by
  have : ∀ k : Fin 6, Builtin.Range.small 0 (1 + ((k : Nat) : Int)) 1 = true ∧ Builtin.Range.rangeSize 0 (1 + ((k : Nat) : Int)) 1 = ((1 + (k : Nat) : Nat) : Int) := by decide +kernel
  exact this ⟨k, h⟩

theorem news_perm1 {h₀ h : Heap} {L : Addr} {a b c d e1 e2 e3 e4 e5 : Addr × Obj} {R : List (Addr × Obj)} (N : News h₀ L h (a :: b :: c :: d :: e1 :: e2 :: e3 :: e4 :: e5 :: R)) : News h₀ L h (c :: a :: d :: e1 :: e2 :: e3 :: e4 :: e5 :: b :: R) :=
  News.sub N (inL (.tail _ (.tail _ (.head _))) (inL (.head _) (inL (.tail _ (.tail _ (.tail _ (.head _)))) (inL (.tail _ (.tail _ (.tail _ (.tail _ (.head _))))) (inL (.tail _ (.tail _ (.tail _ (.tail _ (.tail _ (.head _)))))) (inL (.tail _ (.tail _ (.tail _ (.tail _ (.tail _ (.tail _ (.head _))))))) (inL (.tail _ (.tail _ (.tail _ (.tail _ (.tail _ (.tail _ (.tail _ (.head _)))))))) (inL (.tail _ (.tail _ (.tail _ (.tail _ (.tail _ (.tail _ (.tail _ (.tail _ (.head _))))))))) (inL (.tail _ (.head _)) (fun p hp => (.tail _ (.tail _ (.tail _ (.tail _ (.tail _ (.tail _ (.tail _ (.tail _ (.tail _ hp)))))))))))))))))))

theorem news_perm2 {h₀ h : Heap} {L : Addr} {a b c d e f1 f2 f3 f4 f5 : Addr × Obj} {R : List (Addr × Obj)} (N : News h₀ L h (a :: b :: c :: d :: e :: f1 :: f2 :: f3 :: f4 :: f5 :: R)) : News h₀ L h (b :: c :: d :: e :: f1 :: f2 :: f3 :: f4 :: f5 :: a :: R) :=
  News.sub N (inL (.tail _ (.head _)) (inL (.tail _ (.tail _ (.head _))) (inL (.tail _ (.tail _ (.tail _ (.head _)))) (inL (.tail _ (.tail _ (.tail _ (.tail _ (.head _))))) (inL (.tail _ (.tail _ (.tail _ (.tail _ (.tail _ (.head _)))))) (inL (.tail _ (.tail _ (.tail _ (.tail _ (.tail _ (.tail _ (.head _))))))) (inL (.tail _ (.tail _ (.tail _ (.tail _ (.tail _ (.tail _ (.tail _ (.head _)))))))) (inL (.tail _ (.tail _ (.tail _ (.tail _ (.tail _ (.tail _ (.tail _ (.tail _ (.head _))))))))) (inL (.tail _ (.tail _ (.tail _ (.tail _ (.tail _ (.tail _ (.tail _ (.tail _ (.tail _ (.head _)))))))))) (inL (.head _) (fun _ hp => (.tail _ (.tail _ (.tail _ (.tail _ (.tail _ (.tail _ (.tail _ (.tail _ (.tail _ (.tail _ hp)))))))))))))))))))))

theorem off_of {R : List (Addr × Obj)} {q : Addr × Obj} {a b c d : Addr} (x : OwnOff R [a, b, c, d]) (h1 : @Ne Nat q.1 a) (h2 : @Ne Nat q.1 b) (h3 : @Ne Nat q.1 c) (h4 : @Ne Nat q.1 d) : OwnOff (q :: R) [a, b, c, d] := OwnOff.more x fun e he => by
  simp only [List.mem_cons, List.not_mem_nil, or_false] at he
  rcases he with rfl | rfl | rfl | rfl
  · exact h1
  · exact h2
  · exact h3
  · exact h4
theorem off_it {I : Addr} {it : Obj} {h₀ h : Heap} {L : Addr} {l : List (Addr × Obj)} (N : News h₀ L h ((I, it) :: l)) (hc : ∀ p ∈ l, p.2.cls = it.cls → p.1 ≠ I) : ∀ p ∈ l, p.1 ≠ I := fun p hp e => by
  have h1 := (N _ (.head _)).1
  have h2 := (N p (.tail _ hp)).1
  rw [e, h1] at h2
  exact hc p hp (congrArg Obj.cls (Option.some.inj h2)).symm e
theorem off_heads {K : LawK} {I pl D : Addr} {k k9 : Int} {t t9 : Tok} {nn nn9 : Nat} {o1 o9 o2 ox od : Obj} {R : List (Addr × Obj)} (x : ∀ p ∈ (K.well k9 t9 nn9 :: (pl, o9) :: (K.tb, o2) :: K.rest ox R), p.1 ≠ I) (d : @Ne Nat D I) :
    ∀ p ∈ (K.well k t nn :: (pl, o1) :: (K.tb, o2) :: K.rest ox ((D, od) :: R)), p.1 ≠ I := by
  have h1 := x _ (.head _)
  have h2 := x _ (.tail _ (.head _))
  have h3 : ∀ p ∈ ((K.tb, o2) :: K.rest ox R), p.1 ≠ I := fun p hp => x p (.tail _ (.tail _ hp))
  simp only [List.forall_mem_cons] at h3 ⊢
  obtain ⟨a1, a2, a3, a4, a5, a6, a7⟩ := h3
  exact ⟨h1, h2, a1, a2, a3, a4, a5, a6, d, a7⟩
theorem J2.step {K : LawK} {ox tbo : Obj} {pl : Addr} {k0 : Int} {R0 R : List (Addr × Obj)} {i : Nat} {m' : Str → Option Value} {g h : Heap} {L I D : Addr} {it : Obj} {k k' : Int} {t' u1 u2 : Tok} {nn nq c1 c2 : Nat} {qs : List (Addr × Nat × Nat)} {s : Shared} {tk : Nat} {Q : Flow → Shared → Prop}
    (F : Fr g L h m') (N : News g L h ((D, tupObj [.str (S [c1]) u1, .str (S [c2]) u2]) :: (I, it) :: K.well k' t' nn :: (pl, W.listOf ((qs.map fun q => Value.ref q.1).toArray.push (.ref D)) nq) :: (K.tb, tbo) :: K.rest ox R))
    {k9 : Int} {t9 : Tok} {its9 : Array Value} {nq9 : Nat} (hIo : ∀ p ∈ (K.well k9 t9 nn :: (pl, W.listOf its9 nq9) :: (K.tb, tbo) :: K.rest ox R), p.1 ≠ I) (dI : @Ne Nat D I)
    (off : OwnOff R [K.wl, pl, K.tb, K.tx]) (d1 : @Ne Nat D K.wl) (d2 : @Ne Nat D pl) (d3 : @Ne Nat D K.tb) (d4 : @Ne Nat D K.tx) (sub : ∀ p ∈ R0, p ∈ R) (hk : k0 ≤ k) (hk2 : k ≤ k0 + 2 * (i : Int)) (hkk : k' = k + 1 + 1) (hl : qs.length = i)
    (hq : ∀ q ∈ qs, ∃ t1 t2, (q.1, tupObj [.str (S [q.2.1]) t1, .str (S [q.2.2]) t2]) ∈ R) (m1 : m' "world" = some (.ref K.wa)) (m2 : m' "tables" = some (.ref K.tb)) (m3 : m' "texts" = some (.ref K.tx)) (m4 : m' "pairs" = some (.ref pl)) :
    JPost (J2 K ox tbo pl k0 R0) Q g L (i + 1) s I it .next { s with heap := h, toks := tk } := by
  have e : ((qs.map fun q => Value.ref q.1).toArray.push (.ref D)) = ((qs ++ [(D, c1, c2)]).map fun q => Value.ref q.1).toArray := by simp
  rw [e] at N
  refine ⟨h, tk, m', _, rfl, F, news_perm2 N, off_heads hIo dI, k', t', nn, nq, _, qs ++ [(D, c1, c2)], rfl, off_of off d1 d2 d3 d4, fun p hp => .tail _ (sub p hp), by omega, by omega, by simp [hl], fun q hq' => ?_, m1, m2, m3, m4⟩
  rcases List.mem_append.mp hq' with hq' | hq'
  · obtain ⟨t1, t2, h1⟩ := hq q hq'
    exact ⟨t1, t2, .tail _ h1⟩
  · rw [List.mem_singleton.mp hq']
    exact ⟨u1, u2, .head _⟩

theorem comp_flat2 {α : Type} (f : α → Nat) (d : α) (qs : List α) : ((List.range qs.length).map fun i => [f (qs.getD i d)]).flatten = qs.map f := by
  have : ((List.range qs.length).map fun i => [f (qs.getD i d)]) = qs.map fun c => [f c] := by
    apply List.ext_getElem
    · simp
    · intro i h1 h2
      simp at h1
      simp [h1]
  rw [this]
  clear this
  induction qs with
  | nil => rfl
  | cons a r ih => rw [List.map_cons, List.map_cons, List.flatten_cons, ih]; rfl
theorem J1.step {K : LawK} {ox : Obj} {pl D D1 D2 : Addr} {opl od1 od2 : Obj} {R R7 : List (Addr × Obj)} {i : Nat} {m' : Str → Option Value} {g h : Heap} {L I : Addr} {it : Obj} {k' : Int} {t' u1 u2 : Tok} {nn nb : Nat} {o n : List Nat} {ps : List (Addr × List Nat × List Nat)} {s : Shared} {tk : Nat} {Q : Flow → Shared → Prop}
    (F : Fr g L h m') (N : News g L h ((D, tupObj [.str (S o) u1, .str (S n) u2]) :: (D2, od2) :: (D1, od1) :: K.well k' t' nn :: (pl, opl) :: (K.tb, W.listOf ((ps.map fun q => Value.ref q.1).toArray.push (.ref D)) nb) :: K.rest ox R))
    (sub : ∀ p ∈ (I, it) :: R7, p ∈ R) {k9 : Int} {t9 : Tok} {nn9 nb9 : Nat} {its9 : Array Value} (hIo : ∀ p ∈ (K.well k9 t9 nn9 :: (K.tb, W.listOf its9 nb9) :: K.rest ox R7), p.1 ≠ I) (lt : AllLt D R)
    (off : OwnOff R7 [K.wl, K.tb, K.tx]) (d1 : @Ne Nat D K.wl) (d3 : @Ne Nat D K.tb) (d4 : @Ne Nat D K.tx) (hk0 : 0 ≤ k') (hk : k' ≤ 9 * ((i + 1 : Nat) : Int)) (hl : ps.length = i) (ht : Tab o n)
    (hq : ∀ q ∈ ps, Tab q.2.1 q.2.2 ∧ ∃ t1 t2, (q.1, tupObj [.str (S q.2.1) t1, .str (S q.2.2) t2]) ∈ R7) (m1 : m' "world" = some (.ref K.wa)) (m2 : m' "tables" = some (.ref K.tb)) (m3 : m' "texts" = some (.ref K.tx)) :
    JPost (J1 K ox) Q g L (i + 1) s I it .next { s with heap := h, toks := tk } := by
  have e : ((ps.map fun q => Value.ref q.1).toArray.push (.ref D)) = ((ps ++ [(D, o, n)]).map fun q => Value.ref q.1).toArray := by simp
  rw [e] at N
  have dI : D ≠ I := fun z => allLt_all lt _ (sub _ (.head _)) z.symm
  refine ⟨h, tk, m', K.well k' t' nn :: (K.tb, W.listOf ((ps ++ [(D, o, n)]).map fun q => Value.ref q.1).toArray nb) :: K.rest ox ((D, tupObj [.str (S o) u1, .str (S n) u2]) :: R7), rfl, F, ?_, ?_, k', t', nn, nb, _, ps ++ [(D, o, n)], rfl, ?_, hk0, hk, by simp [hl], fun q hq' => ?_, m1, m2, m3⟩
  · have T : ∀ p ∈ R, p ∈ ((D, tupObj [.str (S o) u1, .str (S n) u2]) :: (D2, od2) :: (D1, od1) :: K.well k' t' nn :: (pl, opl) :: (K.tb, W.listOf ((ps ++ [(D, o, n)]).map fun q => Value.ref q.1).toArray nb) :: K.rest ox R) := fun p hp => .tail _ (.tail _ (.tail _ (.tail _ (.tail _ (.tail _ (.tail _ (.tail _ (.tail _ (.tail _ (.tail _ hp))))))))))
    intro p hp
    rcases List.mem_cons.mp hp with rfl | hp
    · exact N _ (T _ (sub _ (.head _)))
    rcases List.mem_cons.mp hp with rfl | hp
    · exact N _ (by k_mem)
    rcases List.mem_cons.mp hp with rfl | hp
    · exact N _ (by k_mem)
    rcases List.mem_cons.mp hp with rfl | hp
    · exact N _ (by k_mem)
    rcases List.mem_cons.mp hp with rfl | hp
    · exact N _ (by k_mem)
    rcases List.mem_cons.mp hp with rfl | hp
    · exact N _ (by k_mem)
    rcases List.mem_cons.mp hp with rfl | hp
    · exact N _ (by k_mem)
    rcases List.mem_cons.mp hp with rfl | hp
    · exact N _ (by k_mem)
    rcases List.mem_cons.mp hp with rfl | hp
    · exact N _ (by k_mem)
    exact N p (T p (sub p (.tail _ hp)))
  · have h1 := hIo _ (.head _)
    have h2 := hIo _ (.tail _ (.head _))
    have h3 : ∀ p ∈ (K.rest ox R7), p.1 ≠ I := fun p hp => hIo p (.tail _ (.tail _ hp))
    simp only [List.forall_mem_cons] at h3 ⊢
    obtain ⟨a2, a3, a4, a5, a6, a7⟩ := h3
    exact ⟨h1, h2, a2, a3, a4, a5, a6, dI, a7⟩
  · refine OwnOff.more off fun b hb => ?_
    simp only [List.mem_cons, List.not_mem_nil, or_false] at hb
    rcases hb with rfl | rfl | rfl
    · exact d1
    · exact d3
    · exact d4
  · rcases List.mem_append.mp hq' with hq' | hq'
    · obtain ⟨h1, t1, t2, h2⟩ := hq q hq'
      exact ⟨h1, t1, t2, .tail _ h2⟩
    · rw [List.mem_singleton.mp hq']
      exact ⟨ht, u1, u2, .head _⟩
theorem src_ref {α : Type} {f : α → Addr} {qs : List α} {i : Nat} {v : Value} (h : ((qs.map fun q => Value.ref (f q)).toArray)[i]? = some v) : ∃ q, qs[i]? = some q ∧ v = .ref (f q) := by
  simp only [List.getElem?_toArray, List.getElem?_map, Option.map_eq_some_iff] at h
  obtain ⟨q, h1, h2⟩ := h
  exact ⟨q, h1, h2.symm⟩

/-- between the turns of the loop that makes the texts -/
def J3 (K : LawK) (tbo : Obj) (R0 : List (Addr × Obj)) (i : Nat) (m : Str → Option Value) (news : List (Addr × Obj)) : Prop := ∃ (k : Int) (t : Tok) (nn nx : Nat) (R : List (Addr × Obj)) (its : List Value) (ts : List (List Nat)),
  news = K.well k t nn :: (K.tx, W.listOf its.toArray nx) :: (K.cl, W.listOf K.xs.toArray 0) :: (K.wc, K.oc) :: (K.wa, instObj 221 K.wd) :: (K.wd, dictOf K.es K.nd) :: (K.tb, tbo) :: R ∧ (∀ p ∈ R0, p ∈ R) ∧ OwnOff R [K.wl, K.tb, K.tx] ∧ 0 ≤ k ∧ k ≤ 18 + 7 * (i : Int) ∧ StrsAre its (ts.map S) ∧ ts.length = i ∧
  (∀ x ∈ ts, 1 ≤ x.length ∧ x.length ≤ 6 ∧ ∀ c ∈ x, c ∈ sg) ∧ m "world" = some (.ref K.wa) ∧ m "tables" = some (.ref K.tb) ∧ m "texts" = some (.ref K.tx)
section
variable {prog : Program} {w : World} {A : Around} {h₀ : Heap} {m : Str → Option Value} {env : Env}
theorem comp_inv {L : Addr} {elt : Expr} {x : Str} {scope : Scope} {cl : List (Str × Addr)} {s : Shared} {SS : List (Addr × Obj) → Prop} {Fin : List Value → List (Addr × Obj) → Prop} {n : Nat} {P : Nat → Value → Prop} (J : Nat → List Value → List (Addr × Obj) → Prop)
    (turn : ∀ i v I oI C oC D m₂ ys news h tk (E' : Value → Shared → Prop), i < n → P i v → J i ys news → LCg.NsObj oC m₂ → m₂ x = some v → Fr h₀ L h m → News h₀ L h ((I, oI) :: (C, oC) :: (D, LCg.lst ys) :: news) → LCg.Off3 I C D news → ((@Ne Nat I C) ∧ (@Ne Nat I D) ∧ (@Ne Nat C D)) →
      wpAny (model prog w) A (eval elt (compEnvC scope cl C env)) (LCg.CompEnd h₀ L m { s with heap := h, toks := tk } I oI C oC D (LCg.lst ys) SS (fun y news' => J (i + 1) (ys ++ [y]) news')) E' { s with heap := h, toks := tk })
    (fin : ∀ ys news, J n ys news → Fin ys news) : ∀ news, J 0 [] news → LCg.CompRest prog w A h₀ L m env elt x scope cl s SS P Fin n 0 [] news := by
  have key : ∀ (j i : Nat) (ys : List Value) (news : List (Addr × Obj)), i + j = n → J i ys news → LCg.CompRest prog w A h₀ L m env elt x scope cl s SS P Fin j i ys news := by
    intro j
    induction j with
    | zero =>
      intro i ys news hi hy
      have e : i = n := by omega
      subst e
      exact LCg.CompRest.zero (fin ys news hy)
    | succ j ih =>
      intro i ys news hi hy
      refine LCg.CompRest.succ ?_
      intro v I oI C oC D m₂ h tk E' hv hC hx F N off ne
      refine wpAny_mono (turn i v I oI C oC D m₂ ys news h tk E' (by omega) hv hy hC hx F N off ne) (fun y s₂ hq => ?_) fun _ _ e => e
      obtain ⟨h', tk', nw, e, F', N', off', hS, hJ⟩ := hq
      exact ⟨h', tk', nw, e, F', N', off', hS, ih (i + 1) _ _ (by omega) hJ⟩
  exact fun news h => key n 0 [] news (by omega) h
end
/-- between the turns of the comprehension that makes a text -/
def Jc (wl cl : Addr) (nn : Nat) (k0 : Int) (rest : List (Addr × Obj)) (i : Nat) (ys : List Value) (news : List (Addr × Obj)) : Prop := ∃ (k : Int) (t : Tok) (l : List Nat), news = (wl, W.listOf [.ref cl, .int k t].toArray nn) :: rest ∧ k0 ≤ k ∧ k ≤ k0 + (i : Int) ∧ StrsAre ys ((l.map fun c => [c]).map S) ∧ l.length = i ∧ ∀ c ∈ l, c ∈ sg
theorem Jc.snoc {wl cl : Addr} {nn : Nat} {k0 k k' : Int} {rest : List (Addr × Obj)} {i c : Nat} {ys : List Value} {t' u : Tok} {l : List Nat} {j : Int} (hk : k0 ≤ k) (hk2 : k ≤ k0 + (i : Int)) (hkk : k' = k + 1) (hy : StrsAre ys ((l.map fun c => [c]).map S)) (hl : l.length = i) (hs : ∀ c ∈ l, c ∈ sg) (hc : sg[j.toNat]? = some c) :
    Jc wl cl nn k0 rest (i + 1) (ys ++ [.str (S [c]) u]) ((wl, W.listOf #[.ref cl, .int k' t'] nn) :: rest) := by
  refine ⟨k', t', l ++ [c], rfl, by omega, by omega, ?_, by simp [hl], fun e he => ?_⟩
  · rw [List.map_append, List.map_append]
    exact KStt.strs_snoc hy
  · rcases List.mem_append.mp he with he | he
    · exact hs e he
    · rw [List.mem_singleton.mp he]; exact List.mem_of_getElem? hc
theorem flat1 (l : List Nat) : (l.map fun c => [c]).flatten = l := by
  induction l with
  | nil => rfl
  | cons a r ih => rw [List.map_cons, List.flatten_cons, ih]; rfl
theorem J3.step {K : LawK} {tbo : Obj} {D : Addr} {od : Obj} {R R0 : List (Addr × Obj)} {i : Nat} {m' : Str → Option Value} {g h : Heap} {L I : Addr} {it : Obj} {k' : Int} {t' u : Tok} {nn nx : Nat} {x : List Nat} {its : List Value} {ts : List (List Nat)} {s : Shared} {tk : Nat} {Q : Flow → Shared → Prop}
    (F : Fr g L h m') (N : News g L h ((D, od) :: K.well k' t' nn :: (I, it) :: (K.tx, W.listOf (its.toArray.push (Value.str (S x) u)) nx) :: (K.cl, W.listOf K.xs.toArray 0) :: (K.wc, K.oc) :: (K.wa, instObj 221 K.wd) :: (K.wd, dictOf K.es K.nd) :: (K.tb, tbo) :: R))
    {k9 : Int} {t9 : Tok} {nn9 nx9 : Nat} {its9 : Array Value} (hIo : ∀ p ∈ (K.well k9 t9 nn9 :: (K.tx, W.listOf its9 nx9) :: (K.cl, W.listOf K.xs.toArray 0) :: (K.wc, K.oc) :: (K.wa, instObj 221 K.wd) :: (K.wd, dictOf K.es K.nd) :: (K.tb, tbo) :: R), p.1 ≠ I)
    (sub : ∀ p ∈ R0, p ∈ R) (off : OwnOff R [K.wl, K.tb, K.tx]) (hk0 : 0 ≤ k') (hk : k' ≤ 18 + 7 * ((i + 1 : Nat) : Int)) (hs : StrsAre its (ts.map S)) (hl : ts.length = i) (hx : 1 ≤ x.length ∧ x.length ≤ 6 ∧ ∀ c ∈ x, c ∈ sg) (hq : ∀ x ∈ ts, 1 ≤ x.length ∧ x.length ≤ 6 ∧ ∀ c ∈ x, c ∈ sg)
    (m1 : m' "world" = some (.ref K.wa)) (m2 : m' "tables" = some (.ref K.tb)) (m3 : m' "texts" = some (.ref K.tx)) :
    JPost (J3 K tbo R0) Q g L (i + 1) s I it .next { s with heap := h, toks := tk } := by
  have e : its.toArray.push (Value.str (S x) u) = (its ++ [Value.str (S x) u]).toArray := by simp
  rw [e] at N
  refine ⟨h, tk, m', K.well k' t' nn :: (K.tx, W.listOf (its ++ [Value.str (S x) u]).toArray nx) :: (K.cl, W.listOf K.xs.toArray 0) :: (K.wc, K.oc) :: (K.wa, instObj 221 K.wd) :: (K.wd, dictOf K.es K.nd) :: (K.tb, tbo) :: R, rfl, F, ?_, ?_, k', t', nn, nx, R, its ++ [Value.str (S x) u], ts ++ [x], rfl, sub, off, hk0, hk, ?_, by simp [hl], fun y hy => ?_, m1, m2, m3⟩
  · intro p hp
    rcases List.mem_cons.mp hp with rfl | hp
    · exact N _ (by k_mem)
    rcases List.mem_cons.mp hp with rfl | hp
    · exact N _ (by k_mem)
    exact N p (.tail _ (.tail _ (.tail _ hp)))
  · have h1 := hIo _ (.head _)
    have h2 := hIo _ (.tail _ (.head _))
    intro p hp
    rcases List.mem_cons.mp hp with rfl | hp
    · exact h1
    rcases List.mem_cons.mp hp with rfl | hp
    · exact h2
    exact hIo p (.tail _ (.tail _ hp))
  · rw [List.map_append]
    exact KStt.strs_snoc hs
  · rcases List.mem_append.mp hy with hy | hy
    · exact hq y hy
    · rw [List.mem_singleton.mp hy]; exact hx

theorem news_swap {h₀ h : Heap} {L : Addr} {a b : Addr × Obj} {R : List (Addr × Obj)} (N : News h₀ L h (a :: b :: R)) : News h₀ L h (b :: a :: R) := News.sub N (inL (.tail _ (.head _)) (inL (.head _) fun _ hp => .tail _ (.tail _ hp)))

theorem off_law3 : True := by w_top off; exact trivial
theorem cut_mid : ∀ (p q : List Value) (y : Value), kl_cut (p ++ y :: q) p.length = some (p, y, q)
  | [], _, _ => rfl
  | a :: p, q, y => by
    show (match kl_cut (p ++ y :: q) p.length with | some (p', z, q') => some (a :: p', z, q') | none => none) = _
    rw [cut_mid p q y]
theorem seq_at {i n : Nat} (h : i < n) : seqIndex? (i : Int) n = some i := by
  unfold seqIndex?
  have h1 : ¬ (i : Int) < 0 := by omega
  have h2 : (i : Int) < (n : Int) := by omega
  simp [h1, h]
theorem strs_split : ∀ {p : List Str} {y : Str} {q : List Str} {vs : List Value}, StrsAre vs (p ++ y :: q) → ∃ vp v vq, vs = vp ++ v :: vq ∧ StrsAre vp p ∧ (∃ u, v = .str y u) ∧ StrsAre vq q
  | [], y, q, _, h => by
    cases h with
    | cons a t hr => exact ⟨[], _, _, rfl, .nil, ⟨_, rfl⟩, hr⟩
  | a :: p, y, q, _, h => by
    cases h with
    | cons b t hr =>
      obtain ⟨vp, v, vq, rfl, h1, h2, h3⟩ := strs_split hr
      exact ⟨_ :: vp, v, vq, rfl, .cons _ _ h1, h2, h3⟩
theorem strs_app : ∀ {p q : List Str} {vp vq : List Value}, StrsAre vp p → StrsAre vq q → StrsAre (vp ++ vq) (p ++ q)
  | _, _, _, _, .nil, h => h
  | _, _, _, _, .cons a t h1, h => .cons a t (strs_app h1 h)
theorem maplf {m : Str → Option Value} {a b : Value} (h1 : m "left" = some a) (h2 : m "news" = some b) :
    m = fun (y : Str) => if y = "news" then some b else if y = "left" then some a else m y := by
  funext y
  split
  · rename_i h; rw [h, h2]
  · split
    · rename_i h; rw [h, h1]
    · rfl
section
local macro_rules | `(tactic| walk_at "call builtin:list.pop") => `(tactic| (k_here; refine stop ?_))
local macro_rules | `(tactic| walk_at "call builtin:len") => `(tactic| (k_here; (with_reducible show wpAny _ _ (call (Value.builtin "len") [Value.ref _]) _ _ _); refine stop ?_))
set_option maxHeartbeats 8000000 in
theorem chunk3 (w : World) (mean mg mb) (is : List Int) {wl cl lf : Addr} {xs its : List Value} {base g h : Heap} {L fa : Addr} {cdv : Value} {m : Str → Option Value} {k : Int} {t t0 : Tok} {nn nl : Nat} {oc : Obj} {R : List (Addr × Obj)} {s : Shared} {Q : Flow → Shared → Prop} {Er : Value → Shared → Prop} {tk : Nat}
    (B : Below callerA base [] g) (X : (kf w.params).In g) (T : Top vw lz mean mg mb g) (F : Fr g L h m) (N : News g L h ((wl, W.listOf [.ref cl, .int k t].toArray nn) :: (lf, W.listOf its.toArray nl) :: (cl, W.listOf xs.toArray 0) :: (L + 1, oc) :: R))
    (hoc : oc.data = .cell (some (.ref wl))) (hint : IntsAre xs is) (hlen : is.length ≤ 64) (hne : @Ne Addr cl wl) (e1 : @Ne Nat wl lf) (e2 : @Ne Nat lf cl) (e3 : @Ne Nat wl (L + 1)) (e4 : @Ne Nat lf (L + 1)) (hR : OwnOff R [wl, lf]) (hk0 : 0 ≤ k) (hk1 : k ≤ 100)
    (hs : StrsAre its ((sg.map fun c => [c]).map S)) (m1 : m "left" = some (.ref lf)) (m2 : m "news" = some (.str (S []) t0))
    (ret : ∀ h tk k' t' its' nl' nw tn m', nw.Perm sg → 0 ≤ k' → k' ≤ 110 → m' "news" = some (.str (S nw) tn) → (∀ z : Str, z ≠ Str.ofString "news" → m' z = m z) → Fr g L h m' → News g L h ((wl, W.listOf [.ref cl, .int k' t'].toArray nn) :: (lf, W.listOf its' nl') :: (cl, W.listOf xs.toArray 0) :: (L + 1, oc) :: R) → Q .next { s with heap := h, toks := tk }) :
    wpAny (model pg w) (callerA.deeper (lawEnv L fa cdv)) (exec (lawAt 4) (lawEnv L fa cdv)) Q (LawE w L fa cdv Er) { s with heap := h, toks := tk } := by
  obtain ⟨sc, hsc⟩ : ∃ sc, lawScope = sc := ⟨_, rfl⟩
  obtain ⟨st, hst⟩ : ∃ st, lawAt 4 = st := ⟨_, rfl⟩
  unfold LawE lawEnv
  rw [hsc, hst]
  conv at hsc => lhs; whnf
  conv at hst => lhs; whnf
  (try dsimp only at hsc)
  (try dsimp only at hst)
  subst hsc hst
  refine here_in ?_
  k_fill
  intro _
  have F1 : Fr g L h (fun (y : Str) => if y = "news" then some (.str (S []) t0) else if y = "left" then some (.ref lf) else m y) := maplf m1 m2 ▸ F
  refine while_g (L := L) (α := Int × Tok × List Value × Nat × List Nat × List Nat) (fun a => (wl, W.listOf [.ref cl, .int a.1 a.2.1].toArray nn) :: (lf, W.listOf a.2.2.1.toArray a.2.2.2.1) :: (cl, W.listOf xs.toArray 0) :: (L + 1, oc) :: R)
    (fun a => [(Str.ofString "news", .str (S a.2.2.2.2.2))]) [] (fun a => StrsAre a.2.2.1 ((a.2.2.2.2.1.map fun c => [c]).map S) ∧ (a.2.2.2.2.2 ++ a.2.2.2.2.1).Perm sg ∧ 0 ≤ a.1 ∧ a.1 ≤ 100 + (a.2.2.2.2.2.length : Int)) (fun a => a.2.2.2.2.1.length) (k, t, its, nl, sg, []) (fun _ => (by decide : [Str.ofString "news"].Nodup)) F1 N ?_ ⟨hs, List.Perm.refl _, hk0, hk1⟩ ?_
  · intro p hp
    rcases List.mem_singleton.mp hp with rfl
    exact ⟨_, rfl⟩
  · rintro ⟨k6, t6, its6, nl6, rem, nw⟩ ts u h6 tk6 ⟨hs6, hp6, hk6, hk6'⟩ F6 N6
    dsimp only [kstB, List.map] at F6 N6 hs6 hp6 hk6 hk6' ⊢
    simp only [List.contains_nil, Bool.false_eq_true, if_false] at F6
    have hln : nw.length + rem.length = 8 := by have := hp6.length_eq; simpa using this
    have hil : its6.length = rem.length := by have := StrsAre.len_eq hs6; simpa using this
    clear F F1 N
    (repeat' (first | (k_unfold; (try dsimp only)) | (k_end; wrow_close) | ((with_reducible show wpAny _ _ (execs (_ :: _) _) _ _ ⟨_, _, _, _ + _, _⟩); refine absTok ?_; intro tk) | (with_reducible first | (k_here; (with_reducible show wpAny _ _ (call (Value.ref 232) [Value.ref _, Value.int _ _]) _ _ _); k_dflt (refine Mine.dip_use (by k_asm) (by k_asm) (by k_asm) (by k_asm) (by k_asm) (by w_strict (first | exact rfl | assumption)) (by w_strict (k_updF)) (by w_strict (omega)) (by w_strict (omega)) (by w_strict (omega)) (by w_strict (omega)) (by is_list) (by assumption) (by w_strict (first | assumption | omega)) (by w_strict (first | assumption | k_ne)) (by k_room) (by k_units) ?_; intro j9 t9 t8 h9 tk9 hj9 hj8 F9 N9 keep9; (try dsimp only at N9); (try k_sweep); (try dsimp only))) | (k_here; (with_reducible show wpAny _ _ (binaryOp Operator.Add (Value.str _ _) (Value.str _ _)) _ _ _); (refine add_S (by kopn_code) (by kopn_code) (by w_strict (((try simp only [rep_len, List.length_append, List.length_cons, List.length_nil, List.length_drop, List.length_take]); omega))) ?_; intro _ _))) | walk1 | (dsimp only; first | (with_reducible first | (k_here; (with_reducible show wpAny _ _ (call (Value.ref 232) [Value.ref _, Value.int _ _]) _ _ _); k_dflt (refine Mine.dip_use (by k_asm) (by k_asm) (by k_asm) (by k_asm) (by k_asm) (by w_strict (first | exact rfl | assumption)) (by w_strict (k_updF)) (by w_strict (omega)) (by w_strict (omega)) (by w_strict (omega)) (by w_strict (omega)) (by is_list) (by assumption) (by w_strict (first | assumption | omega)) (by w_strict (first | assumption | k_ne)) (by k_room) (by k_units) ?_; intro j9 t9 t8 h9 tk9 hj9 hj8 F9 N9 keep9; (try dsimp only at N9); (try k_sweep); (try dsimp only))) | (k_here; (with_reducible show wpAny _ _ (binaryOp Operator.Add (Value.str _ _) (Value.str _ _)) _ _ _); (refine add_S (by kopn_code) (by kopn_code) (by w_strict (((try simp only [rep_len, List.length_append, List.length_cons, List.length_nil, List.length_drop, List.length_take]); omega))) ?_; intro _ _))) | walk1) | (leave1; walk_say "STEP leave1"; try dsimp only) | fail "no step"))
    refine unstop ?_
    refine len_list (items := its6.toArray) (by is_list) (by rw [List.size_toArray]; omega) ?_
    have hsz : (its6.toArray.size : Int) = (rem.length : Int) := by rw [List.size_toArray, hil]
    rw [hsz]
    cases rem with
    | nil =>
      (try dsimp only)
      simp only [List.length_nil, Int.ofNat_zero, Int.natCast_zero]
      (repeat' (first | (k_unfold; (try dsimp only)) | (k_end; wrow_close) | ((with_reducible show wpAny _ _ (execs (_ :: _) _) _ _ ⟨_, _, _, _ + _, _⟩); refine absTok ?_; intro tk) | (with_reducible first | (k_here; (with_reducible show wpAny _ _ (call (Value.ref 232) [Value.ref _, Value.int _ _]) _ _ _); k_dflt (refine Mine.dip_use (by k_asm) (by k_asm) (by k_asm) (by k_asm) (by k_asm) (by w_strict (first | exact rfl | assumption)) (by w_strict (k_updF)) (by w_strict (omega)) (by w_strict (omega)) (by w_strict (omega)) (by w_strict (omega)) (by is_list) (by assumption) (by w_strict (first | assumption | omega)) (by w_strict (first | assumption | k_ne)) (by k_room) (by k_units) ?_; intro j9 t9 t8 h9 tk9 hj9 hj8 F9 N9 keep9; (try dsimp only at N9); (try k_sweep); (try dsimp only))) | (k_here; (with_reducible show wpAny _ _ (binaryOp Operator.Add (Value.str _ _) (Value.str _ _)) _ _ _); (refine add_S (by kopn_code) (by kopn_code) (by w_strict (((try simp only [rep_len, List.length_append, List.length_cons, List.length_nil, List.length_drop, List.length_take]); omega))) ?_; intro _ _))) | walk1 | (dsimp only; first | (with_reducible first | (k_here; (with_reducible show wpAny _ _ (call (Value.ref 232) [Value.ref _, Value.int _ _]) _ _ _); k_dflt (refine Mine.dip_use (by k_asm) (by k_asm) (by k_asm) (by k_asm) (by k_asm) (by w_strict (first | exact rfl | assumption)) (by w_strict (k_updF)) (by w_strict (omega)) (by w_strict (omega)) (by w_strict (omega)) (by w_strict (omega)) (by is_list) (by assumption) (by w_strict (first | assumption | omega)) (by w_strict (first | assumption | k_ne)) (by k_room) (by k_units) ?_; intro j9 t9 t8 h9 tk9 hj9 hj8 F9 N9 keep9; (try dsimp only at N9); (try k_sweep); (try dsimp only))) | (k_here; (with_reducible show wpAny _ _ (binaryOp Operator.Add (Value.str _ _) (Value.str _ _)) _ _ _); (refine add_S (by kopn_code) (by kopn_code) (by w_strict (((try simp only [rep_len, List.length_append, List.length_cons, List.length_nil, List.length_drop, List.length_take]); omega))) ?_; intro _ _))) | walk1) | (leave1; walk_say "STEP leave1"; try dsimp only) | fail "no step"))
      refine ret h6 _ k6 t6 its6.toArray nl6 nw (ts (Str.ofString "news")) _ (by simpa using hp6) hk6 (by simp at hln; omega) (by simp) (fun z hz => ?_) F6 N6
      (try dsimp only)
      rw [if_neg hz, if_neg hz]
      split
      · rename_i h; rw [h, m1]
      · rfl
    | cons c0 r0 =>
      have hpos : (0 : Int) < ((c0 :: r0).length : Int) := by rw [List.length_cons]; omega
      have hpos2 : (1 : Int) ≤ ((c0 :: r0).length : Int) := by omega
      have h16 : ((c0 :: r0).length : Int) ≤ 16 := by omega
      (repeat' (first | (k_unfold; (try dsimp only)) | (k_end; wrow_close) | ((with_reducible show wpAny _ _ (execs (_ :: _) _) _ _ ⟨_, _, _, _ + _, _⟩); refine absTok ?_; intro tk) | (with_reducible first | (k_here; (with_reducible show wpAny _ _ (call (Value.ref 232) [Value.ref _, Value.int _ _]) _ _ _); k_dflt (refine Mine.dip_use (by k_asm) (by k_asm) (by k_asm) (by k_asm) (by k_asm) (by w_strict (first | exact rfl | assumption)) (by w_strict (k_updF)) (by w_strict (omega)) (by w_strict (omega)) (by w_strict (omega)) (by w_strict (omega)) (by is_list) (by assumption) (by w_strict (first | assumption | omega)) (by w_strict (first | assumption | k_ne)) (by k_room) (by k_units) ?_; intro j9 t9 t8 h9 tk9 hj9 hj8 F9 N9 keep9; (try dsimp only at N9); (try k_sweep); (try dsimp only))) | (k_here; (with_reducible show wpAny _ _ (binaryOp Operator.Add (Value.str _ _) (Value.str _ _)) _ _ _); (refine add_S (by kopn_code) (by kopn_code) (by w_strict (((try simp only [rep_len, List.length_append, List.length_cons, List.length_nil, List.length_drop, List.length_take]); omega))) ?_; intro _ _))) | walk1 | (dsimp only; first | (with_reducible first | (k_here; (with_reducible show wpAny _ _ (call (Value.ref 232) [Value.ref _, Value.int _ _]) _ _ _); k_dflt (refine Mine.dip_use (by k_asm) (by k_asm) (by k_asm) (by k_asm) (by k_asm) (by w_strict (first | exact rfl | assumption)) (by w_strict (k_updF)) (by w_strict (omega)) (by w_strict (omega)) (by w_strict (omega)) (by w_strict (omega)) (by is_list) (by assumption) (by w_strict (first | assumption | omega)) (by w_strict (first | assumption | k_ne)) (by k_room) (by k_units) ?_; intro j9 t9 t8 h9 tk9 hj9 hj8 F9 N9 keep9; (try dsimp only at N9); (try k_sweep); (try dsimp only))) | (k_here; (with_reducible show wpAny _ _ (binaryOp Operator.Add (Value.str _ _) (Value.str _ _)) _ _ _); (refine add_S (by kopn_code) (by kopn_code) (by w_strict (((try simp only [rep_len, List.length_append, List.length_cons, List.length_nil, List.length_drop, List.length_take]); omega))) ?_; intro _ _))) | walk1) | (leave1; walk_say "STEP leave1"; try dsimp only) | fail "no step"))
      refine unstop ?_
      refine len_list (items := its6.toArray) (by is_list) (by rw [List.size_toArray]; omega) ?_
      rw [hsz]
      (repeat' (first | (k_unfold; (try dsimp only)) | (k_end; wrow_close) | ((with_reducible show wpAny _ _ (execs (_ :: _) _) _ _ ⟨_, _, _, _ + _, _⟩); refine absTok ?_; intro tk) | (with_reducible first | (k_here; (with_reducible show wpAny _ _ (call (Value.ref 232) [Value.ref _, Value.int _ _]) _ _ _); k_dflt (refine Mine.dip_use (by k_asm) (by k_asm) (by k_asm) (by k_asm) (by k_asm) (by w_strict (first | exact rfl | assumption)) (by w_strict (k_updF)) (by w_strict (omega)) (by w_strict (omega)) (by w_strict (omega)) (by w_strict (omega)) (by is_list) (by assumption) (by w_strict (first | assumption | omega)) (by w_strict (first | assumption | k_ne)) (by k_room) (by k_units) ?_; intro j9 t9 t8 h9 tk9 hj9 hj8 F9 N9 keep9; (try dsimp only at N9); (try k_sweep); (try dsimp only))) | (k_here; (with_reducible show wpAny _ _ (binaryOp Operator.Add (Value.str _ _) (Value.str _ _)) _ _ _); (refine add_S (by kopn_code) (by kopn_code) (by w_strict (((try simp only [rep_len, List.length_append, List.length_cons, List.length_nil, List.length_drop, List.length_take]); omega))) ?_; intro _ _))) | walk1 | (dsimp only; first | (with_reducible first | (k_here; (with_reducible show wpAny _ _ (call (Value.ref 232) [Value.ref _, Value.int _ _]) _ _ _); k_dflt (refine Mine.dip_use (by k_asm) (by k_asm) (by k_asm) (by k_asm) (by k_asm) (by w_strict (first | exact rfl | assumption)) (by w_strict (k_updF)) (by w_strict (omega)) (by w_strict (omega)) (by w_strict (omega)) (by w_strict (omega)) (by is_list) (by assumption) (by w_strict (first | assumption | omega)) (by w_strict (first | assumption | k_ne)) (by k_room) (by k_units) ?_; intro j9 t9 t8 h9 tk9 hj9 hj8 F9 N9 keep9; (try dsimp only at N9); (try k_sweep); (try dsimp only))) | (k_here; (with_reducible show wpAny _ _ (binaryOp Operator.Add (Value.str _ _) (Value.str _ _)) _ _ _); (refine add_S (by kopn_code) (by kopn_code) (by w_strict (((try simp only [rep_len, List.length_append, List.length_cons, List.length_nil, List.length_drop, List.length_take]); omega))) ?_; intro _ _))) | walk1) | (leave1; walk_say "STEP leave1"; try dsimp only) | fail "no step"))
      refine unstop ?_
      rename 0 ≤ _ => hj0
      rename _ < ((c0 :: r0).length : Int) => hj4
      obtain ⟨jn, hjn⟩ := Int.eq_ofNat_of_zero_le hj0
      subst hjn
      have hj5 : jn < (c0 :: r0).length := by omega
      obtain ⟨pr, c, qr, hrem, hprl⟩ : ∃ pr c qr, c0 :: r0 = pr ++ c :: qr ∧ pr.length = jn := ⟨(c0 :: r0).take jn, (c0 :: r0)[jn], (c0 :: r0).drop (jn + 1), by rw [List.getElem_cons_drop, List.take_append_drop], by rw [List.length_take]; omega⟩
      rw [hrem, List.map_append, List.map_append] at hs6
      obtain ⟨vp, v, vq, rfl, hvp, ⟨uc, rfl⟩, hvq⟩ := strs_split hs6
      have hvpl : vp.length = jn := by rw [StrsAre.len_eq hvp]; simpa using hprl
      have hsz2 : (vp ++ Value.str (S [c]) uc :: vq).toArray.size = (c0 :: r0).length := by rw [List.size_toArray]; exact hil
      refine' kl_popAt (k := jn) (p := vp) (q := vq) (y := .str (S [c]) uc) ?F ?N ?hf ?hk ?e ?U ?hz ?_
      case F => k_asm
      case N => k_asm
      case hf => simp only [Builtin.List.listFitsIndex, Bool.and_eq_true, decide_eq_true_eq]; omega
      case hk => rw [hsz2]; exact seq_at hj5
      case e => rw [← hvpl]; exact cut_mid vp vq _
      case U => exact Upd.tail e1 (Upd.head (List.forall_mem_cons.mpr ⟨Ne.symm e2, List.forall_mem_cons.mpr ⟨Ne.symm e4, fun p hp => hR p hp _ (.tail _ (.head _))⟩⟩))
      case hz => (show (vp ++ Value.str (S [c]) uc :: vq).toArray.toList.length ≤ _); rw [sizeLine_eq, Array.length_toList, hsz2]; omega
      intro h8 F8 N8
      (repeat' (first | (k_unfold; (try dsimp only)) | (k_end; wrow_close) | ((with_reducible show wpAny _ _ (execs (_ :: _) _) _ _ ⟨_, _, _, _ + _, _⟩); refine absTok ?_; intro tk) | (with_reducible first | (k_here; (with_reducible show wpAny _ _ (call (Value.ref 232) [Value.ref _, Value.int _ _]) _ _ _); k_dflt (refine Mine.dip_use (by k_asm) (by k_asm) (by k_asm) (by k_asm) (by k_asm) (by w_strict (first | exact rfl | assumption)) (by w_strict (k_updF)) (by w_strict (omega)) (by w_strict (omega)) (by w_strict (omega)) (by w_strict (omega)) (by is_list) (by assumption) (by w_strict (first | assumption | omega)) (by w_strict (first | assumption | k_ne)) (by k_room) (by k_units) ?_; intro j9 t9 t8 h9 tk9 hj9 hj8 F9 N9 keep9; (try dsimp only at N9); (try k_sweep); (try dsimp only))) | (k_here; (with_reducible show wpAny _ _ (binaryOp Operator.Add (Value.str _ _) (Value.str _ _)) _ _ _); (refine add_S (by kopn_code) (by kopn_code) (by w_strict (((try simp only [rep_len, List.length_append, List.length_cons, List.length_nil, List.length_drop, List.length_take]); omega))) ?_; intro _ _))) | walk1 | (dsimp only; first | (with_reducible first | (k_here; (with_reducible show wpAny _ _ (call (Value.ref 232) [Value.ref _, Value.int _ _]) _ _ _); k_dflt (refine Mine.dip_use (by k_asm) (by k_asm) (by k_asm) (by k_asm) (by k_asm) (by w_strict (first | exact rfl | assumption)) (by w_strict (k_updF)) (by w_strict (omega)) (by w_strict (omega)) (by w_strict (omega)) (by w_strict (omega)) (by is_list) (by assumption) (by w_strict (first | assumption | omega)) (by w_strict (first | assumption | k_ne)) (by k_room) (by k_units) ?_; intro j9 t9 t8 h9 tk9 hj9 hj8 F9 N9 keep9; (try dsimp only at N9); (try k_sweep); (try dsimp only))) | (k_here; (with_reducible show wpAny _ _ (binaryOp Operator.Add (Value.str _ _) (Value.str _ _)) _ _ _); (refine add_S (by kopn_code) (by kopn_code) (by w_strict (((try simp only [rep_len, List.length_append, List.length_cons, List.length_nil, List.length_drop, List.length_take]); omega))) ?_; intro _ _))) | walk1) | (leave1; walk_say "STEP leave1"; try dsimp only) | fail "no step"))
      with_reducible (rename Fr _ _ _ _ => F7; rename News _ _ _ _ => N7)
      refine WEnd.mk (k6 + 1, _, vp ++ vq, nl6 + 1, pr ++ qr, nw ++ [c]) F7 N7 (fun p hp => hp) ?_ ?_ ⟨?_, ?_, ?_, ?_⟩ ?_
      · intro p hp
        rcases List.mem_singleton.mp hp with rfl
        exact ⟨_, if_pos rfl⟩
      · intro z hz _
        have hz1 : z ≠ Str.ofString "news" := hz _ (.head _)
        (try dsimp only)
        rw [if_neg hz1, if_neg hz1]
      · rw [List.map_append, List.map_append]; exact strs_app hvp hvq
      · (try dsimp only)
        rw [hrem] at hp6
        refine List.Perm.trans ?_ hp6
        simp only [List.append_assoc, List.singleton_append]
        exact List.Perm.append_left nw List.perm_middle.symm
      · (try dsimp only); omega
      · (try dsimp only); rw [List.length_append, List.length_singleton]; omega
      · (try dsimp only); rw [hrem]; simp
end

theorem off_law2 : True := by w_top off; exact trivial
section
local macro_rules | `(tactic| walk_at "pyIter ref") => `(tactic| (rename Mark2 => mk9; refine stop ?_))
local macro_rules | `(tactic| walk_at "eval ListComp") => `(tactic| (k_here; (with_reducible show wpAny _ _ (eval (Expr.ListComp _ [⟨_, _, [], _⟩] _ _) _) _ _ _); refine stop ?_))
local macro_rules | `(tactic| walk_at "CompSrc") => `(tactic| (refine stop ?_))
local macro_rules | `(tactic| walk_at "call builtin:list.append") => `(tactic| (k_here; refine stop ?_))
local macro_rules | `(tactic| walk_at "call ref") => `(tactic| (k_here; (with_reducible show wpAny _ _ (call (Value.ref 232) _) _ _ _); rename Marker => mk9; refine stop ?_))
local macro_rules | `(tactic| walk_at "JPost") => `(tactic| (refine stop ?_))
set_option maxHeartbeats 8000000 in
theorem chunk2 (w : World) (mean mg mb) (K : LawK) (is : List Int) (ok : K.Ok is) (tbo : Obj) {base g h : Heap} {L fa : Addr} {cdv : Value} {m : Str → Option Value} {k : Int} {t : Tok} {nn nx : Nat} {R : List (Addr × Obj)} {s : Shared} {Q : Flow → Shared → Prop} {Er : Value → Shared → Prop} {tk : Nat}
    (B : Below callerA base [] g) (X : (kf w.params).In g) (T : Top vw lz mean mg mb g) (F : Fr g L h m) (N : News g L h (K.well k t nn :: (K.tx, W.listOf #[] nx) :: (K.cl, W.listOf K.xs.toArray 0) :: (K.wc, K.oc) :: (K.wa, instObj 221 K.wd) :: (K.wd, dictOf K.es K.nd) :: (K.tb, tbo) :: R)) (hR : OwnOff R [K.wl, K.tb, K.tx]) (hk0 : 0 ≤ k) (hk1 : k ≤ 18)
    (m1 : m "world" = some (.ref K.wa)) (m2 : m "tables" = some (.ref K.tb)) (m3 : m "texts" = some (.ref K.tx)) (wc : K.wc = L + 1)
    (ret : ∀ h tk m news, J3 K tbo R 2 m news → Fr g L h m → News g L h news → Q .next { s with heap := h, toks := tk }) :
    wpAny (model pg w) (callerA.deeper (lawEnv L fa cdv)) (exec (lawAt 2) (lawEnv L fa cdv)) Q (LawE w L fa cdv Er) { s with heap := h, toks := tk } := by
  obtain ⟨wl, cl, wc', wa, wd, tb, tx, oc, xs, es, nd⟩ := K
  dsimp only [LawK.well, LawK.rest] at *
  subst wc
  obtain ⟨sc, hsc⟩ : ∃ sc, lawScope = sc := ⟨_, rfl⟩
  obtain ⟨st, hst⟩ : ∃ st, lawAt 2 = st := ⟨_, rfl⟩
  unfold LawE lawEnv
  rw [hsc, hst]
  conv at hsc => lhs; whnf
  conv at hst => lhs; whnf
  (try dsimp only at hsc)
  (try dsimp only at hst)
  subst hsc hst
  rw [map3 m1 m2 m3] at F
  refine here_in ?_
  k_fill
  intro _
  refine For_invVF F (by exact rfl) (by exact rfl) ?_
  have mk2 : Mark2 := trivial
  (repeat' (first | (k_unfold; (try dsimp only)) | (k_end; wrow_close) | ((with_reducible show wpAny _ _ (execs (_ :: _) _) _ _ ⟨_, _, _, _ + _, _⟩); refine absTok ?_; intro tk) | (with_reducible first | ((with_reducible show wpAny _ _ (call (Value.type _) _) _ _ _); (rename Mark2 => mk9; k_dflt (refine range1_rows (by k_asm) (by k_asm) ?_; intro h' tk' t1 u1 v1 R' F' N' keep'))) | (k_here; (with_reducible show wpAny _ _ (call (Value.ref 232) [Value.ref _, Value.int _ _]) _ _ _); k_dflt (refine Mine.dip_use (by k_asm) (by k_asm) (by k_asm) (by k_asm) (by k_asm) (by w_strict (first | exact rfl | assumption)) (by w_strict (k_updF)) (by w_strict (omega)) (by w_strict (omega)) (by w_strict (omega)) (by w_strict (omega)) (by is_list) (by assumption) (by w_strict (first | assumption | omega)) (by w_strict (first | assumption | k_ne)) (by k_room) (by k_units) ?_; intro j9 t9 t8 h9 tk9 hj9 hj8 F9 N9 keep9; (try dsimp only at N9); (try k_sweep); (try dsimp only))) | (k_here; (with_reducible show wpAny _ _ (subscriptTail _ _ (Value.str _ _) (Value.int _ _)) _ _ _); (refine item_any (by kopn_code) (by w_strict (omega)) (by w_strict (first | omega | ((try simp only [List.length_append, List.length_cons, List.length_nil]); omega))) (by w_strict (first | omega | (simp only [List.length_append, List.length_cons, List.length_nil]; omega))) ?_; intro c9 _ _ hc9))) | walk1 | (dsimp only; first | (with_reducible first | ((with_reducible show wpAny _ _ (call (Value.type _) _) _ _ _); (rename Mark2 => mk9; k_dflt (refine range1_rows (by k_asm) (by k_asm) ?_; intro h' tk' t1 u1 v1 R' F' N' keep'))) | (k_here; (with_reducible show wpAny _ _ (call (Value.ref 232) [Value.ref _, Value.int _ _]) _ _ _); k_dflt (refine Mine.dip_use (by k_asm) (by k_asm) (by k_asm) (by k_asm) (by k_asm) (by w_strict (first | exact rfl | assumption)) (by w_strict (k_updF)) (by w_strict (omega)) (by w_strict (omega)) (by w_strict (omega)) (by w_strict (omega)) (by is_list) (by assumption) (by w_strict (first | assumption | omega)) (by w_strict (first | assumption | k_ne)) (by k_room) (by k_units) ?_; intro j9 t9 t8 h9 tk9 hj9 hj8 F9 N9 keep9; (try dsimp only at N9); (try k_sweep); (try dsimp only))) | (k_here; (with_reducible show wpAny _ _ (subscriptTail _ _ (Value.str _ _) (Value.int _ _)) _ _ _); (refine item_any (by kopn_code) (by w_strict (omega)) (by w_strict (first | omega | ((try simp only [List.length_append, List.length_cons, List.length_nil]); omega))) (by w_strict (first | omega | (simp only [List.length_append, List.length_cons, List.length_nil]; omega))) ?_; intro c9 _ _ hc9))) | walk1) | (leave1; walk_say "STEP leave1"; try dsimp only) | fail "no step"))
  refine unstop ?_
  with_reducible (rename Mark2 => mk9; clear mk9; rename IsRange _ _ _ _ _ _ _ _ => R9; rename Fr _ _ _ _ => F9; rename News _ _ _ _ => N9)
  have hr0 : Builtin.Range.small 0 2 1 = true ∧ Builtin.Range.rangeSize 0 2 1 = ((2 : Nat) : Int) := by decide
  refine iter_rangeUnr (n := 2) rfl R9 hr0.1 hr0.2 F9 N9 (fun I hI => ?_)
  have hIwl : @LT.lt Nat _ wl I := hI _ (.head _)
  have hItx : @LT.lt Nat _ tx I := hI _ (.tail _ (.head _))
  have hItb : @LT.lt Nat _ tb I := hI (tb, tbo) (by k_mem)
  refine range_inv (J3 ⟨wl, cl, L + 1, wa, wd, tb, tx, oc, xs, es, nd⟩ tbo R) (fun i hi t8 h8 tk8 m8 news8 J8 o8' F8 N8 => ?_) (fun h8 tk8 m8 news8 J8 F8 N8 => ret h8 tk8 m8 news8 J8 F8 N8) 2 0 _ _ rfl (fun p hp => Nat.ne_of_lt (hI p hp)) ⟨k, t, nn, nx, R, [], [], rfl, (fun _ h => h), hR, hk0, by omega, .nil, rfl, (fun _ h => nomatch h), by exact rfl, by exact rfl, by exact rfl⟩
  obtain ⟨k7, t7, nn7, nb7, R7, its, ts, rfl, sub7, off7, hk7, hk8, hsA, hps, hpsR, a1, a2, a3⟩ := J8
  dsimp only [LawK.well, LawK.rest] at *
  rw [map3 a1 a2 a3] at F8
  clear F9 N9 R9
  (try clear N)
  obtain ⟨o1, o2, o3, o4, o5', o6, o7, ⟨o8, o9, o10⟩, ⟨o11, o12, o13, o14⟩, o15, o16, o17, o18⟩ := ok
  dsimp only at *
  have mk3 : Mark2 := trivial
  (repeat' (first | (k_unfold; (try dsimp only)) | (k_end; wrow_close) | ((with_reducible show wpAny _ _ (execs (_ :: _) _) _ _ ⟨_, _, _, _ + _, _⟩); refine absTok ?_; intro tk) | (with_reducible first | ((with_reducible show wpAny _ _ (call (Value.type _) _) _ _ _); (rename Mark2 => mk9; k_dflt (refine range1_rows (by k_asm) (by k_asm) ?_; intro h' tk' t1 u1 v1 R' F' N' keep'))) | (k_here; (with_reducible show wpAny _ _ (call (Value.ref 232) [Value.ref _, Value.int _ _]) _ _ _); k_dflt (refine Mine.dip_use (by k_asm) (by k_asm) (by k_asm) (by k_asm) (by k_asm) (by w_strict (first | exact rfl | assumption)) (by w_strict (k_updF)) (by w_strict (omega)) (by w_strict (omega)) (by w_strict (omega)) (by w_strict (omega)) (by is_list) (by assumption) (by w_strict (first | assumption | omega)) (by w_strict (first | assumption | k_ne)) (by k_room) (by k_units) ?_; intro j9 t9 t8 h9 tk9 hj9 hj8 F9 N9 keep9; (try dsimp only at N9); (try k_sweep); (try dsimp only))) | (k_here; (with_reducible show wpAny _ _ (subscriptTail _ _ (Value.str _ _) (Value.int _ _)) _ _ _); (refine item_any (by kopn_code) (by w_strict (omega)) (by w_strict (first | omega | ((try simp only [List.length_append, List.length_cons, List.length_nil]); omega))) (by w_strict (first | omega | (simp only [List.length_append, List.length_cons, List.length_nil]; omega))) ?_; intro c9 _ _ hc9))) | walk1 | (dsimp only; first | (with_reducible first | ((with_reducible show wpAny _ _ (call (Value.type _) _) _ _ _); (rename Mark2 => mk9; k_dflt (refine range1_rows (by k_asm) (by k_asm) ?_; intro h' tk' t1 u1 v1 R' F' N' keep'))) | (k_here; (with_reducible show wpAny _ _ (call (Value.ref 232) [Value.ref _, Value.int _ _]) _ _ _); k_dflt (refine Mine.dip_use (by k_asm) (by k_asm) (by k_asm) (by k_asm) (by k_asm) (by w_strict (first | exact rfl | assumption)) (by w_strict (k_updF)) (by w_strict (omega)) (by w_strict (omega)) (by w_strict (omega)) (by w_strict (omega)) (by is_list) (by assumption) (by w_strict (first | assumption | omega)) (by w_strict (first | assumption | k_ne)) (by k_room) (by k_units) ?_; intro j9 t9 t8 h9 tk9 hj9 hj8 F9 N9 keep9; (try dsimp only at N9); (try k_sweep); (try dsimp only))) | (k_here; (with_reducible show wpAny _ _ (subscriptTail _ _ (Value.str _ _) (Value.int _ _)) _ _ _); (refine item_any (by kopn_code) (by w_strict (omega)) (by w_strict (first | omega | ((try simp only [List.length_append, List.length_cons, List.length_nil]); omega))) (by w_strict (first | omega | (simp only [List.length_append, List.length_cons, List.length_nil]; omega))) ?_; intro c9 _ _ hc9))) | walk1) | (leave1; walk_say "STEP leave1"; try dsimp only) | fail "no step"))
  refine unstop ?_
  refine LCg.ListComp_U (by k_asm) (by with_unfolding_all rfl) (by decide) (by rfl) (by decide) (by rfl) ?_
  (repeat' (first | (k_unfold; (try dsimp only)) | (k_end; wrow_close) | ((with_reducible show wpAny _ _ (execs (_ :: _) _) _ _ ⟨_, _, _, _ + _, _⟩); refine absTok ?_; intro tk) | (with_reducible first | ((with_reducible show wpAny _ _ (call (Value.type _) _) _ _ _); (rename Mark2 => mk9; k_dflt (refine range1_rows (by k_asm) (by k_asm) ?_; intro h' tk' t1 u1 v1 R' F' N' keep'))) | (k_here; (with_reducible show wpAny _ _ (call (Value.ref 232) [Value.ref _, Value.int _ _]) _ _ _); k_dflt (refine Mine.dip_use (by k_asm) (by k_asm) (by k_asm) (by k_asm) (by k_asm) (by w_strict (first | exact rfl | assumption)) (by w_strict (k_updF)) (by w_strict (omega)) (by w_strict (omega)) (by w_strict (omega)) (by w_strict (omega)) (by is_list) (by assumption) (by w_strict (first | assumption | omega)) (by w_strict (first | assumption | k_ne)) (by k_room) (by k_units) ?_; intro j9 t9 t8 h9 tk9 hj9 hj8 F9 N9 keep9; (try dsimp only at N9); (try k_sweep); (try dsimp only))) | (k_here; (with_reducible show wpAny _ _ (subscriptTail _ _ (Value.str _ _) (Value.int _ _)) _ _ _); (refine item_any (by kopn_code) (by w_strict (omega)) (by w_strict (first | omega | ((try simp only [List.length_append, List.length_cons, List.length_nil]); omega))) (by w_strict (first | omega | (simp only [List.length_append, List.length_cons, List.length_nil]; omega))) ?_; intro c9 _ _ hc9))) | walk1 | (dsimp only; first | (with_reducible first | ((with_reducible show wpAny _ _ (call (Value.type _) _) _ _ _); (rename Mark2 => mk9; k_dflt (refine range1_rows (by k_asm) (by k_asm) ?_; intro h' tk' t1 u1 v1 R' F' N' keep'))) | (k_here; (with_reducible show wpAny _ _ (call (Value.ref 232) [Value.ref _, Value.int _ _]) _ _ _); k_dflt (refine Mine.dip_use (by k_asm) (by k_asm) (by k_asm) (by k_asm) (by k_asm) (by w_strict (first | exact rfl | assumption)) (by w_strict (k_updF)) (by w_strict (omega)) (by w_strict (omega)) (by w_strict (omega)) (by w_strict (omega)) (by is_list) (by assumption) (by w_strict (first | assumption | omega)) (by w_strict (first | assumption | k_ne)) (by k_room) (by k_units) ?_; intro j9 t9 t8 h9 tk9 hj9 hj8 F9 N9 keep9; (try dsimp only at N9); (try k_sweep); (try dsimp only))) | (k_here; (with_reducible show wpAny _ _ (subscriptTail _ _ (Value.str _ _) (Value.int _ _)) _ _ _); (refine item_any (by kopn_code) (by w_strict (omega)) (by w_strict (first | omega | ((try simp only [List.length_append, List.length_cons, List.length_nil]); omega))) (by w_strict (first | omega | (simp only [List.length_append, List.length_cons, List.length_nil]; omega))) ?_; intro c9 _ _ hc9))) | walk1) | (leave1; walk_say "STEP leave1"; try dsimp only) | fail "no step"))
  refine unstop ?_
  with_reducible (rename IsRange _ _ _ _ _ _ _ _ => R9; rename News _ _ _ _ => kN)
  rename 0 ≤ _ => hj0
  rename _ < (6 : Int) => hj4
  obtain ⟨jn, hjn⟩ := Int.eq_ofNat_of_zero_le hj0
  subst hjn
  obtain ⟨r1, r2⟩ := rng4 jn (by omega)
  refine LCg.CompSrc.range (n := 1 + jn) (by rfl) (by k_asm) (news_swap kN) R9 r1 r2 (by rw [sizeLine_eq]; omega) ?_
  intro g4
  (try dsimp only)
  have hrest : ∀ p ∈ ((I, itR (0 + ((i + 1 : Nat) : Int)) (((2 : Nat) : Int) - ((i + 1 : Nat) : Int))) :: (tx, W.listOf its.toArray nb7) :: (cl, W.listOf xs.toArray 0) :: (L + 1, oc) :: (wa, instObj 221 wd) :: (wd, dictOf es nd) :: (tb, tbo) :: R7), p.1 ≠ wl :=
    List.forall_mem_cons.mpr ⟨Nat.ne_of_gt hIwl, List.forall_mem_cons.mpr ⟨Ne.symm o6, List.forall_mem_cons.mpr ⟨o4, List.forall_mem_cons.mpr ⟨Ne.symm o8, List.forall_mem_cons.mpr ⟨Ne.symm o9, List.forall_mem_cons.mpr ⟨Ne.symm o10, List.forall_mem_cons.mpr ⟨Ne.symm o5', fun p hp => off7 p hp _ (.head _)⟩⟩⟩⟩⟩⟩⟩
  refine comp_inv (Jc wl cl nn7 (k7 + 1) ((I, itR (0 + ((i + 1 : Nat) : Int)) (((2 : Nat) : Int) - ((i + 1 : Nat) : Int))) :: (tx, W.listOf its.toArray nb7) :: (cl, W.listOf xs.toArray 0) :: (L + 1, oc) :: (wa, instObj 221 wd) :: (wd, dictOf es nd) :: (tb, tbo) :: R7)) ?_ ?_ _ ⟨k7 + 1, _, [], rfl, by omega, by omega, .nil, rfl, (fun _ h => nomatch h)⟩
  · rintro i3 v I3 oI3 C3 oC3 D3 m3 ys3 news3 h3 tk3 E3 hi3 ⟨t3, rfl⟩ ⟨k3, t3', l3, rfl, hk3, hk3', hy3, hl3, hs3⟩ hC3 hx3 F3 N3 off3 ne3
    have mk4 : Marker := trivial
    (try dsimp only)
    (repeat' (first | (k_unfold; (try dsimp only)) | (k_end; wrow_close) | ((with_reducible show wpAny _ _ (execs (_ :: _) _) _ _ ⟨_, _, _, _ + _, _⟩); refine absTok ?_; intro tk) | (with_reducible first | ((with_reducible show wpAny _ _ (call (Value.type _) _) _ _ _); (rename Mark2 => mk9; k_dflt (refine range1_rows (by k_asm) (by k_asm) ?_; intro h' tk' t1 u1 v1 R' F' N' keep'))) | (k_here; (with_reducible show wpAny _ _ (call (Value.ref 232) [Value.ref _, Value.int _ _]) _ _ _); k_dflt (refine Mine.dip_use (by k_asm) (by k_asm) (by k_asm) (by k_asm) (by k_asm) (by w_strict (first | exact rfl | assumption)) (by w_strict (k_updF)) (by w_strict (omega)) (by w_strict (omega)) (by w_strict (omega)) (by w_strict (omega)) (by is_list) (by assumption) (by w_strict (first | assumption | omega)) (by w_strict (first | assumption | k_ne)) (by k_room) (by k_units) ?_; intro j9 t9 t8 h9 tk9 hj9 hj8 F9 N9 keep9; (try dsimp only at N9); (try k_sweep); (try dsimp only))) | (k_here; (with_reducible show wpAny _ _ (subscriptTail _ _ (Value.str _ _) (Value.int _ _)) _ _ _); (refine item_any (by kopn_code) (by w_strict (omega)) (by w_strict (first | omega | ((try simp only [List.length_append, List.length_cons, List.length_nil]); omega))) (by w_strict (first | omega | (simp only [List.length_append, List.length_cons, List.length_nil]; omega))) ?_; intro c9 _ _ hc9))) | walk1 | (dsimp only; first | (with_reducible first | ((with_reducible show wpAny _ _ (call (Value.type _) _) _ _ _); (rename Mark2 => mk9; k_dflt (refine range1_rows (by k_asm) (by k_asm) ?_; intro h' tk' t1 u1 v1 R' F' N' keep'))) | (k_here; (with_reducible show wpAny _ _ (call (Value.ref 232) [Value.ref _, Value.int _ _]) _ _ _); k_dflt (refine Mine.dip_use (by k_asm) (by k_asm) (by k_asm) (by k_asm) (by k_asm) (by w_strict (first | exact rfl | assumption)) (by w_strict (k_updF)) (by w_strict (omega)) (by w_strict (omega)) (by w_strict (omega)) (by w_strict (omega)) (by is_list) (by assumption) (by w_strict (first | assumption | omega)) (by w_strict (first | assumption | k_ne)) (by k_room) (by k_units) ?_; intro j9 t9 t8 h9 tk9 hj9 hj8 F9 N9 keep9; (try dsimp only at N9); (try k_sweep); (try dsimp only))) | (k_here; (with_reducible show wpAny _ _ (subscriptTail _ _ (Value.str _ _) (Value.int _ _)) _ _ _); (refine item_any (by kopn_code) (by w_strict (omega)) (by w_strict (first | omega | ((try simp only [List.length_append, List.length_cons, List.length_nil]); omega))) (by w_strict (first | omega | (simp only [List.length_append, List.length_cons, List.length_nil]; omega))) ?_; intro c9 _ _ hc9))) | walk1) | (leave1; walk_say "STEP leave1"; try dsimp only) | fail "no step"))
    refine unstop ?_
    with_reducible (rename Marker => mk9; clear mk9)
    (refine' Mine.dip_use ?B ?F ?X ?N ?T ?k ?U ?h1 ?h2 ?h3 ?h4 ?h5 ?h6 ?h7 ?h8 ?d ?u ?_; (((case B => k_asm); (case F => k_asm); (case X => k_asm); (case N => k_asm); (case T => k_asm); (case k => first | exact rfl | assumption); (case d => k_room); (case u => k_units))); (case U => exact UpdF.tail (Ne.symm off3.1.1) (UpdF.tail (Ne.symm off3.1.2.1) (UpdF.tail (Ne.symm off3.1.2.2) (UpdF.head hrest)))); (case h1 => omega); (case h2 => omega); (case h3 => omega); (case h4 => omega); (case h5 => is_list); (case h6 => assumption); (case h7 => assumption); (case h8 => assumption); intro j9 t9 t8 h9 tk9 hj9 hj8 F9 N9 keep9; (try dsimp only at N9))
    (repeat' (first | (k_unfold; (try dsimp only)) | (k_end; wrow_close) | ((with_reducible show wpAny _ _ (execs (_ :: _) _) _ _ ⟨_, _, _, _ + _, _⟩); refine absTok ?_; intro tk) | (with_reducible first | ((with_reducible show wpAny _ _ (call (Value.type _) _) _ _ _); (rename Mark2 => mk9; k_dflt (refine range1_rows (by k_asm) (by k_asm) ?_; intro h' tk' t1 u1 v1 R' F' N' keep'))) | (k_here; (with_reducible show wpAny _ _ (call (Value.ref 232) [Value.ref _, Value.int _ _]) _ _ _); k_dflt (refine Mine.dip_use (by k_asm) (by k_asm) (by k_asm) (by k_asm) (by k_asm) (by w_strict (first | exact rfl | assumption)) (by w_strict (k_updF)) (by w_strict (omega)) (by w_strict (omega)) (by w_strict (omega)) (by w_strict (omega)) (by is_list) (by assumption) (by w_strict (first | assumption | omega)) (by w_strict (first | assumption | k_ne)) (by k_room) (by k_units) ?_; intro j9 t9 t8 h9 tk9 hj9 hj8 F9 N9 keep9; (try dsimp only at N9); (try k_sweep); (try dsimp only))) | (k_here; (with_reducible show wpAny _ _ (subscriptTail _ _ (Value.str _ _) (Value.int _ _)) _ _ _); (refine item_any (by kopn_code) (by w_strict (omega)) (by w_strict (first | omega | ((try simp only [List.length_append, List.length_cons, List.length_nil]); omega))) (by w_strict (first | omega | (simp only [List.length_append, List.length_cons, List.length_nil]; omega))) ?_; intro c9 _ _ hc9))) | walk1 | (dsimp only; first | (with_reducible first | ((with_reducible show wpAny _ _ (call (Value.type _) _) _ _ _); (rename Mark2 => mk9; k_dflt (refine range1_rows (by k_asm) (by k_asm) ?_; intro h' tk' t1 u1 v1 R' F' N' keep'))) | (k_here; (with_reducible show wpAny _ _ (call (Value.ref 232) [Value.ref _, Value.int _ _]) _ _ _); k_dflt (refine Mine.dip_use (by k_asm) (by k_asm) (by k_asm) (by k_asm) (by k_asm) (by w_strict (first | exact rfl | assumption)) (by w_strict (k_updF)) (by w_strict (omega)) (by w_strict (omega)) (by w_strict (omega)) (by w_strict (omega)) (by is_list) (by assumption) (by w_strict (first | assumption | omega)) (by w_strict (first | assumption | k_ne)) (by k_room) (by k_units) ?_; intro j9 t9 t8 h9 tk9 hj9 hj8 F9 N9 keep9; (try dsimp only at N9); (try k_sweep); (try dsimp only))) | (k_here; (with_reducible show wpAny _ _ (subscriptTail _ _ (Value.str _ _) (Value.int _ _)) _ _ _); (refine item_any (by kopn_code) (by w_strict (omega)) (by w_strict (first | omega | ((try simp only [List.length_append, List.length_cons, List.length_nil]); omega))) (by w_strict (first | omega | (simp only [List.length_append, List.length_cons, List.length_nil]; omega))) ?_; intro c9 _ _ hc9))) | walk1) | (leave1; walk_say "STEP leave1"; try dsimp only) | fail "no step"))
    with_reducible (rename _[_]? = _ => hc9)
    exact LCg.CompEnd.intro F9 N9 _ (fun _ h => h) off3 trivial (Jc.snoc hk3 hk3' rfl hy3 hl3 hs3 hc9)
  · rintro ys news4 ⟨k4, t4, l4, rfl, hk4, hk4', hy4, hl4, hs4⟩
    (repeat' (first | (k_unfold; (try dsimp only)) | (k_end; wrow_close) | ((with_reducible show wpAny _ _ (execs (_ :: _) _) _ _ ⟨_, _, _, _ + _, _⟩); refine absTok ?_; intro tk) | (with_reducible first | ((with_reducible show wpAny _ _ (call (Value.type _) _) _ _ _); (rename Mark2 => mk9; k_dflt (refine range1_rows (by k_asm) (by k_asm) ?_; intro h' tk' t1 u1 v1 R' F' N' keep'))) | (k_here; (with_reducible show wpAny _ _ (call (Value.ref 232) [Value.ref _, Value.int _ _]) _ _ _); k_dflt (refine Mine.dip_use (by k_asm) (by k_asm) (by k_asm) (by k_asm) (by k_asm) (by w_strict (first | exact rfl | assumption)) (by w_strict (k_updF)) (by w_strict (omega)) (by w_strict (omega)) (by w_strict (omega)) (by w_strict (omega)) (by is_list) (by assumption) (by w_strict (first | assumption | omega)) (by w_strict (first | assumption | k_ne)) (by k_room) (by k_units) ?_; intro j9 t9 t8 h9 tk9 hj9 hj8 F9 N9 keep9; (try dsimp only at N9); (try k_sweep); (try dsimp only))) | (k_here; (with_reducible show wpAny _ _ (subscriptTail _ _ (Value.str _ _) (Value.int _ _)) _ _ _); (refine item_any (by kopn_code) (by w_strict (omega)) (by w_strict (first | omega | ((try simp only [List.length_append, List.length_cons, List.length_nil]); omega))) (by w_strict (first | omega | (simp only [List.length_append, List.length_cons, List.length_nil]; omega))) ?_; intro c9 _ _ hc9))) | walk1 | (dsimp only; first | (with_reducible first | ((with_reducible show wpAny _ _ (call (Value.type _) _) _ _ _); (rename Mark2 => mk9; k_dflt (refine range1_rows (by k_asm) (by k_asm) ?_; intro h' tk' t1 u1 v1 R' F' N' keep'))) | (k_here; (with_reducible show wpAny _ _ (call (Value.ref 232) [Value.ref _, Value.int _ _]) _ _ _); k_dflt (refine Mine.dip_use (by k_asm) (by k_asm) (by k_asm) (by k_asm) (by k_asm) (by w_strict (first | exact rfl | assumption)) (by w_strict (k_updF)) (by w_strict (omega)) (by w_strict (omega)) (by w_strict (omega)) (by w_strict (omega)) (by is_list) (by assumption) (by w_strict (first | assumption | omega)) (by w_strict (first | assumption | k_ne)) (by k_room) (by k_units) ?_; intro j9 t9 t8 h9 tk9 hj9 hj8 F9 N9 keep9; (try dsimp only at N9); (try k_sweep); (try dsimp only))) | (k_here; (with_reducible show wpAny _ _ (subscriptTail _ _ (Value.str _ _) (Value.int _ _)) _ _ _); (refine item_any (by kopn_code) (by w_strict (omega)) (by w_strict (first | omega | ((try simp only [List.length_append, List.length_cons, List.length_nil]); omega))) (by w_strict (first | omega | (simp only [List.length_append, List.length_cons, List.length_nil]; omega))) ?_; intro c9 _ _ hc9))) | walk1) | (leave1; walk_say "STEP leave1"; try dsimp only) | fail "no step"))
    refine join_S lit_nil (by is_list) hy4 (by rw [flat1]; omega) ?_
    intro tqa kqa
    rw [flat1]
    (try dsimp only)
    (repeat' (first | (k_unfold; (try dsimp only)) | (k_end; wrow_close) | ((with_reducible show wpAny _ _ (execs (_ :: _) _) _ _ ⟨_, _, _, _ + _, _⟩); refine absTok ?_; intro tk) | (with_reducible first | ((with_reducible show wpAny _ _ (call (Value.type _) _) _ _ _); (rename Mark2 => mk9; k_dflt (refine range1_rows (by k_asm) (by k_asm) ?_; intro h' tk' t1 u1 v1 R' F' N' keep'))) | (k_here; (with_reducible show wpAny _ _ (call (Value.ref 232) [Value.ref _, Value.int _ _]) _ _ _); k_dflt (refine Mine.dip_use (by k_asm) (by k_asm) (by k_asm) (by k_asm) (by k_asm) (by w_strict (first | exact rfl | assumption)) (by w_strict (k_updF)) (by w_strict (omega)) (by w_strict (omega)) (by w_strict (omega)) (by w_strict (omega)) (by is_list) (by assumption) (by w_strict (first | assumption | omega)) (by w_strict (first | assumption | k_ne)) (by k_room) (by k_units) ?_; intro j9 t9 t8 h9 tk9 hj9 hj8 F9 N9 keep9; (try dsimp only at N9); (try k_sweep); (try dsimp only))) | (k_here; (with_reducible show wpAny _ _ (subscriptTail _ _ (Value.str _ _) (Value.int _ _)) _ _ _); (refine item_any (by kopn_code) (by w_strict (omega)) (by w_strict (first | omega | ((try simp only [List.length_append, List.length_cons, List.length_nil]); omega))) (by w_strict (first | omega | (simp only [List.length_append, List.length_cons, List.length_nil]; omega))) ?_; intro c9 _ _ hc9))) | walk1 | (dsimp only; first | (with_reducible first | ((with_reducible show wpAny _ _ (call (Value.type _) _) _ _ _); (rename Mark2 => mk9; k_dflt (refine range1_rows (by k_asm) (by k_asm) ?_; intro h' tk' t1 u1 v1 R' F' N' keep'))) | (k_here; (with_reducible show wpAny _ _ (call (Value.ref 232) [Value.ref _, Value.int _ _]) _ _ _); k_dflt (refine Mine.dip_use (by k_asm) (by k_asm) (by k_asm) (by k_asm) (by k_asm) (by w_strict (first | exact rfl | assumption)) (by w_strict (k_updF)) (by w_strict (omega)) (by w_strict (omega)) (by w_strict (omega)) (by w_strict (omega)) (by is_list) (by assumption) (by w_strict (first | assumption | omega)) (by w_strict (first | assumption | k_ne)) (by k_room) (by k_units) ?_; intro j9 t9 t8 h9 tk9 hj9 hj8 F9 N9 keep9; (try dsimp only at N9); (try k_sweep); (try dsimp only))) | (k_here; (with_reducible show wpAny _ _ (subscriptTail _ _ (Value.str _ _) (Value.int _ _)) _ _ _); (refine item_any (by kopn_code) (by w_strict (omega)) (by w_strict (first | omega | ((try simp only [List.length_append, List.length_cons, List.length_nil]); omega))) (by w_strict (first | omega | (simp only [List.length_append, List.length_cons, List.length_nil]; omega))) ?_; intro c9 _ _ hc9))) | walk1) | (leave1; walk_say "STEP leave1"; try dsimp only) | fail "no step"))
    refine unstop ?_
    with_reducible (rename _ ∧ _ => oA)
    refine' append_K ?F ?N ?U ?_ ?z
    case F => k_asm
    case N => k_asm
    case U => exact Upd.tail (Ne.symm oA.2.2.1) (Upd.tail o6 (Upd.tail (Nat.ne_of_gt hItx) (Upd.head (List.forall_mem_cons.mpr ⟨Ne.symm o18, List.forall_mem_cons.mpr ⟨Ne.symm o15, List.forall_mem_cons.mpr ⟨Ne.symm o16, List.forall_mem_cons.mpr ⟨Ne.symm o17, List.forall_mem_cons.mpr ⟨o7, fun p hp => off7 p hp _ (.tail _ (.tail _ (.head _)))⟩⟩⟩⟩⟩))))
    case z => (show its.toArray.size ≤ _); rw [List.size_toArray, StrsAre.len_eq hsA, List.length_map, hps, sizeLine_eq]; omega
    clear oA
    intro h4 F4 N4
    (repeat' (first | (k_unfold; (try dsimp only)) | (k_end; wrow_close) | ((with_reducible show wpAny _ _ (execs (_ :: _) _) _ _ ⟨_, _, _, _ + _, _⟩); refine absTok ?_; intro tk) | (with_reducible first | ((with_reducible show wpAny _ _ (call (Value.type _) _) _ _ _); (rename Mark2 => mk9; k_dflt (refine range1_rows (by k_asm) (by k_asm) ?_; intro h' tk' t1 u1 v1 R' F' N' keep'))) | (k_here; (with_reducible show wpAny _ _ (call (Value.ref 232) [Value.ref _, Value.int _ _]) _ _ _); k_dflt (refine Mine.dip_use (by k_asm) (by k_asm) (by k_asm) (by k_asm) (by k_asm) (by w_strict (first | exact rfl | assumption)) (by w_strict (k_updF)) (by w_strict (omega)) (by w_strict (omega)) (by w_strict (omega)) (by w_strict (omega)) (by is_list) (by assumption) (by w_strict (first | assumption | omega)) (by w_strict (first | assumption | k_ne)) (by k_room) (by k_units) ?_; intro j9 t9 t8 h9 tk9 hj9 hj8 F9 N9 keep9; (try dsimp only at N9); (try k_sweep); (try dsimp only))) | (k_here; (with_reducible show wpAny _ _ (subscriptTail _ _ (Value.str _ _) (Value.int _ _)) _ _ _); (refine item_any (by kopn_code) (by w_strict (omega)) (by w_strict (first | omega | ((try simp only [List.length_append, List.length_cons, List.length_nil]); omega))) (by w_strict (first | omega | (simp only [List.length_append, List.length_cons, List.length_nil]; omega))) ?_; intro c9 _ _ hc9))) | walk1 | (dsimp only; first | (with_reducible first | ((with_reducible show wpAny _ _ (call (Value.type _) _) _ _ _); (rename Mark2 => mk9; k_dflt (refine range1_rows (by k_asm) (by k_asm) ?_; intro h' tk' t1 u1 v1 R' F' N' keep'))) | (k_here; (with_reducible show wpAny _ _ (call (Value.ref 232) [Value.ref _, Value.int _ _]) _ _ _); k_dflt (refine Mine.dip_use (by k_asm) (by k_asm) (by k_asm) (by k_asm) (by k_asm) (by w_strict (first | exact rfl | assumption)) (by w_strict (k_updF)) (by w_strict (omega)) (by w_strict (omega)) (by w_strict (omega)) (by w_strict (omega)) (by is_list) (by assumption) (by w_strict (first | assumption | omega)) (by w_strict (first | assumption | k_ne)) (by k_room) (by k_units) ?_; intro j9 t9 t8 h9 tk9 hj9 hj8 F9 N9 keep9; (try dsimp only at N9); (try k_sweep); (try dsimp only))) | (k_here; (with_reducible show wpAny _ _ (subscriptTail _ _ (Value.str _ _) (Value.int _ _)) _ _ _); (refine item_any (by kopn_code) (by w_strict (omega)) (by w_strict (first | omega | ((try simp only [List.length_append, List.length_cons, List.length_nil]); omega))) (by w_strict (first | omega | (simp only [List.length_append, List.length_cons, List.length_nil]; omega))) ?_; intro c9 _ _ hc9))) | walk1) | (leave1; walk_say "STEP leave1"; try dsimp only) | fail "no step"))
    refine unstop ?_
    with_reducible (rename Fr _ _ _ _ => F4; rename News _ _ _ _ => N4)
    exact J3.step (K := ⟨wl, cl, L + 1, wa, wd, tb, tx, oc, xs, es, nd⟩) F4 N4 o8' sub7 off7 (by omega) (by omega) hsA hps ⟨by omega, by omega, hs4⟩ hpsR (by exact rfl) (by exact rfl) (by exact rfl)
end

theorem off_law1 : True := by w_top off; exact trivial
section
local macro_rules | `(tactic| walk_at "zz") => `(tactic| skip)
local macro_rules | `(tactic| walk_at "pyIter ref") => `(tactic| (rename Mark2 => mk9; refine stop ?_))
local macro_rules | `(tactic| walk_at "exec For Name Call cons nil") => `(tactic| (k_here; rename Mark2 => mk9; refine stop ?_))
local macro_rules | `(tactic| walk_at "eval ListComp") => `(tactic| (k_here; (with_reducible show wpAny _ _ (eval (Expr.ListComp _ [⟨_, _, [], _⟩] _ _) _) _ _ _); refine stop ?_))
local macro_rules | `(tactic| walk_at "CompSrc") => `(tactic| (refine stop ?_))
local macro_rules | `(tactic| walk_at "call builtin:list.append") => `(tactic| (k_here; refine stop ?_))
local macro_rules | `(tactic| walk_at "JPost") => `(tactic| (refine stop ?_))
set_option maxHeartbeats 8000000 in
theorem chunk1 (w : World) (mean mg mb) (K : LawK) (is : List Int) (ok : K.Ok is) (ox : Obj) {base g h : Heap} {L fa : Addr} {cdv : Value} {m : Str → Option Value} {k : Int} {t : Tok} {nn nb : Nat} {R : List (Addr × Obj)} {s : Shared} {Q : Flow → Shared → Prop} {Er : Value → Shared → Prop} {tk : Nat}
    (B : Below callerA base [] g) (X : (kf w.params).In g) (T : Top vw lz mean mg mb g) (F : Fr g L h m) (N : News g L h (K.well 0 t nn :: (K.tb, W.listOf #[] nb) :: K.rest ox R)) (hR : OwnOff R [K.wl, K.tb, K.tx])
    (m1 : m "world" = some (.ref K.wa)) (m2 : m "tables" = some (.ref K.tb)) (m3 : m "texts" = some (.ref K.tx)) (wc : K.wc = L + 1)
    (ret : ∀ h tk m news, J1 K ox 2 m news → Fr g L h m → News g L h news → Q .next { s with heap := h, toks := tk }) :
    wpAny (model pg w) (callerA.deeper (lawEnv L fa cdv)) (exec (lawAt 1) (lawEnv L fa cdv)) Q (LawE w L fa cdv Er) { s with heap := h, toks := tk } := by
  obtain ⟨wl, cl, wc', wa, wd, tb, tx, oc, xs, es, nd⟩ := K
  dsimp only [LawK.well, LawK.rest] at *
  subst wc
  obtain ⟨sc, hsc⟩ : ∃ sc, lawScope = sc := ⟨_, rfl⟩
  obtain ⟨st, hst⟩ : ∃ st, lawAt 1 = st := ⟨_, rfl⟩
  unfold LawE lawEnv
  rw [hsc, hst]
  conv at hsc => lhs; whnf
  conv at hst => lhs; whnf
  (try dsimp only at hsc)
  (try dsimp only at hst)
  subst hsc hst
  rw [map3 m1 m2 m3] at F
  refine here_in ?_
  k_fill
  intro _
  refine For_invVF F (by exact rfl) (by exact rfl) ?_
  have mk2 : Mark2 := trivial
  (repeat' (first | (k_unfold; (try dsimp only)) | (k_end; wrow_close) | ((with_reducible show wpAny _ _ (execs (_ :: _) _) _ _ ⟨_, _, _, _ + _, _⟩); refine absTok ?_; intro tk) | (with_reducible first | (k_here; (with_reducible show wpAny _ _ (subscriptTail _ _ (Value.ref _) (Value.int _ _)) _ _ _); k_dflt (refine item_tupleT (by w_strict (exact News.isTup (by k_asm) (by (repeat (first | assumption | refine List.Mem.tail _ ?_))))) (by decide) (by decide) (by rfl) (by rfl) ?_; k_whole)) | ((with_reducible show wpAny _ _ (call (Value.type _) _) _ _ _); (rename Mark2 => mk9; k_dflt (refine range1_rows (by k_asm) (by k_asm) ?_; intro h' tk' t1 u1 v1 R' F' N' keep'))) | (k_here; (with_reducible show wpAny _ _ (call (Value.ref 232) [Value.ref _, Value.int _ _]) _ _ _); k_dflt (refine Mine.dip_use (by k_asm) (by k_asm) (by k_asm) (by k_asm) (by k_asm) (by w_strict (first | exact rfl | assumption)) (by w_strict (k_updF)) (by w_strict (omega)) (by w_strict (omega)) (by w_strict (omega)) (by w_strict (omega)) (by is_list) (by assumption) (by w_strict (first | assumption | omega)) (by w_strict (first | assumption | k_ne)) (by k_room) (by k_units) ?_; intro j9 t9 t8 h9 tk9 hj9 hj8 F9 N9 keep9; (try dsimp only at N9); (try k_sweep); (try dsimp only))) | (k_here; (with_reducible show wpAny _ _ (subscriptTail _ _ (Value.str _ _) (Value.int _ _)) _ _ _); (refine item_any (by kopn_code) (by w_strict (omega)) (by w_strict (first | omega | ((try simp only [List.length_append, List.length_cons, List.length_nil]); omega))) (by w_strict (first | omega | (simp only [List.length_append, List.length_cons, List.length_nil]; omega))) ?_; intro c9 _ _ hc9))) | walk1 | (dsimp only; first | (with_reducible first | (k_here; (with_reducible show wpAny _ _ (subscriptTail _ _ (Value.ref _) (Value.int _ _)) _ _ _); k_dflt (refine item_tupleT (by w_strict (exact News.isTup (by k_asm) (by (repeat (first | assumption | refine List.Mem.tail _ ?_))))) (by decide) (by decide) (by rfl) (by rfl) ?_; k_whole)) | ((with_reducible show wpAny _ _ (call (Value.type _) _) _ _ _); (rename Mark2 => mk9; k_dflt (refine range1_rows (by k_asm) (by k_asm) ?_; intro h' tk' t1 u1 v1 R' F' N' keep'))) | (k_here; (with_reducible show wpAny _ _ (call (Value.ref 232) [Value.ref _, Value.int _ _]) _ _ _); k_dflt (refine Mine.dip_use (by k_asm) (by k_asm) (by k_asm) (by k_asm) (by k_asm) (by w_strict (first | exact rfl | assumption)) (by w_strict (k_updF)) (by w_strict (omega)) (by w_strict (omega)) (by w_strict (omega)) (by w_strict (omega)) (by is_list) (by assumption) (by w_strict (first | assumption | omega)) (by w_strict (first | assumption | k_ne)) (by k_room) (by k_units) ?_; intro j9 t9 t8 h9 tk9 hj9 hj8 F9 N9 keep9; (try dsimp only at N9); (try k_sweep); (try dsimp only))) | (k_here; (with_reducible show wpAny _ _ (subscriptTail _ _ (Value.str _ _) (Value.int _ _)) _ _ _); (refine item_any (by kopn_code) (by w_strict (omega)) (by w_strict (first | omega | ((try simp only [List.length_append, List.length_cons, List.length_nil]); omega))) (by w_strict (first | omega | (simp only [List.length_append, List.length_cons, List.length_nil]; omega))) ?_; intro c9 _ _ hc9))) | walk1) | (leave1; walk_say "STEP leave1"; try dsimp only) | fail "no step"))
  refine unstop ?_
  with_reducible (rename Mark2 => mk9; clear mk9; rename IsRange _ _ _ _ _ _ _ _ => R9; rename Fr _ _ _ _ => F9; rename News _ _ _ _ => N9)
  refine iter_rangeUnr (n := 2) rfl R9 (by decide) (by decide) F9 N9 (fun I hI => ?_)
  have hIwl : @LT.lt Nat _ wl I := hI _ (.head _)
  have hItb : @LT.lt Nat _ tb I := hI _ (.tail _ (.head _))
  have hItx : @LT.lt Nat _ tx I := hI (tx, ox) (by k_mem)
  refine range_inv (J1 ⟨wl, cl, L + 1, wa, wd, tb, tx, oc, xs, es, nd⟩ ox) (fun i hi t8 h8 tk8 m8 news8 J8 o8' F8 N8 => ?_) (fun h8 tk8 m8 news8 J8 F8 N8 => ret h8 tk8 m8 news8 J8 F8 N8) 2 0 _ _ rfl (fun p hp => Nat.ne_of_lt (hI p hp)) ⟨0, t, nn, nb, R, [], rfl, hR, by omega, by omega, rfl, (fun _ h => nomatch h), by exact rfl, by exact rfl, by exact rfl⟩
  obtain ⟨k, t7, nn7, nb7, R7, ps, rfl, off7, hk0, hk1, hps, hpsR, a1, a2, a3⟩ := J8
  dsimp only [LawK.well, LawK.rest] at *
  rw [map3 a1 a2 a3] at F8
  clear F9 N9 R9
  (try clear N)
  obtain ⟨o1, o2, o3, o4, o5', o6, o7, ⟨o8, o9, o10⟩, ⟨o11, o12, o13, o14⟩, o15, o16, o17, o18⟩ := ok
  dsimp only at *
  have mk3 : Mark2 := trivial
  (repeat' (first | (k_unfold; (try dsimp only)) | (k_end; wrow_close) | ((with_reducible show wpAny _ _ (execs (_ :: _) _) _ _ ⟨_, _, _, _ + _, _⟩); refine absTok ?_; intro tk) | (with_reducible first | (k_here; (with_reducible show wpAny _ _ (subscriptTail _ _ (Value.ref _) (Value.int _ _)) _ _ _); k_dflt (refine item_tupleT (by w_strict (exact News.isTup (by k_asm) (by (repeat (first | assumption | refine List.Mem.tail _ ?_))))) (by decide) (by decide) (by rfl) (by rfl) ?_; k_whole)) | ((with_reducible show wpAny _ _ (call (Value.type _) _) _ _ _); (rename Mark2 => mk9; k_dflt (refine range1_rows (by k_asm) (by k_asm) ?_; intro h' tk' t1 u1 v1 R' F' N' keep'))) | (k_here; (with_reducible show wpAny _ _ (call (Value.ref 232) [Value.ref _, Value.int _ _]) _ _ _); k_dflt (refine Mine.dip_use (by k_asm) (by k_asm) (by k_asm) (by k_asm) (by k_asm) (by w_strict (first | exact rfl | assumption)) (by w_strict (k_updF)) (by w_strict (omega)) (by w_strict (omega)) (by w_strict (omega)) (by w_strict (omega)) (by is_list) (by assumption) (by w_strict (first | assumption | omega)) (by w_strict (first | assumption | k_ne)) (by k_room) (by k_units) ?_; intro j9 t9 t8 h9 tk9 hj9 hj8 F9 N9 keep9; (try dsimp only at N9); (try k_sweep); (try dsimp only))) | (k_here; (with_reducible show wpAny _ _ (subscriptTail _ _ (Value.str _ _) (Value.int _ _)) _ _ _); (refine item_any (by kopn_code) (by w_strict (omega)) (by w_strict (first | omega | ((try simp only [List.length_append, List.length_cons, List.length_nil]); omega))) (by w_strict (first | omega | (simp only [List.length_append, List.length_cons, List.length_nil]; omega))) ?_; intro c9 _ _ hc9))) | walk1 | (dsimp only; first | (with_reducible first | (k_here; (with_reducible show wpAny _ _ (subscriptTail _ _ (Value.ref _) (Value.int _ _)) _ _ _); k_dflt (refine item_tupleT (by w_strict (exact News.isTup (by k_asm) (by (repeat (first | assumption | refine List.Mem.tail _ ?_))))) (by decide) (by decide) (by rfl) (by rfl) ?_; k_whole)) | ((with_reducible show wpAny _ _ (call (Value.type _) _) _ _ _); (rename Mark2 => mk9; k_dflt (refine range1_rows (by k_asm) (by k_asm) ?_; intro h' tk' t1 u1 v1 R' F' N' keep'))) | (k_here; (with_reducible show wpAny _ _ (call (Value.ref 232) [Value.ref _, Value.int _ _]) _ _ _); k_dflt (refine Mine.dip_use (by k_asm) (by k_asm) (by k_asm) (by k_asm) (by k_asm) (by w_strict (first | exact rfl | assumption)) (by w_strict (k_updF)) (by w_strict (omega)) (by w_strict (omega)) (by w_strict (omega)) (by w_strict (omega)) (by is_list) (by assumption) (by w_strict (first | assumption | omega)) (by w_strict (first | assumption | k_ne)) (by k_room) (by k_units) ?_; intro j9 t9 t8 h9 tk9 hj9 hj8 F9 N9 keep9; (try dsimp only at N9); (try k_sweep); (try dsimp only))) | (k_here; (with_reducible show wpAny _ _ (subscriptTail _ _ (Value.str _ _) (Value.int _ _)) _ _ _); (refine item_any (by kopn_code) (by w_strict (omega)) (by w_strict (first | omega | ((try simp only [List.length_append, List.length_cons, List.length_nil]); omega))) (by w_strict (first | omega | (simp only [List.length_append, List.length_cons, List.length_nil]; omega))) ?_; intro c9 _ _ hc9))) | walk1) | (leave1; walk_say "STEP leave1"; try dsimp only) | fail "no step"))
  refine unstop ?_
  with_reducible (rename Fr _ _ _ _ => F7; rename News _ _ _ _ => N7; rename _ ∧ _ => l7)
  refine For_invVF F7 (by exact rfl) (by exact rfl) ?_
  (repeat' (first | (k_unfold; (try dsimp only)) | (k_end; wrow_close) | ((with_reducible show wpAny _ _ (execs (_ :: _) _) _ _ ⟨_, _, _, _ + _, _⟩); refine absTok ?_; intro tk) | (with_reducible first | (k_here; (with_reducible show wpAny _ _ (subscriptTail _ _ (Value.ref _) (Value.int _ _)) _ _ _); k_dflt (refine item_tupleT (by w_strict (exact News.isTup (by k_asm) (by (repeat (first | assumption | refine List.Mem.tail _ ?_))))) (by decide) (by decide) (by rfl) (by rfl) ?_; k_whole)) | ((with_reducible show wpAny _ _ (call (Value.type _) _) _ _ _); (rename Mark2 => mk9; k_dflt (refine range1_rows (by k_asm) (by k_asm) ?_; intro h' tk' t1 u1 v1 R' F' N' keep'))) | (k_here; (with_reducible show wpAny _ _ (call (Value.ref 232) [Value.ref _, Value.int _ _]) _ _ _); k_dflt (refine Mine.dip_use (by k_asm) (by k_asm) (by k_asm) (by k_asm) (by k_asm) (by w_strict (first | exact rfl | assumption)) (by w_strict (k_updF)) (by w_strict (omega)) (by w_strict (omega)) (by w_strict (omega)) (by w_strict (omega)) (by is_list) (by assumption) (by w_strict (first | assumption | omega)) (by w_strict (first | assumption | k_ne)) (by k_room) (by k_units) ?_; intro j9 t9 t8 h9 tk9 hj9 hj8 F9 N9 keep9; (try dsimp only at N9); (try k_sweep); (try dsimp only))) | (k_here; (with_reducible show wpAny _ _ (subscriptTail _ _ (Value.str _ _) (Value.int _ _)) _ _ _); (refine item_any (by kopn_code) (by w_strict (omega)) (by w_strict (first | omega | ((try simp only [List.length_append, List.length_cons, List.length_nil]); omega))) (by w_strict (first | omega | (simp only [List.length_append, List.length_cons, List.length_nil]; omega))) ?_; intro c9 _ _ hc9))) | walk1 | (dsimp only; first | (with_reducible first | (k_here; (with_reducible show wpAny _ _ (subscriptTail _ _ (Value.ref _) (Value.int _ _)) _ _ _); k_dflt (refine item_tupleT (by w_strict (exact News.isTup (by k_asm) (by (repeat (first | assumption | refine List.Mem.tail _ ?_))))) (by decide) (by decide) (by rfl) (by rfl) ?_; k_whole)) | ((with_reducible show wpAny _ _ (call (Value.type _) _) _ _ _); (rename Mark2 => mk9; k_dflt (refine range1_rows (by k_asm) (by k_asm) ?_; intro h' tk' t1 u1 v1 R' F' N' keep'))) | (k_here; (with_reducible show wpAny _ _ (call (Value.ref 232) [Value.ref _, Value.int _ _]) _ _ _); k_dflt (refine Mine.dip_use (by k_asm) (by k_asm) (by k_asm) (by k_asm) (by k_asm) (by w_strict (first | exact rfl | assumption)) (by w_strict (k_updF)) (by w_strict (omega)) (by w_strict (omega)) (by w_strict (omega)) (by w_strict (omega)) (by is_list) (by assumption) (by w_strict (first | assumption | omega)) (by w_strict (first | assumption | k_ne)) (by k_room) (by k_units) ?_; intro j9 t9 t8 h9 tk9 hj9 hj8 F9 N9 keep9; (try dsimp only at N9); (try k_sweep); (try dsimp only))) | (k_here; (with_reducible show wpAny _ _ (subscriptTail _ _ (Value.str _ _) (Value.int _ _)) _ _ _); (refine item_any (by kopn_code) (by w_strict (omega)) (by w_strict (first | omega | ((try simp only [List.length_append, List.length_cons, List.length_nil]); omega))) (by w_strict (first | omega | (simp only [List.length_append, List.length_cons, List.length_nil]; omega))) ?_; intro c9 _ _ hc9))) | walk1) | (leave1; walk_say "STEP leave1"; try dsimp only) | fail "no step"))
  refine unstop ?_
  with_reducible (rename Mark2 => mk9; clear mk9; rename IsRange _ _ _ _ _ _ _ _ => R9; rename Fr _ _ _ _ => F6; rename News _ _ _ _ => N6)
  rename 0 ≤ _ => hj0
  rename _ < (4 : Int) => hj4
  obtain ⟨jn, hjn⟩ := Int.eq_ofNat_of_zero_le hj0
  subst hjn
  obtain ⟨r1, r2⟩ := rng4 jn (by omega)
  obtain ⟨p1, p2, p3, p4, p5, p6, p7, p8, p9⟩ := l7
  have p9' := allLt_all p9
  have offR : OwnOff ((I, itR (0 + ((i + 1 : Nat) : Int)) (((2 : Nat) : Int) - ((i + 1 : Nat) : Int))) :: R7) [wl, _, tb, tx] := OwnOff.more (fun p hp b hb => by
    simp only [List.mem_cons, List.not_mem_nil, or_false] at hb
    rcases hb with rfl | rfl | rfl | rfl
    · exact off7 p hp _ (.head _)
    · exact p9' p hp
    · exact off7 p hp _ (.tail _ (.head _))
    · exact off7 p hp _ (.tail _ (.tail _ (.head _)))) (fun b hb => by
    simp only [List.mem_cons, List.not_mem_nil, or_false] at hb
    rcases hb with rfl | rfl | rfl | rfl
    · exact Nat.ne_of_gt hIwl
    · exact Nat.ne_of_lt p1
    · exact Nat.ne_of_gt hItb
    · exact Nat.ne_of_gt hItx)
  refine iter_rangeUnr (n := 1 + jn) rfl R9 r1 r2 F6 (news_perm1 N6) (fun I2 hI2 => ?_)
  have hJwl : @LT.lt Nat _ wl I2 := hI2 _ (.head _)
  have hJpl : @LT.lt Nat _ _ I2 := hI2 _ (.tail _ (.head _))
  have hJtb : @LT.lt Nat _ tb I2 := hI2 _ (.tail _ (.tail _ (.head _)))
  have hJtx : @LT.lt Nat _ tx I2 := hI2 (tx, ox) (by k_mem)
  refine range_inv (J2 ⟨wl, cl, L + 1, wa, wd, tb, tx, oc, xs, es, nd⟩ ox (W.listOf (ps.map fun q => Value.ref q.1).toArray nb7) _ (k + 1) ((I, itR (0 + ((i + 1 : Nat) : Int)) (((2 : Nat) : Int) - ((i + 1 : Nat) : Int))) :: R7)) (fun i2 hi2 t5 h5 tk5 m5 news5 J5 o5 F5 N5 => ?_) (fun h5 tk5 m5 news5 J5 F5 N5 => ?_) (1 + jn) 0 _ _ (by omega) (fun p hp => Nat.ne_of_lt (hI2 p hp)) ⟨k + 1, _, nn7, 0, _, [], rfl, offR, (fun _ h => h), Int.le_refl _, by omega, rfl, (fun _ h => nomatch h), by exact rfl, by exact rfl, by exact rfl, by exact rfl⟩
  · obtain ⟨k5, t5', nn5, nq5, R5, qs, rfl, off5, sub5, hk5, hk5', hqs, hqR, b1, b2, b3, b4⟩ := J5
    dsimp only [LawK.well, LawK.rest] at *
    rw [map4 b1 b2 b3 b4] at F5
    clear F6 N6 R9
    (repeat' (first | (k_unfold; (try dsimp only)) | (k_end; wrow_close) | ((with_reducible show wpAny _ _ (execs (_ :: _) _) _ _ ⟨_, _, _, _ + _, _⟩); refine absTok ?_; intro tk) | (with_reducible first | (k_here; (with_reducible show wpAny _ _ (subscriptTail _ _ (Value.ref _) (Value.int _ _)) _ _ _); k_dflt (refine item_tupleT (by w_strict (exact News.isTup (by k_asm) (by (repeat (first | assumption | refine List.Mem.tail _ ?_))))) (by decide) (by decide) (by rfl) (by rfl) ?_; k_whole)) | ((with_reducible show wpAny _ _ (call (Value.type _) _) _ _ _); (rename Mark2 => mk9; k_dflt (refine range1_rows (by k_asm) (by k_asm) ?_; intro h' tk' t1 u1 v1 R' F' N' keep'))) | (k_here; (with_reducible show wpAny _ _ (call (Value.ref 232) [Value.ref _, Value.int _ _]) _ _ _); k_dflt (refine Mine.dip_use (by k_asm) (by k_asm) (by k_asm) (by k_asm) (by k_asm) (by w_strict (first | exact rfl | assumption)) (by w_strict (k_updF)) (by w_strict (omega)) (by w_strict (omega)) (by w_strict (omega)) (by w_strict (omega)) (by is_list) (by assumption) (by w_strict (first | assumption | omega)) (by w_strict (first | assumption | k_ne)) (by k_room) (by k_units) ?_; intro j9 t9 t8 h9 tk9 hj9 hj8 F9 N9 keep9; (try dsimp only at N9); (try k_sweep); (try dsimp only))) | (k_here; (with_reducible show wpAny _ _ (subscriptTail _ _ (Value.str _ _) (Value.int _ _)) _ _ _); (refine item_any (by kopn_code) (by w_strict (omega)) (by w_strict (first | omega | ((try simp only [List.length_append, List.length_cons, List.length_nil]); omega))) (by w_strict (first | omega | (simp only [List.length_append, List.length_cons, List.length_nil]; omega))) ?_; intro c9 _ _ hc9))) | walk1 | (dsimp only; first | (with_reducible first | (k_here; (with_reducible show wpAny _ _ (subscriptTail _ _ (Value.ref _) (Value.int _ _)) _ _ _); k_dflt (refine item_tupleT (by w_strict (exact News.isTup (by k_asm) (by (repeat (first | assumption | refine List.Mem.tail _ ?_))))) (by decide) (by decide) (by rfl) (by rfl) ?_; k_whole)) | ((with_reducible show wpAny _ _ (call (Value.type _) _) _ _ _); (rename Mark2 => mk9; k_dflt (refine range1_rows (by k_asm) (by k_asm) ?_; intro h' tk' t1 u1 v1 R' F' N' keep'))) | (k_here; (with_reducible show wpAny _ _ (call (Value.ref 232) [Value.ref _, Value.int _ _]) _ _ _); k_dflt (refine Mine.dip_use (by k_asm) (by k_asm) (by k_asm) (by k_asm) (by k_asm) (by w_strict (first | exact rfl | assumption)) (by w_strict (k_updF)) (by w_strict (omega)) (by w_strict (omega)) (by w_strict (omega)) (by w_strict (omega)) (by is_list) (by assumption) (by w_strict (first | assumption | omega)) (by w_strict (first | assumption | k_ne)) (by k_room) (by k_units) ?_; intro j9 t9 t8 h9 tk9 hj9 hj8 F9 N9 keep9; (try dsimp only at N9); (try k_sweep); (try dsimp only))) | (k_here; (with_reducible show wpAny _ _ (subscriptTail _ _ (Value.str _ _) (Value.int _ _)) _ _ _); (refine item_any (by kopn_code) (by w_strict (omega)) (by w_strict (first | omega | ((try simp only [List.length_append, List.length_cons, List.length_nil]); omega))) (by w_strict (first | omega | (simp only [List.length_append, List.length_cons, List.length_nil]; omega))) ?_; intro c9 _ _ hc9))) | walk1) | (leave1; walk_say "STEP leave1"; try dsimp only) | fail "no step"))
    refine unstop ?_
    refine' append_K ?F ?N ?U ?_ ?z
    case F => k_asm
    case N => k_asm
    case U => k_upd
    case z => (show (List.map _ qs).toArray.size ≤ _); rw [List.size_toArray, List.length_map, hqs, sizeLine_eq]; omega
    intro h4 F4 N4
    (repeat' (first | (k_unfold; (try dsimp only)) | (k_end; wrow_close) | ((with_reducible show wpAny _ _ (execs (_ :: _) _) _ _ ⟨_, _, _, _ + _, _⟩); refine absTok ?_; intro tk) | (with_reducible first | (k_here; (with_reducible show wpAny _ _ (subscriptTail _ _ (Value.ref _) (Value.int _ _)) _ _ _); k_dflt (refine item_tupleT (by w_strict (exact News.isTup (by k_asm) (by (repeat (first | assumption | refine List.Mem.tail _ ?_))))) (by decide) (by decide) (by rfl) (by rfl) ?_; k_whole)) | ((with_reducible show wpAny _ _ (call (Value.type _) _) _ _ _); (rename Mark2 => mk9; k_dflt (refine range1_rows (by k_asm) (by k_asm) ?_; intro h' tk' t1 u1 v1 R' F' N' keep'))) | (k_here; (with_reducible show wpAny _ _ (call (Value.ref 232) [Value.ref _, Value.int _ _]) _ _ _); k_dflt (refine Mine.dip_use (by k_asm) (by k_asm) (by k_asm) (by k_asm) (by k_asm) (by w_strict (first | exact rfl | assumption)) (by w_strict (k_updF)) (by w_strict (omega)) (by w_strict (omega)) (by w_strict (omega)) (by w_strict (omega)) (by is_list) (by assumption) (by w_strict (first | assumption | omega)) (by w_strict (first | assumption | k_ne)) (by k_room) (by k_units) ?_; intro j9 t9 t8 h9 tk9 hj9 hj8 F9 N9 keep9; (try dsimp only at N9); (try k_sweep); (try dsimp only))) | (k_here; (with_reducible show wpAny _ _ (subscriptTail _ _ (Value.str _ _) (Value.int _ _)) _ _ _); (refine item_any (by kopn_code) (by w_strict (omega)) (by w_strict (first | omega | ((try simp only [List.length_append, List.length_cons, List.length_nil]); omega))) (by w_strict (first | omega | (simp only [List.length_append, List.length_cons, List.length_nil]; omega))) ?_; intro c9 _ _ hc9))) | walk1 | (dsimp only; first | (with_reducible first | (k_here; (with_reducible show wpAny _ _ (subscriptTail _ _ (Value.ref _) (Value.int _ _)) _ _ _); k_dflt (refine item_tupleT (by w_strict (exact News.isTup (by k_asm) (by (repeat (first | assumption | refine List.Mem.tail _ ?_))))) (by decide) (by decide) (by rfl) (by rfl) ?_; k_whole)) | ((with_reducible show wpAny _ _ (call (Value.type _) _) _ _ _); (rename Mark2 => mk9; k_dflt (refine range1_rows (by k_asm) (by k_asm) ?_; intro h' tk' t1 u1 v1 R' F' N' keep'))) | (k_here; (with_reducible show wpAny _ _ (call (Value.ref 232) [Value.ref _, Value.int _ _]) _ _ _); k_dflt (refine Mine.dip_use (by k_asm) (by k_asm) (by k_asm) (by k_asm) (by k_asm) (by w_strict (first | exact rfl | assumption)) (by w_strict (k_updF)) (by w_strict (omega)) (by w_strict (omega)) (by w_strict (omega)) (by w_strict (omega)) (by is_list) (by assumption) (by w_strict (first | assumption | omega)) (by w_strict (first | assumption | k_ne)) (by k_room) (by k_units) ?_; intro j9 t9 t8 h9 tk9 hj9 hj8 F9 N9 keep9; (try dsimp only at N9); (try k_sweep); (try dsimp only))) | (k_here; (with_reducible show wpAny _ _ (subscriptTail _ _ (Value.str _ _) (Value.int _ _)) _ _ _); (refine item_any (by kopn_code) (by w_strict (omega)) (by w_strict (first | omega | ((try simp only [List.length_append, List.length_cons, List.length_nil]); omega))) (by w_strict (first | omega | (simp only [List.length_append, List.length_cons, List.length_nil]; omega))) ?_; intro c9 _ _ hc9))) | walk1) | (leave1; walk_say "STEP leave1"; try dsimp only) | fail "no step"))
    refine unstop ?_
    with_reducible (rename Fr _ _ _ _ => F4; rename News _ _ _ _ => N4; rename _ ∧ _ => l4)
    obtain ⟨q0, q1, q2, q3, -, -, -, -, q4, -⟩ := l4
    exact J2.step (K := ⟨wl, cl, L + 1, wa, wd, tb, tx, oc, xs, es, nd⟩) F4 N4 o5 (Nat.ne_of_gt q0) off5 (Nat.ne_of_gt q1) (Nat.ne_of_gt q2) (Nat.ne_of_gt q3) (Nat.ne_of_gt q4) sub5 hk5 hk5' rfl hqs hqR (by exact rfl) (by exact rfl) (by exact rfl) (by exact rfl)
  · obtain ⟨k5, t5', nn5, nq5, R5, qs, rfl, off5, sub5, hk5, hk5', hqs, hqR, b1, b2, b3, b4⟩ := J5
    dsimp only [LawK.well, LawK.rest] at *
    rw [map4 b1 b2 b3 b4] at F5
    clear F6 N6 R9
    (repeat' (first | (k_unfold; (try dsimp only)) | (k_end; wrow_close) | ((with_reducible show wpAny _ _ (execs (_ :: _) _) _ _ ⟨_, _, _, _ + _, _⟩); refine absTok ?_; intro tk) | (with_reducible first | (k_here; (with_reducible show wpAny _ _ (subscriptTail _ _ (Value.ref _) (Value.int _ _)) _ _ _); k_dflt (refine item_tupleT (by w_strict (exact News.isTup (by k_asm) (by (repeat (first | assumption | refine List.Mem.tail _ ?_))))) (by decide) (by decide) (by rfl) (by rfl) ?_; k_whole)) | ((with_reducible show wpAny _ _ (call (Value.type _) _) _ _ _); (rename Mark2 => mk9; k_dflt (refine range1_rows (by k_asm) (by k_asm) ?_; intro h' tk' t1 u1 v1 R' F' N' keep'))) | (k_here; (with_reducible show wpAny _ _ (call (Value.ref 232) [Value.ref _, Value.int _ _]) _ _ _); k_dflt (refine Mine.dip_use (by k_asm) (by k_asm) (by k_asm) (by k_asm) (by k_asm) (by w_strict (first | exact rfl | assumption)) (by w_strict (k_updF)) (by w_strict (omega)) (by w_strict (omega)) (by w_strict (omega)) (by w_strict (omega)) (by is_list) (by assumption) (by w_strict (first | assumption | omega)) (by w_strict (first | assumption | k_ne)) (by k_room) (by k_units) ?_; intro j9 t9 t8 h9 tk9 hj9 hj8 F9 N9 keep9; (try dsimp only at N9); (try k_sweep); (try dsimp only))) | (k_here; (with_reducible show wpAny _ _ (subscriptTail _ _ (Value.str _ _) (Value.int _ _)) _ _ _); (refine item_any (by kopn_code) (by w_strict (omega)) (by w_strict (first | omega | ((try simp only [List.length_append, List.length_cons, List.length_nil]); omega))) (by w_strict (first | omega | (simp only [List.length_append, List.length_cons, List.length_nil]; omega))) ?_; intro c9 _ _ hc9))) | walk1 | (dsimp only; first | (with_reducible first | (k_here; (with_reducible show wpAny _ _ (subscriptTail _ _ (Value.ref _) (Value.int _ _)) _ _ _); k_dflt (refine item_tupleT (by w_strict (exact News.isTup (by k_asm) (by (repeat (first | assumption | refine List.Mem.tail _ ?_))))) (by decide) (by decide) (by rfl) (by rfl) ?_; k_whole)) | ((with_reducible show wpAny _ _ (call (Value.type _) _) _ _ _); (rename Mark2 => mk9; k_dflt (refine range1_rows (by k_asm) (by k_asm) ?_; intro h' tk' t1 u1 v1 R' F' N' keep'))) | (k_here; (with_reducible show wpAny _ _ (call (Value.ref 232) [Value.ref _, Value.int _ _]) _ _ _); k_dflt (refine Mine.dip_use (by k_asm) (by k_asm) (by k_asm) (by k_asm) (by k_asm) (by w_strict (first | exact rfl | assumption)) (by w_strict (k_updF)) (by w_strict (omega)) (by w_strict (omega)) (by w_strict (omega)) (by w_strict (omega)) (by is_list) (by assumption) (by w_strict (first | assumption | omega)) (by w_strict (first | assumption | k_ne)) (by k_room) (by k_units) ?_; intro j9 t9 t8 h9 tk9 hj9 hj8 F9 N9 keep9; (try dsimp only at N9); (try k_sweep); (try dsimp only))) | (k_here; (with_reducible show wpAny _ _ (subscriptTail _ _ (Value.str _ _) (Value.int _ _)) _ _ _); (refine item_any (by kopn_code) (by w_strict (omega)) (by w_strict (first | omega | ((try simp only [List.length_append, List.length_cons, List.length_nil]); omega))) (by w_strict (first | omega | (simp only [List.length_append, List.length_cons, List.length_nil]; omega))) ?_; intro c9 _ _ hc9))) | walk1) | (leave1; walk_say "STEP leave1"; try dsimp only) | fail "no step"))
    refine unstop ?_
    refine LCg.ListComp_U (by k_asm) (by with_unfolding_all rfl) (by decide) (by rfl) (by decide) (by rfl) ?_
    (repeat' (first | (k_unfold; (try dsimp only)) | (k_end; wrow_close) | ((with_reducible show wpAny _ _ (execs (_ :: _) _) _ _ ⟨_, _, _, _ + _, _⟩); refine absTok ?_; intro tk) | (with_reducible first | (k_here; (with_reducible show wpAny _ _ (subscriptTail _ _ (Value.ref _) (Value.int _ _)) _ _ _); k_dflt (refine item_tupleT (by w_strict (exact News.isTup (by k_asm) (by (repeat (first | assumption | refine List.Mem.tail _ ?_))))) (by decide) (by decide) (by rfl) (by rfl) ?_; k_whole)) | ((with_reducible show wpAny _ _ (call (Value.type _) _) _ _ _); (rename Mark2 => mk9; k_dflt (refine range1_rows (by k_asm) (by k_asm) ?_; intro h' tk' t1 u1 v1 R' F' N' keep'))) | (k_here; (with_reducible show wpAny _ _ (call (Value.ref 232) [Value.ref _, Value.int _ _]) _ _ _); k_dflt (refine Mine.dip_use (by k_asm) (by k_asm) (by k_asm) (by k_asm) (by k_asm) (by w_strict (first | exact rfl | assumption)) (by w_strict (k_updF)) (by w_strict (omega)) (by w_strict (omega)) (by w_strict (omega)) (by w_strict (omega)) (by is_list) (by assumption) (by w_strict (first | assumption | omega)) (by w_strict (first | assumption | k_ne)) (by k_room) (by k_units) ?_; intro j9 t9 t8 h9 tk9 hj9 hj8 F9 N9 keep9; (try dsimp only at N9); (try k_sweep); (try dsimp only))) | (k_here; (with_reducible show wpAny _ _ (subscriptTail _ _ (Value.str _ _) (Value.int _ _)) _ _ _); (refine item_any (by kopn_code) (by w_strict (omega)) (by w_strict (first | omega | ((try simp only [List.length_append, List.length_cons, List.length_nil]); omega))) (by w_strict (first | omega | (simp only [List.length_append, List.length_cons, List.length_nil]; omega))) ?_; intro c9 _ _ hc9))) | walk1 | (dsimp only; first | (with_reducible first | (k_here; (with_reducible show wpAny _ _ (subscriptTail _ _ (Value.ref _) (Value.int _ _)) _ _ _); k_dflt (refine item_tupleT (by w_strict (exact News.isTup (by k_asm) (by (repeat (first | assumption | refine List.Mem.tail _ ?_))))) (by decide) (by decide) (by rfl) (by rfl) ?_; k_whole)) | ((with_reducible show wpAny _ _ (call (Value.type _) _) _ _ _); (rename Mark2 => mk9; k_dflt (refine range1_rows (by k_asm) (by k_asm) ?_; intro h' tk' t1 u1 v1 R' F' N' keep'))) | (k_here; (with_reducible show wpAny _ _ (call (Value.ref 232) [Value.ref _, Value.int _ _]) _ _ _); k_dflt (refine Mine.dip_use (by k_asm) (by k_asm) (by k_asm) (by k_asm) (by k_asm) (by w_strict (first | exact rfl | assumption)) (by w_strict (k_updF)) (by w_strict (omega)) (by w_strict (omega)) (by w_strict (omega)) (by w_strict (omega)) (by is_list) (by assumption) (by w_strict (first | assumption | omega)) (by w_strict (first | assumption | k_ne)) (by k_room) (by k_units) ?_; intro j9 t9 t8 h9 tk9 hj9 hj8 F9 N9 keep9; (try dsimp only at N9); (try k_sweep); (try dsimp only))) | (k_here; (with_reducible show wpAny _ _ (subscriptTail _ _ (Value.str _ _) (Value.int _ _)) _ _ _); (refine item_any (by kopn_code) (by w_strict (omega)) (by w_strict (first | omega | ((try simp only [List.length_append, List.length_cons, List.length_nil]); omega))) (by w_strict (first | omega | (simp only [List.length_append, List.length_cons, List.length_nil]; omega))) ?_; intro c9 _ _ hc9))) | walk1) | (leave1; walk_say "STEP leave1"; try dsimp only) | fail "no step"))
    refine unstop ?_
    refine LCg.CompSrc.ledger (its := (qs.map fun q => Value.ref q.1).toArray) (k := nq5) (by rfl) (by k_asm) (by k_asm) (by k_mem) (by rw [List.size_toArray, List.length_map, hqs, sizeLine_eq]; omega) ?_
    intro ga
    (try dsimp only)
    refine comp_signs (fun i => [(qs.getD i default).2.1]) (.inr ⟨_, by k_mem, rfl, _, rfl⟩) ?_ ?_
    · rintro i3 v I3 oI3 C3 oC3 D3 m3 ys3 h3 tk3 E3 hi3 hv3 hC3 hx3 F3 N3 off3 ne3
      obtain ⟨q, hq1, rfl⟩ := src_ref (f := fun q : Addr × Nat × Nat => q.1) hv3
      obtain ⟨t1, t2, hq2⟩ := hqR q (List.mem_of_getElem? hq1)
      have hg : qs.getD i3 default = q := by simp [List.getD, hq1]
      rw [hg]
      (try dsimp only)
      (repeat' (first | (k_unfold; (try dsimp only)) | (k_end; wrow_close) | ((with_reducible show wpAny _ _ (execs (_ :: _) _) _ _ ⟨_, _, _, _ + _, _⟩); refine absTok ?_; intro tk) | (with_reducible first | (k_here; (with_reducible show wpAny _ _ (subscriptTail _ _ (Value.ref _) (Value.int _ _)) _ _ _); k_dflt (refine item_tupleT (by w_strict (exact News.isTup (by k_asm) (by (repeat (first | assumption | refine List.Mem.tail _ ?_))))) (by decide) (by decide) (by rfl) (by rfl) ?_; k_whole)) | ((with_reducible show wpAny _ _ (call (Value.type _) _) _ _ _); (rename Mark2 => mk9; k_dflt (refine range1_rows (by k_asm) (by k_asm) ?_; intro h' tk' t1 u1 v1 R' F' N' keep'))) | (k_here; (with_reducible show wpAny _ _ (call (Value.ref 232) [Value.ref _, Value.int _ _]) _ _ _); k_dflt (refine Mine.dip_use (by k_asm) (by k_asm) (by k_asm) (by k_asm) (by k_asm) (by w_strict (first | exact rfl | assumption)) (by w_strict (k_updF)) (by w_strict (omega)) (by w_strict (omega)) (by w_strict (omega)) (by w_strict (omega)) (by is_list) (by assumption) (by w_strict (first | assumption | omega)) (by w_strict (first | assumption | k_ne)) (by k_room) (by k_units) ?_; intro j9 t9 t8 h9 tk9 hj9 hj8 F9 N9 keep9; (try dsimp only at N9); (try k_sweep); (try dsimp only))) | (k_here; (with_reducible show wpAny _ _ (subscriptTail _ _ (Value.str _ _) (Value.int _ _)) _ _ _); (refine item_any (by kopn_code) (by w_strict (omega)) (by w_strict (first | omega | ((try simp only [List.length_append, List.length_cons, List.length_nil]); omega))) (by w_strict (first | omega | (simp only [List.length_append, List.length_cons, List.length_nil]; omega))) ?_; intro c9 _ _ hc9))) | walk1 | (dsimp only; first | (with_reducible first | (k_here; (with_reducible show wpAny _ _ (subscriptTail _ _ (Value.ref _) (Value.int _ _)) _ _ _); k_dflt (refine item_tupleT (by w_strict (exact News.isTup (by k_asm) (by (repeat (first | assumption | refine List.Mem.tail _ ?_))))) (by decide) (by decide) (by rfl) (by rfl) ?_; k_whole)) | ((with_reducible show wpAny _ _ (call (Value.type _) _) _ _ _); (rename Mark2 => mk9; k_dflt (refine range1_rows (by k_asm) (by k_asm) ?_; intro h' tk' t1 u1 v1 R' F' N' keep'))) | (k_here; (with_reducible show wpAny _ _ (call (Value.ref 232) [Value.ref _, Value.int _ _]) _ _ _); k_dflt (refine Mine.dip_use (by k_asm) (by k_asm) (by k_asm) (by k_asm) (by k_asm) (by w_strict (first | exact rfl | assumption)) (by w_strict (k_updF)) (by w_strict (omega)) (by w_strict (omega)) (by w_strict (omega)) (by w_strict (omega)) (by is_list) (by assumption) (by w_strict (first | assumption | omega)) (by w_strict (first | assumption | k_ne)) (by k_room) (by k_units) ?_; intro j9 t9 t8 h9 tk9 hj9 hj8 F9 N9 keep9; (try dsimp only at N9); (try k_sweep); (try dsimp only))) | (k_here; (with_reducible show wpAny _ _ (subscriptTail _ _ (Value.str _ _) (Value.int _ _)) _ _ _); (refine item_any (by kopn_code) (by w_strict (omega)) (by w_strict (first | omega | ((try simp only [List.length_append, List.length_cons, List.length_nil]); omega))) (by w_strict (first | omega | (simp only [List.length_append, List.length_cons, List.length_nil]; omega))) ?_; intro c9 _ _ hc9))) | walk1) | (leave1; walk_say "STEP leave1"; try dsimp only) | fail "no step"))
      exact LCg.CompEnd.intro F3 N3 _ (fun _ h => h) off3 (.inr ⟨_, by k_mem, rfl, _, rfl⟩) ⟨rfl, _, rfl⟩
    · intro ysa hysa
      have ea : ((List.range (List.map (fun q : Addr × Nat × Nat => Value.ref q.1) qs).toArray.size).map fun i => [(qs.getD i default).2.1]).flatten = qs.map (·.2.1) := by rw [List.size_toArray, List.length_map]; exact comp_flat2 (fun q : Addr × Nat × Nat => q.2.1) default qs
      (repeat' (first | (k_unfold; (try dsimp only)) | (k_end; wrow_close) | ((with_reducible show wpAny _ _ (execs (_ :: _) _) _ _ ⟨_, _, _, _ + _, _⟩); refine absTok ?_; intro tk) | (with_reducible first | (k_here; (with_reducible show wpAny _ _ (subscriptTail _ _ (Value.ref _) (Value.int _ _)) _ _ _); k_dflt (refine item_tupleT (by w_strict (exact News.isTup (by k_asm) (by (repeat (first | assumption | refine List.Mem.tail _ ?_))))) (by decide) (by decide) (by rfl) (by rfl) ?_; k_whole)) | ((with_reducible show wpAny _ _ (call (Value.type _) _) _ _ _); (rename Mark2 => mk9; k_dflt (refine range1_rows (by k_asm) (by k_asm) ?_; intro h' tk' t1 u1 v1 R' F' N' keep'))) | (k_here; (with_reducible show wpAny _ _ (call (Value.ref 232) [Value.ref _, Value.int _ _]) _ _ _); k_dflt (refine Mine.dip_use (by k_asm) (by k_asm) (by k_asm) (by k_asm) (by k_asm) (by w_strict (first | exact rfl | assumption)) (by w_strict (k_updF)) (by w_strict (omega)) (by w_strict (omega)) (by w_strict (omega)) (by w_strict (omega)) (by is_list) (by assumption) (by w_strict (first | assumption | omega)) (by w_strict (first | assumption | k_ne)) (by k_room) (by k_units) ?_; intro j9 t9 t8 h9 tk9 hj9 hj8 F9 N9 keep9; (try dsimp only at N9); (try k_sweep); (try dsimp only))) | (k_here; (with_reducible show wpAny _ _ (subscriptTail _ _ (Value.str _ _) (Value.int _ _)) _ _ _); (refine item_any (by kopn_code) (by w_strict (omega)) (by w_strict (first | omega | ((try simp only [List.length_append, List.length_cons, List.length_nil]); omega))) (by w_strict (first | omega | (simp only [List.length_append, List.length_cons, List.length_nil]; omega))) ?_; intro c9 _ _ hc9))) | walk1 | (dsimp only; first | (with_reducible first | (k_here; (with_reducible show wpAny _ _ (subscriptTail _ _ (Value.ref _) (Value.int _ _)) _ _ _); k_dflt (refine item_tupleT (by w_strict (exact News.isTup (by k_asm) (by (repeat (first | assumption | refine List.Mem.tail _ ?_))))) (by decide) (by decide) (by rfl) (by rfl) ?_; k_whole)) | ((with_reducible show wpAny _ _ (call (Value.type _) _) _ _ _); (rename Mark2 => mk9; k_dflt (refine range1_rows (by k_asm) (by k_asm) ?_; intro h' tk' t1 u1 v1 R' F' N' keep'))) | (k_here; (with_reducible show wpAny _ _ (call (Value.ref 232) [Value.ref _, Value.int _ _]) _ _ _); k_dflt (refine Mine.dip_use (by k_asm) (by k_asm) (by k_asm) (by k_asm) (by k_asm) (by w_strict (first | exact rfl | assumption)) (by w_strict (k_updF)) (by w_strict (omega)) (by w_strict (omega)) (by w_strict (omega)) (by w_strict (omega)) (by is_list) (by assumption) (by w_strict (first | assumption | omega)) (by w_strict (first | assumption | k_ne)) (by k_room) (by k_units) ?_; intro j9 t9 t8 h9 tk9 hj9 hj8 F9 N9 keep9; (try dsimp only at N9); (try k_sweep); (try dsimp only))) | (k_here; (with_reducible show wpAny _ _ (subscriptTail _ _ (Value.str _ _) (Value.int _ _)) _ _ _); (refine item_any (by kopn_code) (by w_strict (omega)) (by w_strict (first | omega | ((try simp only [List.length_append, List.length_cons, List.length_nil]); omega))) (by w_strict (first | omega | (simp only [List.length_append, List.length_cons, List.length_nil]; omega))) ?_; intro c9 _ _ hc9))) | walk1) | (leave1; walk_say "STEP leave1"; try dsimp only) | fail "no step"))
      refine join_S lit_nil (by is_list) hysa (by rw [ea, List.length_map, hqs]; omega) ?_
      intro tqa kqa
      rw [ea]
      (try dsimp only)
      (repeat' (first | (k_unfold; (try dsimp only)) | (k_end; wrow_close) | ((with_reducible show wpAny _ _ (execs (_ :: _) _) _ _ ⟨_, _, _, _ + _, _⟩); refine absTok ?_; intro tk) | (with_reducible first | (k_here; (with_reducible show wpAny _ _ (subscriptTail _ _ (Value.ref _) (Value.int _ _)) _ _ _); k_dflt (refine item_tupleT (by w_strict (exact News.isTup (by k_asm) (by (repeat (first | assumption | refine List.Mem.tail _ ?_))))) (by decide) (by decide) (by rfl) (by rfl) ?_; k_whole)) | ((with_reducible show wpAny _ _ (call (Value.type _) _) _ _ _); (rename Mark2 => mk9; k_dflt (refine range1_rows (by k_asm) (by k_asm) ?_; intro h' tk' t1 u1 v1 R' F' N' keep'))) | (k_here; (with_reducible show wpAny _ _ (call (Value.ref 232) [Value.ref _, Value.int _ _]) _ _ _); k_dflt (refine Mine.dip_use (by k_asm) (by k_asm) (by k_asm) (by k_asm) (by k_asm) (by w_strict (first | exact rfl | assumption)) (by w_strict (k_updF)) (by w_strict (omega)) (by w_strict (omega)) (by w_strict (omega)) (by w_strict (omega)) (by is_list) (by assumption) (by w_strict (first | assumption | omega)) (by w_strict (first | assumption | k_ne)) (by k_room) (by k_units) ?_; intro j9 t9 t8 h9 tk9 hj9 hj8 F9 N9 keep9; (try dsimp only at N9); (try k_sweep); (try dsimp only))) | (k_here; (with_reducible show wpAny _ _ (subscriptTail _ _ (Value.str _ _) (Value.int _ _)) _ _ _); (refine item_any (by kopn_code) (by w_strict (omega)) (by w_strict (first | omega | ((try simp only [List.length_append, List.length_cons, List.length_nil]); omega))) (by w_strict (first | omega | (simp only [List.length_append, List.length_cons, List.length_nil]; omega))) ?_; intro c9 _ _ hc9))) | walk1 | (dsimp only; first | (with_reducible first | (k_here; (with_reducible show wpAny _ _ (subscriptTail _ _ (Value.ref _) (Value.int _ _)) _ _ _); k_dflt (refine item_tupleT (by w_strict (exact News.isTup (by k_asm) (by (repeat (first | assumption | refine List.Mem.tail _ ?_))))) (by decide) (by decide) (by rfl) (by rfl) ?_; k_whole)) | ((with_reducible show wpAny _ _ (call (Value.type _) _) _ _ _); (rename Mark2 => mk9; k_dflt (refine range1_rows (by k_asm) (by k_asm) ?_; intro h' tk' t1 u1 v1 R' F' N' keep'))) | (k_here; (with_reducible show wpAny _ _ (call (Value.ref 232) [Value.ref _, Value.int _ _]) _ _ _); k_dflt (refine Mine.dip_use (by k_asm) (by k_asm) (by k_asm) (by k_asm) (by k_asm) (by w_strict (first | exact rfl | assumption)) (by w_strict (k_updF)) (by w_strict (omega)) (by w_strict (omega)) (by w_strict (omega)) (by w_strict (omega)) (by is_list) (by assumption) (by w_strict (first | assumption | omega)) (by w_strict (first | assumption | k_ne)) (by k_room) (by k_units) ?_; intro j9 t9 t8 h9 tk9 hj9 hj8 F9 N9 keep9; (try dsimp only at N9); (try k_sweep); (try dsimp only))) | (k_here; (with_reducible show wpAny _ _ (subscriptTail _ _ (Value.str _ _) (Value.int _ _)) _ _ _); (refine item_any (by kopn_code) (by w_strict (omega)) (by w_strict (first | omega | ((try simp only [List.length_append, List.length_cons, List.length_nil]); omega))) (by w_strict (first | omega | (simp only [List.length_append, List.length_cons, List.length_nil]; omega))) ?_; intro c9 _ _ hc9))) | walk1) | (leave1; walk_say "STEP leave1"; try dsimp only) | fail "no step"))
      refine unstop ?_
      refine LCg.ListComp_U (by k_asm) (by with_unfolding_all rfl) (by decide) (by rfl) (by decide) (by rfl) ?_
      (repeat' (first | (k_unfold; (try dsimp only)) | (k_end; wrow_close) | ((with_reducible show wpAny _ _ (execs (_ :: _) _) _ _ ⟨_, _, _, _ + _, _⟩); refine absTok ?_; intro tk) | (with_reducible first | (k_here; (with_reducible show wpAny _ _ (subscriptTail _ _ (Value.ref _) (Value.int _ _)) _ _ _); k_dflt (refine item_tupleT (by w_strict (exact News.isTup (by k_asm) (by (repeat (first | assumption | refine List.Mem.tail _ ?_))))) (by decide) (by decide) (by rfl) (by rfl) ?_; k_whole)) | ((with_reducible show wpAny _ _ (call (Value.type _) _) _ _ _); (rename Mark2 => mk9; k_dflt (refine range1_rows (by k_asm) (by k_asm) ?_; intro h' tk' t1 u1 v1 R' F' N' keep'))) | (k_here; (with_reducible show wpAny _ _ (call (Value.ref 232) [Value.ref _, Value.int _ _]) _ _ _); k_dflt (refine Mine.dip_use (by k_asm) (by k_asm) (by k_asm) (by k_asm) (by k_asm) (by w_strict (first | exact rfl | assumption)) (by w_strict (k_updF)) (by w_strict (omega)) (by w_strict (omega)) (by w_strict (omega)) (by w_strict (omega)) (by is_list) (by assumption) (by w_strict (first | assumption | omega)) (by w_strict (first | assumption | k_ne)) (by k_room) (by k_units) ?_; intro j9 t9 t8 h9 tk9 hj9 hj8 F9 N9 keep9; (try dsimp only at N9); (try k_sweep); (try dsimp only))) | (k_here; (with_reducible show wpAny _ _ (subscriptTail _ _ (Value.str _ _) (Value.int _ _)) _ _ _); (refine item_any (by kopn_code) (by w_strict (omega)) (by w_strict (first | omega | ((try simp only [List.length_append, List.length_cons, List.length_nil]); omega))) (by w_strict (first | omega | (simp only [List.length_append, List.length_cons, List.length_nil]; omega))) ?_; intro c9 _ _ hc9))) | walk1 | (dsimp only; first | (with_reducible first | (k_here; (with_reducible show wpAny _ _ (subscriptTail _ _ (Value.ref _) (Value.int _ _)) _ _ _); k_dflt (refine item_tupleT (by w_strict (exact News.isTup (by k_asm) (by (repeat (first | assumption | refine List.Mem.tail _ ?_))))) (by decide) (by decide) (by rfl) (by rfl) ?_; k_whole)) | ((with_reducible show wpAny _ _ (call (Value.type _) _) _ _ _); (rename Mark2 => mk9; k_dflt (refine range1_rows (by k_asm) (by k_asm) ?_; intro h' tk' t1 u1 v1 R' F' N' keep'))) | (k_here; (with_reducible show wpAny _ _ (call (Value.ref 232) [Value.ref _, Value.int _ _]) _ _ _); k_dflt (refine Mine.dip_use (by k_asm) (by k_asm) (by k_asm) (by k_asm) (by k_asm) (by w_strict (first | exact rfl | assumption)) (by w_strict (k_updF)) (by w_strict (omega)) (by w_strict (omega)) (by w_strict (omega)) (by w_strict (omega)) (by is_list) (by assumption) (by w_strict (first | assumption | omega)) (by w_strict (first | assumption | k_ne)) (by k_room) (by k_units) ?_; intro j9 t9 t8 h9 tk9 hj9 hj8 F9 N9 keep9; (try dsimp only at N9); (try k_sweep); (try dsimp only))) | (k_here; (with_reducible show wpAny _ _ (subscriptTail _ _ (Value.str _ _) (Value.int _ _)) _ _ _); (refine item_any (by kopn_code) (by w_strict (omega)) (by w_strict (first | omega | ((try simp only [List.length_append, List.length_cons, List.length_nil]); omega))) (by w_strict (first | omega | (simp only [List.length_append, List.length_cons, List.length_nil]; omega))) ?_; intro c9 _ _ hc9))) | walk1) | (leave1; walk_say "STEP leave1"; try dsimp only) | fail "no step"))
      refine unstop ?_
      refine LCg.CompSrc.ledger (its := (qs.map fun q => Value.ref q.1).toArray) (k := nq5) (by rfl) (by k_asm) (by k_asm) (by k_mem) (by rw [List.size_toArray, List.length_map, hqs, sizeLine_eq]; omega) ?_
      intro gb
      (try dsimp only)
      refine comp_signs (fun i => [(qs.getD i default).2.2]) (.inr ⟨_, by k_mem, rfl, _, rfl⟩) ?_ ?_
      · rintro i3 v I3 oI3 C3 oC3 D3 m3 ys3 h3 tk3 E3 hi3 hv3 hC3 hx3 F3 N3 off3 ne3
        obtain ⟨q, hq1, rfl⟩ := src_ref (f := fun q : Addr × Nat × Nat => q.1) hv3
        obtain ⟨t1, t2, hq2⟩ := hqR q (List.mem_of_getElem? hq1)
        have hg : qs.getD i3 default = q := by simp [List.getD, hq1]
        rw [hg]
        (try dsimp only)
        (repeat' (first | (k_unfold; (try dsimp only)) | (k_end; wrow_close) | ((with_reducible show wpAny _ _ (execs (_ :: _) _) _ _ ⟨_, _, _, _ + _, _⟩); refine absTok ?_; intro tk) | (with_reducible first | (k_here; (with_reducible show wpAny _ _ (subscriptTail _ _ (Value.ref _) (Value.int _ _)) _ _ _); k_dflt (refine item_tupleT (by w_strict (exact News.isTup (by k_asm) (by (repeat (first | assumption | refine List.Mem.tail _ ?_))))) (by decide) (by decide) (by rfl) (by rfl) ?_; k_whole)) | ((with_reducible show wpAny _ _ (call (Value.type _) _) _ _ _); (rename Mark2 => mk9; k_dflt (refine range1_rows (by k_asm) (by k_asm) ?_; intro h' tk' t1 u1 v1 R' F' N' keep'))) | (k_here; (with_reducible show wpAny _ _ (call (Value.ref 232) [Value.ref _, Value.int _ _]) _ _ _); k_dflt (refine Mine.dip_use (by k_asm) (by k_asm) (by k_asm) (by k_asm) (by k_asm) (by w_strict (first | exact rfl | assumption)) (by w_strict (k_updF)) (by w_strict (omega)) (by w_strict (omega)) (by w_strict (omega)) (by w_strict (omega)) (by is_list) (by assumption) (by w_strict (first | assumption | omega)) (by w_strict (first | assumption | k_ne)) (by k_room) (by k_units) ?_; intro j9 t9 t8 h9 tk9 hj9 hj8 F9 N9 keep9; (try dsimp only at N9); (try k_sweep); (try dsimp only))) | (k_here; (with_reducible show wpAny _ _ (subscriptTail _ _ (Value.str _ _) (Value.int _ _)) _ _ _); (refine item_any (by kopn_code) (by w_strict (omega)) (by w_strict (first | omega | ((try simp only [List.length_append, List.length_cons, List.length_nil]); omega))) (by w_strict (first | omega | (simp only [List.length_append, List.length_cons, List.length_nil]; omega))) ?_; intro c9 _ _ hc9))) | walk1 | (dsimp only; first | (with_reducible first | (k_here; (with_reducible show wpAny _ _ (subscriptTail _ _ (Value.ref _) (Value.int _ _)) _ _ _); k_dflt (refine item_tupleT (by w_strict (exact News.isTup (by k_asm) (by (repeat (first | assumption | refine List.Mem.tail _ ?_))))) (by decide) (by decide) (by rfl) (by rfl) ?_; k_whole)) | ((with_reducible show wpAny _ _ (call (Value.type _) _) _ _ _); (rename Mark2 => mk9; k_dflt (refine range1_rows (by k_asm) (by k_asm) ?_; intro h' tk' t1 u1 v1 R' F' N' keep'))) | (k_here; (with_reducible show wpAny _ _ (call (Value.ref 232) [Value.ref _, Value.int _ _]) _ _ _); k_dflt (refine Mine.dip_use (by k_asm) (by k_asm) (by k_asm) (by k_asm) (by k_asm) (by w_strict (first | exact rfl | assumption)) (by w_strict (k_updF)) (by w_strict (omega)) (by w_strict (omega)) (by w_strict (omega)) (by w_strict (omega)) (by is_list) (by assumption) (by w_strict (first | assumption | omega)) (by w_strict (first | assumption | k_ne)) (by k_room) (by k_units) ?_; intro j9 t9 t8 h9 tk9 hj9 hj8 F9 N9 keep9; (try dsimp only at N9); (try k_sweep); (try dsimp only))) | (k_here; (with_reducible show wpAny _ _ (subscriptTail _ _ (Value.str _ _) (Value.int _ _)) _ _ _); (refine item_any (by kopn_code) (by w_strict (omega)) (by w_strict (first | omega | ((try simp only [List.length_append, List.length_cons, List.length_nil]); omega))) (by w_strict (first | omega | (simp only [List.length_append, List.length_cons, List.length_nil]; omega))) ?_; intro c9 _ _ hc9))) | walk1) | (leave1; walk_say "STEP leave1"; try dsimp only) | fail "no step"))
        exact LCg.CompEnd.intro F3 N3 _ (fun _ h => h) off3 (.inr ⟨_, by k_mem, rfl, _, rfl⟩) ⟨rfl, _, rfl⟩
      · intro ysb hysb
        have eb : ((List.range (List.map (fun q : Addr × Nat × Nat => Value.ref q.1) qs).toArray.size).map fun i => [(qs.getD i default).2.2]).flatten = qs.map (·.2.2) := by rw [List.size_toArray, List.length_map]; exact comp_flat2 (fun q : Addr × Nat × Nat => q.2.2) default qs
        (repeat' (first | (k_unfold; (try dsimp only)) | (k_end; wrow_close) | ((with_reducible show wpAny _ _ (execs (_ :: _) _) _ _ ⟨_, _, _, _ + _, _⟩); refine absTok ?_; intro tk) | (with_reducible first | (k_here; (with_reducible show wpAny _ _ (subscriptTail _ _ (Value.ref _) (Value.int _ _)) _ _ _); k_dflt (refine item_tupleT (by w_strict (exact News.isTup (by k_asm) (by (repeat (first | assumption | refine List.Mem.tail _ ?_))))) (by decide) (by decide) (by rfl) (by rfl) ?_; k_whole)) | ((with_reducible show wpAny _ _ (call (Value.type _) _) _ _ _); (rename Mark2 => mk9; k_dflt (refine range1_rows (by k_asm) (by k_asm) ?_; intro h' tk' t1 u1 v1 R' F' N' keep'))) | (k_here; (with_reducible show wpAny _ _ (call (Value.ref 232) [Value.ref _, Value.int _ _]) _ _ _); k_dflt (refine Mine.dip_use (by k_asm) (by k_asm) (by k_asm) (by k_asm) (by k_asm) (by w_strict (first | exact rfl | assumption)) (by w_strict (k_updF)) (by w_strict (omega)) (by w_strict (omega)) (by w_strict (omega)) (by w_strict (omega)) (by is_list) (by assumption) (by w_strict (first | assumption | omega)) (by w_strict (first | assumption | k_ne)) (by k_room) (by k_units) ?_; intro j9 t9 t8 h9 tk9 hj9 hj8 F9 N9 keep9; (try dsimp only at N9); (try k_sweep); (try dsimp only))) | (k_here; (with_reducible show wpAny _ _ (subscriptTail _ _ (Value.str _ _) (Value.int _ _)) _ _ _); (refine item_any (by kopn_code) (by w_strict (omega)) (by w_strict (first | omega | ((try simp only [List.length_append, List.length_cons, List.length_nil]); omega))) (by w_strict (first | omega | (simp only [List.length_append, List.length_cons, List.length_nil]; omega))) ?_; intro c9 _ _ hc9))) | walk1 | (dsimp only; first | (with_reducible first | (k_here; (with_reducible show wpAny _ _ (subscriptTail _ _ (Value.ref _) (Value.int _ _)) _ _ _); k_dflt (refine item_tupleT (by w_strict (exact News.isTup (by k_asm) (by (repeat (first | assumption | refine List.Mem.tail _ ?_))))) (by decide) (by decide) (by rfl) (by rfl) ?_; k_whole)) | ((with_reducible show wpAny _ _ (call (Value.type _) _) _ _ _); (rename Mark2 => mk9; k_dflt (refine range1_rows (by k_asm) (by k_asm) ?_; intro h' tk' t1 u1 v1 R' F' N' keep'))) | (k_here; (with_reducible show wpAny _ _ (call (Value.ref 232) [Value.ref _, Value.int _ _]) _ _ _); k_dflt (refine Mine.dip_use (by k_asm) (by k_asm) (by k_asm) (by k_asm) (by k_asm) (by w_strict (first | exact rfl | assumption)) (by w_strict (k_updF)) (by w_strict (omega)) (by w_strict (omega)) (by w_strict (omega)) (by w_strict (omega)) (by is_list) (by assumption) (by w_strict (first | assumption | omega)) (by w_strict (first | assumption | k_ne)) (by k_room) (by k_units) ?_; intro j9 t9 t8 h9 tk9 hj9 hj8 F9 N9 keep9; (try dsimp only at N9); (try k_sweep); (try dsimp only))) | (k_here; (with_reducible show wpAny _ _ (subscriptTail _ _ (Value.str _ _) (Value.int _ _)) _ _ _); (refine item_any (by kopn_code) (by w_strict (omega)) (by w_strict (first | omega | ((try simp only [List.length_append, List.length_cons, List.length_nil]); omega))) (by w_strict (first | omega | (simp only [List.length_append, List.length_cons, List.length_nil]; omega))) ?_; intro c9 _ _ hc9))) | walk1) | (leave1; walk_say "STEP leave1"; try dsimp only) | fail "no step"))
        refine join_S lit_nil (by is_list) hysb (by rw [eb, List.length_map, hqs]; omega) ?_
        intro tqb kqb
        rw [eb]
        (try dsimp only)
        (repeat' (first | (k_unfold; (try dsimp only)) | (k_end; wrow_close) | ((with_reducible show wpAny _ _ (execs (_ :: _) _) _ _ ⟨_, _, _, _ + _, _⟩); refine absTok ?_; intro tk) | (with_reducible first | (k_here; (with_reducible show wpAny _ _ (subscriptTail _ _ (Value.ref _) (Value.int _ _)) _ _ _); k_dflt (refine item_tupleT (by w_strict (exact News.isTup (by k_asm) (by (repeat (first | assumption | refine List.Mem.tail _ ?_))))) (by decide) (by decide) (by rfl) (by rfl) ?_; k_whole)) | ((with_reducible show wpAny _ _ (call (Value.type _) _) _ _ _); (rename Mark2 => mk9; k_dflt (refine range1_rows (by k_asm) (by k_asm) ?_; intro h' tk' t1 u1 v1 R' F' N' keep'))) | (k_here; (with_reducible show wpAny _ _ (call (Value.ref 232) [Value.ref _, Value.int _ _]) _ _ _); k_dflt (refine Mine.dip_use (by k_asm) (by k_asm) (by k_asm) (by k_asm) (by k_asm) (by w_strict (first | exact rfl | assumption)) (by w_strict (k_updF)) (by w_strict (omega)) (by w_strict (omega)) (by w_strict (omega)) (by w_strict (omega)) (by is_list) (by assumption) (by w_strict (first | assumption | omega)) (by w_strict (first | assumption | k_ne)) (by k_room) (by k_units) ?_; intro j9 t9 t8 h9 tk9 hj9 hj8 F9 N9 keep9; (try dsimp only at N9); (try k_sweep); (try dsimp only))) | (k_here; (with_reducible show wpAny _ _ (subscriptTail _ _ (Value.str _ _) (Value.int _ _)) _ _ _); (refine item_any (by kopn_code) (by w_strict (omega)) (by w_strict (first | omega | ((try simp only [List.length_append, List.length_cons, List.length_nil]); omega))) (by w_strict (first | omega | (simp only [List.length_append, List.length_cons, List.length_nil]; omega))) ?_; intro c9 _ _ hc9))) | walk1 | (dsimp only; first | (with_reducible first | (k_here; (with_reducible show wpAny _ _ (subscriptTail _ _ (Value.ref _) (Value.int _ _)) _ _ _); k_dflt (refine item_tupleT (by w_strict (exact News.isTup (by k_asm) (by (repeat (first | assumption | refine List.Mem.tail _ ?_))))) (by decide) (by decide) (by rfl) (by rfl) ?_; k_whole)) | ((with_reducible show wpAny _ _ (call (Value.type _) _) _ _ _); (rename Mark2 => mk9; k_dflt (refine range1_rows (by k_asm) (by k_asm) ?_; intro h' tk' t1 u1 v1 R' F' N' keep'))) | (k_here; (with_reducible show wpAny _ _ (call (Value.ref 232) [Value.ref _, Value.int _ _]) _ _ _); k_dflt (refine Mine.dip_use (by k_asm) (by k_asm) (by k_asm) (by k_asm) (by k_asm) (by w_strict (first | exact rfl | assumption)) (by w_strict (k_updF)) (by w_strict (omega)) (by w_strict (omega)) (by w_strict (omega)) (by w_strict (omega)) (by is_list) (by assumption) (by w_strict (first | assumption | omega)) (by w_strict (first | assumption | k_ne)) (by k_room) (by k_units) ?_; intro j9 t9 t8 h9 tk9 hj9 hj8 F9 N9 keep9; (try dsimp only at N9); (try k_sweep); (try dsimp only))) | (k_here; (with_reducible show wpAny _ _ (subscriptTail _ _ (Value.str _ _) (Value.int _ _)) _ _ _); (refine item_any (by kopn_code) (by w_strict (omega)) (by w_strict (first | omega | ((try simp only [List.length_append, List.length_cons, List.length_nil]); omega))) (by w_strict (first | omega | (simp only [List.length_append, List.length_cons, List.length_nil]; omega))) ?_; intro c9 _ _ hc9))) | walk1) | (leave1; walk_say "STEP leave1"; try dsimp only) | fail "no step"))
        refine unstop ?_
        with_reducible (rename _ ∧ _ => lT; revert lT; rename _ ∧ _ => oB; revert oB; rename _ ∧ _ => oA; intro oB lT)
        refine' append_K ?F ?N ?U ?_ ?z
        case F => k_asm
        case N => k_asm
        case U => exact Upd.tail (Nat.ne_of_gt lT.2.2.2.2.1) (Upd.tail (Ne.symm oB.2.2.2.1) (Upd.tail (Ne.symm oA.2.2.1) (Upd.tail o5' (Upd.tail (Nat.ne_of_gt p3) (Upd.head (List.forall_mem_cons.mpr ⟨Ne.symm o14, List.forall_mem_cons.mpr ⟨Ne.symm o11, List.forall_mem_cons.mpr ⟨Ne.symm o12, List.forall_mem_cons.mpr ⟨Ne.symm o13, List.forall_mem_cons.mpr ⟨Ne.symm o7, fun p hp => off5 p hp _ (.tail _ (.tail _ (.head _)))⟩⟩⟩⟩⟩))))))
        case z => (show (List.map _ ps).toArray.size ≤ _); rw [List.size_toArray, List.length_map, hps, sizeLine_eq]; omega
        clear oA oB
        intro h4 F4 N4
        (repeat' (first | (k_unfold; (try dsimp only)) | (k_end; wrow_close) | ((with_reducible show wpAny _ _ (execs (_ :: _) _) _ _ ⟨_, _, _, _ + _, _⟩); refine absTok ?_; intro tk) | (with_reducible first | (k_here; (with_reducible show wpAny _ _ (subscriptTail _ _ (Value.ref _) (Value.int _ _)) _ _ _); k_dflt (refine item_tupleT (by w_strict (exact News.isTup (by k_asm) (by (repeat (first | assumption | refine List.Mem.tail _ ?_))))) (by decide) (by decide) (by rfl) (by rfl) ?_; k_whole)) | ((with_reducible show wpAny _ _ (call (Value.type _) _) _ _ _); (rename Mark2 => mk9; k_dflt (refine range1_rows (by k_asm) (by k_asm) ?_; intro h' tk' t1 u1 v1 R' F' N' keep'))) | (k_here; (with_reducible show wpAny _ _ (call (Value.ref 232) [Value.ref _, Value.int _ _]) _ _ _); k_dflt (refine Mine.dip_use (by k_asm) (by k_asm) (by k_asm) (by k_asm) (by k_asm) (by w_strict (first | exact rfl | assumption)) (by w_strict (k_updF)) (by w_strict (omega)) (by w_strict (omega)) (by w_strict (omega)) (by w_strict (omega)) (by is_list) (by assumption) (by w_strict (first | assumption | omega)) (by w_strict (first | assumption | k_ne)) (by k_room) (by k_units) ?_; intro j9 t9 t8 h9 tk9 hj9 hj8 F9 N9 keep9; (try dsimp only at N9); (try k_sweep); (try dsimp only))) | (k_here; (with_reducible show wpAny _ _ (subscriptTail _ _ (Value.str _ _) (Value.int _ _)) _ _ _); (refine item_any (by kopn_code) (by w_strict (omega)) (by w_strict (first | omega | ((try simp only [List.length_append, List.length_cons, List.length_nil]); omega))) (by w_strict (first | omega | (simp only [List.length_append, List.length_cons, List.length_nil]; omega))) ?_; intro c9 _ _ hc9))) | walk1 | (dsimp only; first | (with_reducible first | (k_here; (with_reducible show wpAny _ _ (subscriptTail _ _ (Value.ref _) (Value.int _ _)) _ _ _); k_dflt (refine item_tupleT (by w_strict (exact News.isTup (by k_asm) (by (repeat (first | assumption | refine List.Mem.tail _ ?_))))) (by decide) (by decide) (by rfl) (by rfl) ?_; k_whole)) | ((with_reducible show wpAny _ _ (call (Value.type _) _) _ _ _); (rename Mark2 => mk9; k_dflt (refine range1_rows (by k_asm) (by k_asm) ?_; intro h' tk' t1 u1 v1 R' F' N' keep'))) | (k_here; (with_reducible show wpAny _ _ (call (Value.ref 232) [Value.ref _, Value.int _ _]) _ _ _); k_dflt (refine Mine.dip_use (by k_asm) (by k_asm) (by k_asm) (by k_asm) (by k_asm) (by w_strict (first | exact rfl | assumption)) (by w_strict (k_updF)) (by w_strict (omega)) (by w_strict (omega)) (by w_strict (omega)) (by w_strict (omega)) (by is_list) (by assumption) (by w_strict (first | assumption | omega)) (by w_strict (first | assumption | k_ne)) (by k_room) (by k_units) ?_; intro j9 t9 t8 h9 tk9 hj9 hj8 F9 N9 keep9; (try dsimp only at N9); (try k_sweep); (try dsimp only))) | (k_here; (with_reducible show wpAny _ _ (subscriptTail _ _ (Value.str _ _) (Value.int _ _)) _ _ _); (refine item_any (by kopn_code) (by w_strict (omega)) (by w_strict (first | omega | ((try simp only [List.length_append, List.length_cons, List.length_nil]); omega))) (by w_strict (first | omega | (simp only [List.length_append, List.length_cons, List.length_nil]; omega))) ?_; intro c9 _ _ hc9))) | walk1) | (leave1; walk_say "STEP leave1"; try dsimp only) | fail "no step"))
        refine unstop ?_
        with_reducible (rename Fr _ _ _ _ => F4; rename News _ _ _ _ => N4; rename _ ∧ _ => l4)
        (obtain ⟨-, -, q1, -, q3, -, -, -, -, q4, q5⟩ := l4)
        exact J1.step (K := ⟨wl, cl, L + 1, wa, wd, tb, tx, oc, xs, es, nd⟩) F4 N4 sub5 o8' q5 off7 (Nat.ne_of_gt q1) (Nat.ne_of_gt q3) (Nat.ne_of_gt q4) (by omega) (by omega) hps ⟨by simp, by simp [hqs], by simp [hqs]; omega⟩ hpsR (by exact rfl) (by exact rfl) (by exact rfl)
end

theorem off_law4 : True := by w_top off; exact trivial
theorem app_ne {a b : List Nat} (h : a ≠ []) : a ++ b ≠ [] := fun e => h (List.append_eq_nil_iff.mp e).1
section
variable {w : World} {mean : ExcName → Option Value} {mg mb : Str → Option Value}
    {dp un : Nat} {gd : Option (List Code)} {cn : Str} {cs : Scope} {a : Addr} {ccd : Value} {cl : List (Str × Addr)} {outer : List Env} {A₀ : Around} {base h₀ : Heap} {L : Addr} {m : Str → Option Value} {s : Shared} {Q E : Value → Shared → Prop} {news : List (Addr × Obj)}
theorem by_use {wv : Value} {x o n : Str} {lx lo ln : List Nat} {t t1 t2 : Tok}
    (B : Below A₀ base outer h₀) (F : Fr h₀ L s.heap m) (X : (kf w.params).In h₀) (N : News h₀ L s.heap news) (T : Top vw lz mean mg mb h₀) (k : cs.kind = .function)
    (hx : x = S lx) (ho : o = S lo) (hn : n = S ln) (h1 : lx.length ≤ 64) (h2 : lo.length ≤ 16) (h4 : lo ≠ []) (h5 : lo.length = ln.length) (d : dp + 24 < recursionLimit) (u : un + 8 * 24 < cLine)
    (ret : ∀ t' h' tk', Fr h₀ L h' m → News h₀ L h' news → Q (.str (S (rep lo ln lx)) t') { s with heap := h', toks := tk' }) :
    wpAny (model pg w) (ktrTop dp un gd cn cs L a ccd cl outer) (call (.ref 246) [wv, .str x t, .str o t1, .str n t2]) Q E s := by
  subst hx ho hn
  refine Cl.use0 B F X N T k (by_ok w mean mg mb wv lx lo ln t t1 t2 h1 h2 (h5 ▸ h2) h4 h5) d u trivial fun v own' h' tk' R F' N' _ _ => ?_
  obtain ⟨t', rfl⟩ := R
  exact ret t' h' tk' F' N'
theorem own_use {x o n : Str} {lx lo ln : List Nat} {t t1 t2 : Tok}
    (B : Below A₀ base outer h₀) (F : Fr h₀ L s.heap m) (X : (kf w.params).In h₀) (N : News h₀ L s.heap news) (T : Top vw lz mean mg mb h₀) (k : cs.kind = .function)
    (hx : x = S lx) (ho : o = S lo) (hn : n = S ln) (h1 : lx.length ≤ 64) (h2 : lo.length ≤ 16) (h4 : lo ≠ []) (h5 : lo.length = ln.length) (d : dp + 4 < recursionLimit) (u : un + 8 * 4 < cLine)
    (ret : ∀ t' h' tk', Fr h₀ L h' m → News h₀ L h' news → Q (.str (S (rep lo ln lx)) t') { s with heap := h', toks := tk' }) :
    wpAny (model pg w) (ktrTop dp un gd cn cs L a ccd cl outer) (call (.ref 251) [.str x t, .str o t1, .str n t2]) Q E s := by
  subst hx ho hn
  refine Cl.use0 B F X N T k (own_cl w mean mg mb lx lo ln t t1 t2 h1 h2 (h5 ▸ h2) h4 h5) d u trivial fun v own' h' tk' R F' N' _ _ => ?_
  obtain ⟨t', rfl⟩ := R
  exact ret t' h' tk' F' N'
theorem rounds_use {x n : Str} {lx nw : List Nat} {t t1 : Tok}
    (B : Below A₀ base outer h₀) (F : Fr h₀ L s.heap m) (X : (kf w.params).In h₀) (N : News h₀ L s.heap news) (T : Top vw lz mean mg mb h₀) (k : cs.kind = .function)
    (hx : x = S lx) (hn : n = S nw) (h1 : lx.length ≤ 8) (h2 : ∀ c ∈ lx, c ∈ sg) (h3 : nw.Perm sg) (d : dp + 4 < recursionLimit) (u : un + 8 * 4 < cLine)
    (ret : ∀ t' h' tk', Fr h₀ L h' m → News h₀ L h' news → Q (.int (lcmOf (per (mapS sg nw)) lx : Int) t') { s with heap := h', toks := tk' }) :
    wpAny (model pg w) (ktrTop dp un gd cn cs L a ccd cl outer) (call (.ref 256) [.str x t, .str n t1]) Q E s := by
  subst hx hn
  refine Cl.use0 B F X N T k (rounds_cl w mean mg mb lx nw _ _ _ (turns_of h3) t t1 h1 h2) d u trivial fun v own' h' tk' R F' N' _ _ => ?_
  obtain ⟨t', rfl⟩ := R
  exact ret t' h' tk' F' N'
theorem thr_use {wa wl c : Addr} {x y o n : List Nat} {ta tb tc td t : Tok} {xs : List Value} {is : List Int} {k : Int} {nn : Nat} {g : Obj → List (Addr × Obj)}
    (B : Below A₀ base outer h₀) (F : Fr h₀ L s.heap m) (X : (kf w.params).In h₀) (N : News h₀ L s.heap news) (T : Top vw lz mean mg mb h₀) (hks : cs.kind = .function)
    (U : UpdF wl (W.listOf [.ref c, .int k t].toArray nn) news g) (h1 : x.length ≤ 8) (h2 : y.length ≤ 8) (h3 : o.length ≤ 8) (h4 : o ≠ []) (h5 : o.length = n.length) (hk0 : 0 ≤ k) (hk : k ≤ 900) (hW : WAt s.heap wa) (hl : s.heap.IsList c xs.toArray) (hI : IntsAre xs is) (hlen : is.length ≤ 64) (hne : @Ne Addr c wl)
    (hd : dp + 40 < recursionLimit) (hu : un + 8 * 40 < cLine)
    (ret : ∀ k' t2 h' tk', Fr h₀ L h' m → News h₀ L h' (g (W.listOf [.ref c, .int k' t2].toArray nn)) → Q (.bool true) { s with heap := h', toks := tk' }) :
    wpAny (model pg w) (ktrTop dp un gd cn cs L a ccd cl outer) (call (.ref 270) [.ref wa, .ref wl, .str (S x) ta, .str (S y) tb, .str (S o) tc, .str (S n) td]) Q E s := by
  obtain ⟨pre, post, rfl, hg, ha, hb⟩ := U.split
  refine Cl.use (rest := pre ++ post) B F X N T hks (thr_cl w mean mg mb wa wl c x y o n ta tb tc td xs is k nn t h1 h2 h3 h4 h5 hk0 hk) hd hu ⟨hW, hl, hI, hlen, hne, (N _ (List.mem_append_right _ (.head _))).1⟩ (fun p hp => by rw [List.mem_singleton.mp hp]; simp) (fun p hp => ?_) fun v own' h' tk' R F' N' keep => ?_
  · rcases List.mem_append.mp hp with q | q
    · exact ⟨List.mem_append_left _ q, by simpa using ha p q⟩
    · exact ⟨List.mem_append_right _ (.tail _ q), by simpa using hb p q⟩
  · obtain ⟨rfl, k', t2, -, -, rfl⟩ := R
    refine ret k' t2 h' tk' F' (fun p hp => N' p ?_)
    rw [hg] at hp
    simp only [List.mem_append, List.mem_cons, List.not_mem_nil, or_false] at hp ⊢
    rcases hp with h | rfl | h
    · exact .inr (.inl h)
    · exact .inl rfl
    · exact .inr (.inr h)
end
theorem map5 {m : Str → Option Value} {a b c d : Value} (h1 : m "world" = some a) (h2 : m "tables" = some b) (h3 : m "texts" = some c) (h4 : m "news" = some d) :
    m = fun (y : Str) => if y = "world" then some a else if y = "tables" then some b else if y = "texts" then some c else if y = "news" then some d else m y := by
  funext y
  split
  · rename_i h; rw [h, h1]
  · split
    · rename_i h; rw [h, h2]
    · split
      · rename_i h; rw [h, h3]
      · split
        · rename_i h; rw [h, h4]
        · rfl
theorem both_yes {o1 n1 o2 n2 x : List Nat} (hx : ∀ c ∈ x, c ∈ sg) : rep o2 n2 (rep o1 n1 x) = rep sg (rep o2 n2 (rep o1 n1 sg)) x := both hx

theorem off_law5 : True := by w_top off; exact trivial
noncomputable def lawBody (k : Nat) : List Stmt := match lawAt k with | .For _ _ body _ _ => body | _ => []
theorem map6 {m : Str → Option Value} {a b c : Value} (h1 : m "world" = some a) (h2 : m "start" = some b) (h3 : m "news" = some c) :
    m = fun (y : Str) => if y = "world" then some a else if y = "start" then some b else if y = "news" then some c else m y := by
  funext y
  split
  · rename_i h; rw [h, h1]
  · split
    · rename_i h; rw [h, h2]
    · split
      · rename_i h; rw [h, h3]
      · rfl
/-- the end of a turn of the loop over the two starts -/
def End5 (g : Heap) (L : Addr) (m : Str → Option Value) (news : List (Addr × Obj)) (s : Shared) (fl : Flow) (s' : Shared) : Prop := fl = .next ∧ ∃ h' tk' m', s' = { s with heap := h', toks := tk' } ∧ Fr g L h' m' ∧ News g L h' news ∧ ∀ z : Str, z ≠ Str.ofString "here" → z ≠ Str.ofString "many" → m' z = m z
theorem ne_S_yes {prog : Program} {w : World} {A : Around} {E : Value → Shared → Prop} {s : Shared} {x y : Str} {l k : List Nat} {t u : Tok} {Q : Value → Shared → Prop} (hx : x = S l) (hy : y = S k) (he : l ≠ k) (h : Q (.bool true) s) : wpAny (model prog w) A (compareOp .NotEq (.str x t) (.str y u)) Q E s :=
  ne_S (b := true) hx hy (by rw [decide_eq_false he]; rfl) h
theorem ne_int_no {prog : Program} {w : World} {A : Around} {E : Value → Shared → Prop} {s : Shared} {i j : Int} {t u : Tok} {Q : Value → Shared → Prop} (he : i = j) (h : Q (.bool false) s) : wpAny (model prog w) A (compareOp .NotEq (.int i t) (.int j u)) Q E s := by
  subst he
  refine PyProof.Rows.ne_int ?_
  rw [show (i != i) = false by simp]; exact h
section
local macro_rules | `(tactic| walk_at "compareOp NotEq int int") => `(tactic| (k_here; (refine' ne_int_no ?e ?_; (case e => omega))))
local macro_rules | `(tactic| walk_at "exec While BoolOp cons nil") => `(tactic| (k_here; (with_reducible show wpAny _ _ (exec (Stmt.While _ _ _ _) _) _ _ _); refine stop ?_))
set_option maxHeartbeats 4000000 in
theorem turn5 (w : World) (mean mg mb) {wa : Addr} {base g h : Heap} {L fa : Addr} {cdv : Value} {m : Str → Option Value} {u0 t0 : Tok} {l nw : List Nat} {news : List (Addr × Obj)} {s : Shared} {Er : Value → Shared → Prop} {tk : Nat}
    (B : Below callerA base [] g) (X : (kf w.params).In g) (T : Top vw lz mean mg mb g) (F : Fr g L h m)
    (N : News g L h news) (hl1 : 1 ≤ l.length) (hl : l.length ≤ 8) (hs : ∀ c ∈ l, c ∈ sg) (hp : nw.Perm sg)
    (m1 : m "world" = some (.ref wa)) (m2 : m "start" = some (.str (S l) u0)) (m3 : m "news" = some (.str (S nw) t0)) :
    wpAny (model pg w) (callerA.deeper (lawEnv L fa cdv)) (execs (lawBody 12) (lawEnv L fa cdv)) (End5 g L m news s) (LawE w L fa cdv Er) { s with heap := h, toks := tk } := by
  obtain ⟨sc, hsc⟩ : ∃ sc, lawScope = sc := ⟨_, rfl⟩
  obtain ⟨st, hst⟩ : ∃ st, lawBody 12 = st := ⟨_, rfl⟩
  unfold LawE lawEnv
  rw [hsc, hst]
  conv at hsc => lhs; whnf
  conv at hst => lhs; whnf
  (try dsimp only at hsc)
  (try dsimp only at hst)
  subst hsc hst
  have F0 := F
  rw [map6 m1 m2 m3] at F
  clear F0
  have hsgl : sg.length = 8 := rfl
  have hnwl : nw.length = 8 := hp.length_eq
  obtain ⟨hM1, hM2⟩ := lcmOf_le (turns_of hp) hs
  refine here_in ?_
  k_fill
  intro _
  (repeat' (first | (k_unfold; (try dsimp only)) | (k_end; wrow_close) | ((with_reducible show wpAny _ _ (execs (_ :: _) _) _ _ ⟨_, _, _, _ + _, _⟩); refine absTok ?_; intro tk) | (with_reducible first | (k_here; (with_reducible show wpAny _ _ (compareOp CmpOp.NotEq (Value.str _ _) (Value.str _ _)) _ _ _); first | (refine ne_S_no (by kopn_code) (by kopn_code) (by assumption) ?_) | (refine ne_S_yes (by kopn_code) (by kopn_code) (by assumption) ?_)) | (k_here; (with_reducible show wpAny _ _ (call (Value.ref 256) [_, _]) _ _ _); k_dflt (refine Mine.rounds_use (by k_asm) (by k_asm) (by k_asm) (by k_asm) (by k_asm) (by w_strict (first | exact rfl | assumption)) (by w_strict (first | with_reducible exact lit_signs | kopn_code)) (by w_strict (first | with_reducible exact lit_signs | kopn_code)) (by w_strict (omega)) (by w_strict (first | assumption | exact fun _ h => h)) (by assumption) (by k_room) (by k_units) ?_; intro t9 h9 tk9 F9 N9; (try k_sweep); (try dsimp only))) | (k_here; (with_reducible show wpAny _ _ (call (Value.ref 246) [_, _, _, _]) _ _ _); k_dflt (refine Mine.by_use (by k_asm) (by k_asm) (by k_asm) (by k_asm) (by k_asm) (by w_strict (first | exact rfl | assumption)) (by w_strict (first | with_reducible exact lit_signs | kopn_code)) (by w_strict (first | with_reducible exact lit_signs | kopn_code)) (by w_strict (first | with_reducible exact lit_signs | kopn_code)) (by w_strict (((try simp only [rep_len, List.length_append, List.length_map]); (try omega); done))) (by w_strict (((try simp only [rep_len, List.length_append, List.length_map]); (try omega); done))) (by w_strict ((first | assumption | decide | exact app_ne (by assumption)))) (by w_strict (((try simp only [rep_len, List.length_append, List.length_map]); (try omega); done))) (by k_room) (by k_units) ?_; intro t9 h9 tk9 F9 N9; (try k_sweep); (try dsimp only)))) | walk1 | (dsimp only; first | (with_reducible first | (k_here; (with_reducible show wpAny _ _ (compareOp CmpOp.NotEq (Value.str _ _) (Value.str _ _)) _ _ _); first | (refine ne_S_no (by kopn_code) (by kopn_code) (by assumption) ?_) | (refine ne_S_yes (by kopn_code) (by kopn_code) (by assumption) ?_)) | (k_here; (with_reducible show wpAny _ _ (call (Value.ref 256) [_, _]) _ _ _); k_dflt (refine Mine.rounds_use (by k_asm) (by k_asm) (by k_asm) (by k_asm) (by k_asm) (by w_strict (first | exact rfl | assumption)) (by w_strict (first | with_reducible exact lit_signs | kopn_code)) (by w_strict (first | with_reducible exact lit_signs | kopn_code)) (by w_strict (omega)) (by w_strict (first | assumption | exact fun _ h => h)) (by assumption) (by k_room) (by k_units) ?_; intro t9 h9 tk9 F9 N9; (try k_sweep); (try dsimp only))) | (k_here; (with_reducible show wpAny _ _ (call (Value.ref 246) [_, _, _, _]) _ _ _); k_dflt (refine Mine.by_use (by k_asm) (by k_asm) (by k_asm) (by k_asm) (by k_asm) (by w_strict (first | exact rfl | assumption)) (by w_strict (first | with_reducible exact lit_signs | kopn_code)) (by w_strict (first | with_reducible exact lit_signs | kopn_code)) (by w_strict (first | with_reducible exact lit_signs | kopn_code)) (by w_strict (((try simp only [rep_len, List.length_append, List.length_map]); (try omega); done))) (by w_strict (((try simp only [rep_len, List.length_append, List.length_map]); (try omega); done))) (by w_strict ((first | assumption | decide | exact app_ne (by assumption)))) (by w_strict (((try simp only [rep_len, List.length_append, List.length_map]); (try omega); done))) (by k_room) (by k_units) ?_; intro t9 h9 tk9 F9 N9; (try k_sweep); (try dsimp only)))) | walk1) | (leave1; walk_say "STEP leave1"; try dsimp only) | fail "no step"))
  refine unstop ?_
  with_reducible (rename Fr _ _ _ _ => F9; rename News _ _ _ _ => N9)
  have N8 : News g L _ news := fun p hp => N9 p (.tail _ hp)
  have e1 : rep sg nw l = l.map (it (mapS sg nw) 1) := rfl
  rw [e1] at F9
  clear N9
  refine while_g (L := L) (α := Nat) (fun _ => news) (fun a => [(Str.ofString "here", .str (S (l.map (it (mapS sg nw) a)))), (Str.ofString "many", .int (a : Int))]) [] (fun a => 1 ≤ a ∧ a ≤ lcmOf (per (mapS sg nw)) l) (fun a => 16 - a) 1 (fun _ => (by decide +kernel : [Str.ofString "here", Str.ofString "many"].Nodup)) F9 N8 ?_ ⟨Nat.le_refl _, hM1⟩ ?_
  · intro p hp
    rcases List.mem_cons.mp hp with rfl | hp
    · exact ⟨_, by exact rfl⟩
    · rcases List.mem_singleton.mp hp with rfl
      exact ⟨_, by exact rfl⟩
  · intro a ts u h6 tk6 ⟨ha1, ha2⟩ F6 N6
    dsimp only [kstB, List.map] at F6 N6 ⊢
    simp only [List.contains_nil, Bool.false_eq_true, if_false] at F6
    clear F9 N8
    by_cases hb : List.map (it (mapS sg nw) a) l = l
    · have hd := (it_back hp hs a).mp hb
      have ha : lcmOf (per (mapS sg nw)) l = a := Nat.le_antisymm (Nat.le_of_dvd (by omega) hd) ha2
      (repeat' (first | (k_unfold; (try dsimp only)) | (k_end; wrow_close) | ((with_reducible show wpAny _ _ (execs (_ :: _) _) _ _ ⟨_, _, _, _ + _, _⟩); refine absTok ?_; intro tk) | (with_reducible first | (k_here; (with_reducible show wpAny _ _ (compareOp CmpOp.NotEq (Value.str _ _) (Value.str _ _)) _ _ _); first | (refine ne_S_no (by kopn_code) (by kopn_code) (by assumption) ?_) | (refine ne_S_yes (by kopn_code) (by kopn_code) (by assumption) ?_)) | (k_here; (with_reducible show wpAny _ _ (call (Value.ref 256) [_, _]) _ _ _); k_dflt (refine Mine.rounds_use (by k_asm) (by k_asm) (by k_asm) (by k_asm) (by k_asm) (by w_strict (first | exact rfl | assumption)) (by w_strict (first | with_reducible exact lit_signs | kopn_code)) (by w_strict (first | with_reducible exact lit_signs | kopn_code)) (by w_strict (omega)) (by w_strict (first | assumption | exact fun _ h => h)) (by assumption) (by k_room) (by k_units) ?_; intro t9 h9 tk9 F9 N9; (try k_sweep); (try dsimp only))) | (k_here; (with_reducible show wpAny _ _ (call (Value.ref 246) [_, _, _, _]) _ _ _); k_dflt (refine Mine.by_use (by k_asm) (by k_asm) (by k_asm) (by k_asm) (by k_asm) (by w_strict (first | exact rfl | assumption)) (by w_strict (first | with_reducible exact lit_signs | kopn_code)) (by w_strict (first | with_reducible exact lit_signs | kopn_code)) (by w_strict (first | with_reducible exact lit_signs | kopn_code)) (by w_strict (((try simp only [rep_len, List.length_append, List.length_map]); (try omega); done))) (by w_strict (((try simp only [rep_len, List.length_append, List.length_map]); (try omega); done))) (by w_strict ((first | assumption | decide | exact app_ne (by assumption)))) (by w_strict (((try simp only [rep_len, List.length_append, List.length_map]); (try omega); done))) (by k_room) (by k_units) ?_; intro t9 h9 tk9 F9 N9; (try k_sweep); (try dsimp only)))) | walk1 | (dsimp only; first | (with_reducible first | (k_here; (with_reducible show wpAny _ _ (compareOp CmpOp.NotEq (Value.str _ _) (Value.str _ _)) _ _ _); first | (refine ne_S_no (by kopn_code) (by kopn_code) (by assumption) ?_) | (refine ne_S_yes (by kopn_code) (by kopn_code) (by assumption) ?_)) | (k_here; (with_reducible show wpAny _ _ (call (Value.ref 256) [_, _]) _ _ _); k_dflt (refine Mine.rounds_use (by k_asm) (by k_asm) (by k_asm) (by k_asm) (by k_asm) (by w_strict (first | exact rfl | assumption)) (by w_strict (first | with_reducible exact lit_signs | kopn_code)) (by w_strict (first | with_reducible exact lit_signs | kopn_code)) (by w_strict (omega)) (by w_strict (first | assumption | exact fun _ h => h)) (by assumption) (by k_room) (by k_units) ?_; intro t9 h9 tk9 F9 N9; (try k_sweep); (try dsimp only))) | (k_here; (with_reducible show wpAny _ _ (call (Value.ref 246) [_, _, _, _]) _ _ _); k_dflt (refine Mine.by_use (by k_asm) (by k_asm) (by k_asm) (by k_asm) (by k_asm) (by w_strict (first | exact rfl | assumption)) (by w_strict (first | with_reducible exact lit_signs | kopn_code)) (by w_strict (first | with_reducible exact lit_signs | kopn_code)) (by w_strict (first | with_reducible exact lit_signs | kopn_code)) (by w_strict (((try simp only [rep_len, List.length_append, List.length_map]); (try omega); done))) (by w_strict (((try simp only [rep_len, List.length_append, List.length_map]); (try omega); done))) (by w_strict ((first | assumption | decide | exact app_ne (by assumption)))) (by w_strict (((try simp only [rep_len, List.length_append, List.length_map]); (try omega); done))) (by k_room) (by k_units) ?_; intro t9 h9 tk9 F9 N9; (try k_sweep); (try dsimp only)))) | walk1) | (leave1; walk_say "STEP leave1"; try dsimp only) | fail "no step"))
      with_reducible (rename Fr _ _ _ _ => F5; rename News _ _ _ _ => N5)
      refine ⟨rfl, _, _, _, rfl, F5, N5, fun z h1 h2 => ?_⟩
      (try dsimp only)
      rw [if_neg h1, if_neg h2, if_neg h1, if_neg h2]
      exact (congrFun (map6 m1 m2 m3) z).symm
    · have ha : a < lcmOf (per (mapS sg nw)) l := by
        refine Nat.lt_of_le_of_ne ha2 fun e => hb ((it_back hp hs a).mpr (e ▸ Nat.dvd_refl _))
      have ha16 : (a : Int) < 16 := by omega
      (repeat' (first | (k_unfold; (try dsimp only)) | (k_end; wrow_close) | ((with_reducible show wpAny _ _ (execs (_ :: _) _) _ _ ⟨_, _, _, _ + _, _⟩); refine absTok ?_; intro tk) | (with_reducible first | (k_here; (with_reducible show wpAny _ _ (compareOp CmpOp.NotEq (Value.str _ _) (Value.str _ _)) _ _ _); first | (refine ne_S_no (by kopn_code) (by kopn_code) (by assumption) ?_) | (refine ne_S_yes (by kopn_code) (by kopn_code) (by assumption) ?_)) | (k_here; (with_reducible show wpAny _ _ (call (Value.ref 256) [_, _]) _ _ _); k_dflt (refine Mine.rounds_use (by k_asm) (by k_asm) (by k_asm) (by k_asm) (by k_asm) (by w_strict (first | exact rfl | assumption)) (by w_strict (first | with_reducible exact lit_signs | kopn_code)) (by w_strict (first | with_reducible exact lit_signs | kopn_code)) (by w_strict (omega)) (by w_strict (first | assumption | exact fun _ h => h)) (by assumption) (by k_room) (by k_units) ?_; intro t9 h9 tk9 F9 N9; (try k_sweep); (try dsimp only))) | (k_here; (with_reducible show wpAny _ _ (call (Value.ref 246) [_, _, _, _]) _ _ _); k_dflt (refine Mine.by_use (by k_asm) (by k_asm) (by k_asm) (by k_asm) (by k_asm) (by w_strict (first | exact rfl | assumption)) (by w_strict (first | with_reducible exact lit_signs | kopn_code)) (by w_strict (first | with_reducible exact lit_signs | kopn_code)) (by w_strict (first | with_reducible exact lit_signs | kopn_code)) (by w_strict (((try simp only [rep_len, List.length_append, List.length_map]); (try omega); done))) (by w_strict (((try simp only [rep_len, List.length_append, List.length_map]); (try omega); done))) (by w_strict ((first | assumption | decide | exact app_ne (by assumption)))) (by w_strict (((try simp only [rep_len, List.length_append, List.length_map]); (try omega); done))) (by k_room) (by k_units) ?_; intro t9 h9 tk9 F9 N9; (try k_sweep); (try dsimp only)))) | walk1 | (dsimp only; first | (with_reducible first | (k_here; (with_reducible show wpAny _ _ (compareOp CmpOp.NotEq (Value.str _ _) (Value.str _ _)) _ _ _); first | (refine ne_S_no (by kopn_code) (by kopn_code) (by assumption) ?_) | (refine ne_S_yes (by kopn_code) (by kopn_code) (by assumption) ?_)) | (k_here; (with_reducible show wpAny _ _ (call (Value.ref 256) [_, _]) _ _ _); k_dflt (refine Mine.rounds_use (by k_asm) (by k_asm) (by k_asm) (by k_asm) (by k_asm) (by w_strict (first | exact rfl | assumption)) (by w_strict (first | with_reducible exact lit_signs | kopn_code)) (by w_strict (first | with_reducible exact lit_signs | kopn_code)) (by w_strict (omega)) (by w_strict (first | assumption | exact fun _ h => h)) (by assumption) (by k_room) (by k_units) ?_; intro t9 h9 tk9 F9 N9; (try k_sweep); (try dsimp only))) | (k_here; (with_reducible show wpAny _ _ (call (Value.ref 246) [_, _, _, _]) _ _ _); k_dflt (refine Mine.by_use (by k_asm) (by k_asm) (by k_asm) (by k_asm) (by k_asm) (by w_strict (first | exact rfl | assumption)) (by w_strict (first | with_reducible exact lit_signs | kopn_code)) (by w_strict (first | with_reducible exact lit_signs | kopn_code)) (by w_strict (first | with_reducible exact lit_signs | kopn_code)) (by w_strict (((try simp only [rep_len, List.length_append, List.length_map]); (try omega); done))) (by w_strict (((try simp only [rep_len, List.length_append, List.length_map]); (try omega); done))) (by w_strict ((first | assumption | decide | exact app_ne (by assumption)))) (by w_strict (((try simp only [rep_len, List.length_append, List.length_map]); (try omega); done))) (by k_room) (by k_units) ?_; intro t9 h9 tk9 F9 N9; (try k_sweep); (try dsimp only)))) | walk1) | (leave1; walk_say "STEP leave1"; try dsimp only) | fail "no step"))
      with_reducible (rename Fr _ _ _ _ => F5; rename News _ _ _ _ => N5)
      rw [← rep_it] at F5
      refine WEnd.mk (a + 1) F5 N5 (fun p hp => .tail _ hp) ?_ ?_ ⟨by omega, by omega⟩ (by omega)
      · intro p hp
        rcases List.mem_cons.mp hp with rfl | hp
        · exact ⟨_, by exact rfl⟩
        · rcases List.mem_singleton.mp hp with rfl
          exact ⟨_, by exact rfl⟩
      · intro z hz _
        have h1 : z ≠ Str.ofString "here" := hz _ (.head _)
        have h2 : z ≠ Str.ofString "many" := hz _ (.tail _ (.head _))
        (try dsimp only)
        rw [if_neg h1, if_neg h2, if_neg h1, if_neg h2]
end

theorem off_law6 : True := by w_top off; exact trivial
theorem map7 {m : Str → Option Value} {a b c d e : Value} (h1 : m "world" = some a) (h2 : m "text" = some b) (h3 : m "news" = some c) (h4 : m "olds" = some d) (h5 : m "first" = some e) :
    m = fun (y : Str) => if y = "world" then some a else if y = "text" then some b else if y = "news" then some c else if y = "olds" then some d else if y = "first" then some e else m y := by
  funext y
  split
  · rename_i h; rw [h, h1]
  · split
    · rename_i h; rw [h, h2]
    · split
      · rename_i h; rw [h, h3]
      · split
        · rename_i h; rw [h, h4]
        · split
          · rename_i h; rw [h, h5]
          · rfl
/-- law's end: True, and the base kept -/
def End6 (base : Heap) (s : Shared) (fl : Flow) (s' : Shared) : Prop := fl = .ret (.bool true) ∧ ∃ h' tk', s' = { s with heap := h', toks := tk' } ∧ base.StaysIn h'
section
local macro_rules | `(tactic| walk_at "call ref") => `(tactic| (k_here; (with_reducible show wpAny _ _ (call (Value.ref 277) _) _ _ _); refine stop ?_))
local macro_rules | `(tactic| walk_at "pyIter ref") => `(tactic| (rename Mark2 => mk9; refine stop ?_))
local macro_rules | `(tactic| walk_at "call ref") => `(tactic| (k_here; (with_reducible show wpAny _ _ (call (Value.ref 270) _) _ _ _); refine stop ?_))
local macro_rules | `(tactic| walk_at "exec For Name List cons nil") => `(tactic| (k_here; refine stop ?_))
set_option maxHeartbeats 8000000 in
theorem chunk4 (w : World) (mean mg mb) (is : List Int) {wl cl wa wd tb tx q1 q2 : Addr} {xs : List Value} {es : List DictEntry} {nd : Nat} {base g h : Heap} {L fa : Addr} {cdv : Value} {m : Str → Option Value} {k : Int} {t t0 u1 u2 u3 u4 u5 u6 : Tok} {nn nb nx : Nat} {oc : Obj} {o1 n1 o2 n2 x1 x2 nw : List Nat} {s : Shared} {Er : Value → Shared → Prop} {tk : Nat}
    (B : Below callerA base [] g) (X : (kf w.params).In g) (T : Top vw lz mean mg mb g) (XB : (kf w.params).In base) (TB : Top vw lz mean mg mb base) (F : Fr g L h m)
    (N : News g L h ((wl, W.listOf [.ref cl, .int k t].toArray nn) :: (tb, W.listOf [.ref q1, .ref q2].toArray nb) :: (q1, tupObj [.str (S o1) u1, .str (S n1) u2]) :: (q2, tupObj [.str (S o2) u3, .str (S n2) u4]) :: (tx, W.listOf [.str (S x1) u5, .str (S x2) u6].toArray nx) :: (cl, W.listOf xs.toArray 0) :: (L + 1, oc) :: (wa, instObj 221 wd) :: (wd, dictOf es nd) :: []))
    (hoc : oc.data = .cell (some (.ref wl))) (hint : IntsAre xs is) (hlen : is.length ≤ 64) (hne : @Ne Addr cl wl)
    (hoff : ∀ p ∈ ((tb, W.listOf [.ref q1, .ref q2].toArray nb) :: (q1, tupObj [.str (S o1) u1, .str (S n1) u2]) :: (q2, tupObj [.str (S o2) u3, .str (S n2) u4]) :: (tx, W.listOf [.str (S x1) u5, .str (S x2) u6].toArray nx) :: (cl, W.listOf xs.toArray 0) :: (L + 1, oc) :: (wa, instObj 221 wd) :: (wd, dictOf es nd) :: []), p.1 ≠ wl)
    (hW : (∃ t, getL (Str.ofString "width") es = some (some (.int 32 t))) ∧ (∃ t, getL (Str.ofString "most_length") es = some (some (.int 5000 t)))) (hk0 : 0 ≤ k) (hk1 : k ≤ 900)
    (t1 : Tab o1 n1) (t2 : Tab o2 n2) (hx1 : 1 ≤ x1.length ∧ x1.length ≤ 6 ∧ ∀ c ∈ x1, c ∈ sg) (hx2 : 1 ≤ x2.length ∧ x2.length ≤ 6 ∧ ∀ c ∈ x2, c ∈ sg) (hp : nw.Perm sg)
    (m1 : m "world" = some (.ref wa)) (m2 : m "tables" = some (.ref tb)) (m3 : m "texts" = some (.ref tx)) (m4 : m "news" = some (.str (S nw) t0)) :
    wpAny (model pg w) (callerA.deeper (lawEnv L fa cdv)) (execs (lawFrom 5) (lawEnv L fa cdv)) (End6 base s) (LawE w L fa cdv Er) { s with heap := h, toks := tk } := by
  obtain ⟨sc, hsc⟩ : ∃ sc, lawScope = sc := ⟨_, rfl⟩
  obtain ⟨st, hst⟩ : ∃ st, lawFrom 5 = st := ⟨_, rfl⟩
  unfold LawE lawEnv
  rw [hsc, hst]
  conv at hsc => lhs; whnf
  conv at hst => lhs; whnf
  (try dsimp only at hsc)
  (try dsimp only at hst)
  subst hsc hst
  rw [map5 m1 m2 m3 m4] at F
  clear m1 m2 m3 m4
  have hsgl : sg.length = 8 := rfl
  have hnwl : nw.length = 8 := hp.length_eq
  obtain ⟨t1a, t1b, t1c⟩ := t1
  obtain ⟨t2a, t2b, t2c⟩ := t2
  obtain ⟨x1a, x1b, x1c⟩ := hx1
  obtain ⟨x2a, x2b, x2c⟩ := hx2
  have o1n : o1 ≠ [] := List.length_pos_iff.mp t1b
  have o2n : o2 ≠ [] := List.length_pos_iff.mp t2b
  have n0n : nw ≠ [] := List.length_pos_iff.mp (by omega)
  refine here_in ?_
  k_fill
  intro _
  (repeat' (first | (k_unfold; (try dsimp only)) | (k_end; wrow_close) | ((with_reducible show wpAny _ _ (execs (_ :: _) _) _ _ ⟨_, _, _, _ + _, _⟩); refine absTok ?_; intro tk) | (with_reducible first | (k_here; (with_reducible show wpAny _ _ (compareOp CmpOp.NotEq (Value.str _ _) (Value.str _ _)) _ _ _); (refine ne_S_no (by kopn_code) (by kopn_code) (by w_strict (first | with_reducible rfl | exact both_yes (by assumption))) ?_)) | (k_here; (with_reducible show wpAny _ _ (compareOp CmpOp.Eq (Value.str _ _) (Value.str _ _)) _ _ _); (refine eq_S_yes (by kopn_code) (by kopn_code) (by w_strict (exact undo (by assumption) (by assumption))) ?_)) | (k_here; (with_reducible show wpAny _ _ (call (Value.ref 251) [_, _, _]) _ _ _); k_dflt (refine Mine.own_use (by k_asm) (by k_asm) (by k_asm) (by k_asm) (by k_asm) (by w_strict (first | exact rfl | assumption)) (by w_strict (first | with_reducible exact lit_signs | kopn_code)) (by w_strict (first | with_reducible exact lit_signs | kopn_code)) (by w_strict (first | with_reducible exact lit_signs | kopn_code)) (by w_strict (((try simp only [rep_len, List.length_append, List.length_map]); (try omega); done))) (by w_strict (((try simp only [rep_len, List.length_append, List.length_map]); (try omega); done))) (by w_strict ((first | assumption | decide | exact app_ne (by assumption)))) (by w_strict (((try simp only [rep_len, List.length_append, List.length_map]); (try omega); done))) (by k_room) (by k_units) ?_; intro t9 h9 tk9 F9 N9; (try k_sweep); (try dsimp only))) | (k_here; (with_reducible show wpAny _ _ (call (Value.ref 246) [_, _, _, _]) _ _ _); k_dflt (refine Mine.by_use (by k_asm) (by k_asm) (by k_asm) (by k_asm) (by k_asm) (by w_strict (first | exact rfl | assumption)) (by w_strict (first | with_reducible exact lit_signs | kopn_code)) (by w_strict (first | with_reducible exact lit_signs | kopn_code)) (by w_strict (first | with_reducible exact lit_signs | kopn_code)) (by w_strict (((try simp only [rep_len, List.length_append, List.length_map]); (try omega); done))) (by w_strict (((try simp only [rep_len, List.length_append, List.length_map]); (try omega); done))) (by w_strict ((first | assumption | decide | exact app_ne (by assumption)))) (by w_strict (((try simp only [rep_len, List.length_append, List.length_map]); (try omega); done))) (by k_room) (by k_units) ?_; intro t9 h9 tk9 F9 N9; (try k_sweep); (try dsimp only))) | (k_here; (with_reducible show wpAny _ _ (binaryOp Operator.Add (Value.str _ _) (Value.str _ _)) _ _ _); (refine add_S (by kopn_code) (by kopn_code) (by w_strict (((try simp only [rep_len, List.length_append, List.length_cons, List.length_nil, List.length_drop, List.length_take]); omega))) ?_; intro _ _))) | walk1 | (dsimp only; first | (with_reducible first | (k_here; (with_reducible show wpAny _ _ (compareOp CmpOp.NotEq (Value.str _ _) (Value.str _ _)) _ _ _); (refine ne_S_no (by kopn_code) (by kopn_code) (by w_strict (first | with_reducible rfl | exact both_yes (by assumption))) ?_)) | (k_here; (with_reducible show wpAny _ _ (compareOp CmpOp.Eq (Value.str _ _) (Value.str _ _)) _ _ _); (refine eq_S_yes (by kopn_code) (by kopn_code) (by w_strict (exact undo (by assumption) (by assumption))) ?_)) | (k_here; (with_reducible show wpAny _ _ (call (Value.ref 251) [_, _, _]) _ _ _); k_dflt (refine Mine.own_use (by k_asm) (by k_asm) (by k_asm) (by k_asm) (by k_asm) (by w_strict (first | exact rfl | assumption)) (by w_strict (first | with_reducible exact lit_signs | kopn_code)) (by w_strict (first | with_reducible exact lit_signs | kopn_code)) (by w_strict (first | with_reducible exact lit_signs | kopn_code)) (by w_strict (((try simp only [rep_len, List.length_append, List.length_map]); (try omega); done))) (by w_strict (((try simp only [rep_len, List.length_append, List.length_map]); (try omega); done))) (by w_strict ((first | assumption | decide | exact app_ne (by assumption)))) (by w_strict (((try simp only [rep_len, List.length_append, List.length_map]); (try omega); done))) (by k_room) (by k_units) ?_; intro t9 h9 tk9 F9 N9; (try k_sweep); (try dsimp only))) | (k_here; (with_reducible show wpAny _ _ (call (Value.ref 246) [_, _, _, _]) _ _ _); k_dflt (refine Mine.by_use (by k_asm) (by k_asm) (by k_asm) (by k_asm) (by k_asm) (by w_strict (first | exact rfl | assumption)) (by w_strict (first | with_reducible exact lit_signs | kopn_code)) (by w_strict (first | with_reducible exact lit_signs | kopn_code)) (by w_strict (first | with_reducible exact lit_signs | kopn_code)) (by w_strict (((try simp only [rep_len, List.length_append, List.length_map]); (try omega); done))) (by w_strict (((try simp only [rep_len, List.length_append, List.length_map]); (try omega); done))) (by w_strict ((first | assumption | decide | exact app_ne (by assumption)))) (by w_strict (((try simp only [rep_len, List.length_append, List.length_map]); (try omega); done))) (by k_room) (by k_units) ?_; intro t9 h9 tk9 F9 N9; (try k_sweep); (try dsimp only))) | (k_here; (with_reducible show wpAny _ _ (binaryOp Operator.Add (Value.str _ _) (Value.str _ _)) _ _ _); (refine add_S (by kopn_code) (by kopn_code) (by w_strict (((try simp only [rep_len, List.length_append, List.length_cons, List.length_nil, List.length_drop, List.length_take]); omega))) ?_; intro _ _))) | walk1) | (leave1; walk_say "STEP leave1"; try dsimp only) | fail "no step"))
  refine unstop ?_
  with_reducible (rename Fr _ _ _ _ => F9; rename News _ _ _ _ => N9)
  refine' Mine.thr_use ?B ?F ?X ?N ?T ?k (UpdF.head hoff) ?h1 ?h2 ?h3 ?h4 ?h5 hk0 hk1 ?hW ?hl hint hlen hne ?d ?u ?_
  (((case B => k_asm); (case F => k_asm); (case X => k_asm); (case N => k_asm); (case T => k_asm); (case k => first | exact rfl | assumption); (case d => k_room); (case u => k_units)))
  case h1 => omega
  case h2 => omega
  case h3 => omega
  case h4 => exact o1n
  case h5 => exact t1a
  case hW => exact ⟨wd, es, nd, _, (N9 (wa, instObj 221 wd) (by k_mem)).1, (N9 (wd, dictOf es nd) (by k_mem)).1, hW⟩
  case hl => is_list
  intro k8 t8 h8 tk8 F8 N8
  (try dsimp only at N8)
  (try k_sweep)
  (try dsimp only)
  (repeat' (first | (k_unfold; (try dsimp only)) | (k_end; wrow_close) | ((with_reducible show wpAny _ _ (execs (_ :: _) _) _ _ ⟨_, _, _, _ + _, _⟩); refine absTok ?_; intro tk) | (with_reducible first | (k_here; (with_reducible show wpAny _ _ (compareOp CmpOp.NotEq (Value.str _ _) (Value.str _ _)) _ _ _); (refine ne_S_no (by kopn_code) (by kopn_code) (by w_strict (first | with_reducible rfl | exact both_yes (by assumption))) ?_)) | (k_here; (with_reducible show wpAny _ _ (compareOp CmpOp.Eq (Value.str _ _) (Value.str _ _)) _ _ _); (refine eq_S_yes (by kopn_code) (by kopn_code) (by w_strict (exact undo (by assumption) (by assumption))) ?_)) | (k_here; (with_reducible show wpAny _ _ (call (Value.ref 251) [_, _, _]) _ _ _); k_dflt (refine Mine.own_use (by k_asm) (by k_asm) (by k_asm) (by k_asm) (by k_asm) (by w_strict (first | exact rfl | assumption)) (by w_strict (first | with_reducible exact lit_signs | kopn_code)) (by w_strict (first | with_reducible exact lit_signs | kopn_code)) (by w_strict (first | with_reducible exact lit_signs | kopn_code)) (by w_strict (((try simp only [rep_len, List.length_append, List.length_map]); (try omega); done))) (by w_strict (((try simp only [rep_len, List.length_append, List.length_map]); (try omega); done))) (by w_strict ((first | assumption | decide | exact app_ne (by assumption)))) (by w_strict (((try simp only [rep_len, List.length_append, List.length_map]); (try omega); done))) (by k_room) (by k_units) ?_; intro t9 h9 tk9 F9 N9; (try k_sweep); (try dsimp only))) | (k_here; (with_reducible show wpAny _ _ (call (Value.ref 246) [_, _, _, _]) _ _ _); k_dflt (refine Mine.by_use (by k_asm) (by k_asm) (by k_asm) (by k_asm) (by k_asm) (by w_strict (first | exact rfl | assumption)) (by w_strict (first | with_reducible exact lit_signs | kopn_code)) (by w_strict (first | with_reducible exact lit_signs | kopn_code)) (by w_strict (first | with_reducible exact lit_signs | kopn_code)) (by w_strict (((try simp only [rep_len, List.length_append, List.length_map]); (try omega); done))) (by w_strict (((try simp only [rep_len, List.length_append, List.length_map]); (try omega); done))) (by w_strict ((first | assumption | decide | exact app_ne (by assumption)))) (by w_strict (((try simp only [rep_len, List.length_append, List.length_map]); (try omega); done))) (by k_room) (by k_units) ?_; intro t9 h9 tk9 F9 N9; (try k_sweep); (try dsimp only))) | (k_here; (with_reducible show wpAny _ _ (binaryOp Operator.Add (Value.str _ _) (Value.str _ _)) _ _ _); (refine add_S (by kopn_code) (by kopn_code) (by w_strict (((try simp only [rep_len, List.length_append, List.length_cons, List.length_nil, List.length_drop, List.length_take]); omega))) ?_; intro _ _))) | walk1 | (dsimp only; first | (with_reducible first | (k_here; (with_reducible show wpAny _ _ (compareOp CmpOp.NotEq (Value.str _ _) (Value.str _ _)) _ _ _); (refine ne_S_no (by kopn_code) (by kopn_code) (by w_strict (first | with_reducible rfl | exact both_yes (by assumption))) ?_)) | (k_here; (with_reducible show wpAny _ _ (compareOp CmpOp.Eq (Value.str _ _) (Value.str _ _)) _ _ _); (refine eq_S_yes (by kopn_code) (by kopn_code) (by w_strict (exact undo (by assumption) (by assumption))) ?_)) | (k_here; (with_reducible show wpAny _ _ (call (Value.ref 251) [_, _, _]) _ _ _); k_dflt (refine Mine.own_use (by k_asm) (by k_asm) (by k_asm) (by k_asm) (by k_asm) (by w_strict (first | exact rfl | assumption)) (by w_strict (first | with_reducible exact lit_signs | kopn_code)) (by w_strict (first | with_reducible exact lit_signs | kopn_code)) (by w_strict (first | with_reducible exact lit_signs | kopn_code)) (by w_strict (((try simp only [rep_len, List.length_append, List.length_map]); (try omega); done))) (by w_strict (((try simp only [rep_len, List.length_append, List.length_map]); (try omega); done))) (by w_strict ((first | assumption | decide | exact app_ne (by assumption)))) (by w_strict (((try simp only [rep_len, List.length_append, List.length_map]); (try omega); done))) (by k_room) (by k_units) ?_; intro t9 h9 tk9 F9 N9; (try k_sweep); (try dsimp only))) | (k_here; (with_reducible show wpAny _ _ (call (Value.ref 246) [_, _, _, _]) _ _ _); k_dflt (refine Mine.by_use (by k_asm) (by k_asm) (by k_asm) (by k_asm) (by k_asm) (by w_strict (first | exact rfl | assumption)) (by w_strict (first | with_reducible exact lit_signs | kopn_code)) (by w_strict (first | with_reducible exact lit_signs | kopn_code)) (by w_strict (first | with_reducible exact lit_signs | kopn_code)) (by w_strict (((try simp only [rep_len, List.length_append, List.length_map]); (try omega); done))) (by w_strict (((try simp only [rep_len, List.length_append, List.length_map]); (try omega); done))) (by w_strict ((first | assumption | decide | exact app_ne (by assumption)))) (by w_strict (((try simp only [rep_len, List.length_append, List.length_map]); (try omega); done))) (by k_room) (by k_units) ?_; intro t9 h9 tk9 F9 N9; (try k_sweep); (try dsimp only))) | (k_here; (with_reducible show wpAny _ _ (binaryOp Operator.Add (Value.str _ _) (Value.str _ _)) _ _ _); (refine add_S (by kopn_code) (by kopn_code) (by w_strict (((try simp only [rep_len, List.length_append, List.length_cons, List.length_nil, List.length_drop, List.length_take]); omega))) ?_; intro _ _))) | walk1) | (leave1; walk_say "STEP leave1"; try dsimp only) | fail "no step"))
  refine unstop ?_
  with_reducible (rename Fr _ _ _ _ => F7; rename News _ _ _ _ => N7)
  refine For_invVF F7 (by exact rfl) (by exact rfl) ?_
  have mk2 : Mark2 := trivial
  (repeat' (first | (k_unfold; (try dsimp only)) | (k_end; wrow_close) | ((with_reducible show wpAny _ _ (execs (_ :: _) _) _ _ ⟨_, _, _, _ + _, _⟩); refine absTok ?_; intro tk) | (with_reducible first | (k_here; (with_reducible show wpAny _ _ (compareOp CmpOp.NotEq (Value.str _ _) (Value.str _ _)) _ _ _); (refine ne_S_no (by kopn_code) (by kopn_code) (by w_strict (first | with_reducible rfl | exact both_yes (by assumption))) ?_)) | (k_here; (with_reducible show wpAny _ _ (compareOp CmpOp.Eq (Value.str _ _) (Value.str _ _)) _ _ _); (refine eq_S_yes (by kopn_code) (by kopn_code) (by w_strict (exact undo (by assumption) (by assumption))) ?_)) | (k_here; (with_reducible show wpAny _ _ (call (Value.ref 251) [_, _, _]) _ _ _); k_dflt (refine Mine.own_use (by k_asm) (by k_asm) (by k_asm) (by k_asm) (by k_asm) (by w_strict (first | exact rfl | assumption)) (by w_strict (first | with_reducible exact lit_signs | kopn_code)) (by w_strict (first | with_reducible exact lit_signs | kopn_code)) (by w_strict (first | with_reducible exact lit_signs | kopn_code)) (by w_strict (((try simp only [rep_len, List.length_append, List.length_map]); (try omega); done))) (by w_strict (((try simp only [rep_len, List.length_append, List.length_map]); (try omega); done))) (by w_strict ((first | assumption | decide | exact app_ne (by assumption)))) (by w_strict (((try simp only [rep_len, List.length_append, List.length_map]); (try omega); done))) (by k_room) (by k_units) ?_; intro t9 h9 tk9 F9 N9; (try k_sweep); (try dsimp only))) | (k_here; (with_reducible show wpAny _ _ (call (Value.ref 246) [_, _, _, _]) _ _ _); k_dflt (refine Mine.by_use (by k_asm) (by k_asm) (by k_asm) (by k_asm) (by k_asm) (by w_strict (first | exact rfl | assumption)) (by w_strict (first | with_reducible exact lit_signs | kopn_code)) (by w_strict (first | with_reducible exact lit_signs | kopn_code)) (by w_strict (first | with_reducible exact lit_signs | kopn_code)) (by w_strict (((try simp only [rep_len, List.length_append, List.length_map]); (try omega); done))) (by w_strict (((try simp only [rep_len, List.length_append, List.length_map]); (try omega); done))) (by w_strict ((first | assumption | decide | exact app_ne (by assumption)))) (by w_strict (((try simp only [rep_len, List.length_append, List.length_map]); (try omega); done))) (by k_room) (by k_units) ?_; intro t9 h9 tk9 F9 N9; (try k_sweep); (try dsimp only))) | (k_here; (with_reducible show wpAny _ _ (binaryOp Operator.Add (Value.str _ _) (Value.str _ _)) _ _ _); (refine add_S (by kopn_code) (by kopn_code) (by w_strict (((try simp only [rep_len, List.length_append, List.length_cons, List.length_nil, List.length_drop, List.length_take]); omega))) ?_; intro _ _))) | walk1 | (dsimp only; first | (with_reducible first | (k_here; (with_reducible show wpAny _ _ (compareOp CmpOp.NotEq (Value.str _ _) (Value.str _ _)) _ _ _); (refine ne_S_no (by kopn_code) (by kopn_code) (by w_strict (first | with_reducible rfl | exact both_yes (by assumption))) ?_)) | (k_here; (with_reducible show wpAny _ _ (compareOp CmpOp.Eq (Value.str _ _) (Value.str _ _)) _ _ _); (refine eq_S_yes (by kopn_code) (by kopn_code) (by w_strict (exact undo (by assumption) (by assumption))) ?_)) | (k_here; (with_reducible show wpAny _ _ (call (Value.ref 251) [_, _, _]) _ _ _); k_dflt (refine Mine.own_use (by k_asm) (by k_asm) (by k_asm) (by k_asm) (by k_asm) (by w_strict (first | exact rfl | assumption)) (by w_strict (first | with_reducible exact lit_signs | kopn_code)) (by w_strict (first | with_reducible exact lit_signs | kopn_code)) (by w_strict (first | with_reducible exact lit_signs | kopn_code)) (by w_strict (((try simp only [rep_len, List.length_append, List.length_map]); (try omega); done))) (by w_strict (((try simp only [rep_len, List.length_append, List.length_map]); (try omega); done))) (by w_strict ((first | assumption | decide | exact app_ne (by assumption)))) (by w_strict (((try simp only [rep_len, List.length_append, List.length_map]); (try omega); done))) (by k_room) (by k_units) ?_; intro t9 h9 tk9 F9 N9; (try k_sweep); (try dsimp only))) | (k_here; (with_reducible show wpAny _ _ (call (Value.ref 246) [_, _, _, _]) _ _ _); k_dflt (refine Mine.by_use (by k_asm) (by k_asm) (by k_asm) (by k_asm) (by k_asm) (by w_strict (first | exact rfl | assumption)) (by w_strict (first | with_reducible exact lit_signs | kopn_code)) (by w_strict (first | with_reducible exact lit_signs | kopn_code)) (by w_strict (first | with_reducible exact lit_signs | kopn_code)) (by w_strict (((try simp only [rep_len, List.length_append, List.length_map]); (try omega); done))) (by w_strict (((try simp only [rep_len, List.length_append, List.length_map]); (try omega); done))) (by w_strict ((first | assumption | decide | exact app_ne (by assumption)))) (by w_strict (((try simp only [rep_len, List.length_append, List.length_map]); (try omega); done))) (by k_room) (by k_units) ?_; intro t9 h9 tk9 F9 N9; (try k_sweep); (try dsimp only))) | (k_here; (with_reducible show wpAny _ _ (binaryOp Operator.Add (Value.str _ _) (Value.str _ _)) _ _ _); (refine add_S (by kopn_code) (by kopn_code) (by w_strict (((try simp only [rep_len, List.length_append, List.length_cons, List.length_nil, List.length_drop, List.length_take]); omega))) ?_; intro _ _))) | walk1) | (leave1; walk_say "STEP leave1"; try dsimp only) | fail "no step"))
  refine unstop ?_
  with_reducible (rename Mark2 => mk9; clear mk9)
  with_reducible (rename Fr _ _ _ _ => F6; rename News _ _ _ _ => N6)
  refine iter_listUnr rfl F6 N6 (.head _) rfl rfl (fun I hI => ?_)
  refine ListRest.succ (fun it6 h6 tk6 hit6 F5 N5 => ?_)
  refine wpAny_mono (turn5 (l := x1) (s := s) (Er := Er) w mean mg mb B X T F5 N5 (by omega) (by omega) x1c hp (by exact rfl) (by exact rfl) (by exact rfl)) (fun fl s' he => ?_) fun _ _ e => e
  obtain ⟨rfl, h5, tk5, m5, rfl, F4, N4, hm5⟩ := he
  refine ⟨h5, tk5, m5, _, rfl, F4, N4, (fun p hp => Nat.ne_of_lt (hI p hp)), .head _, ?_⟩
  clear F5 N5
  refine ListRest.succ (fun it7 h7 tk7 hit7 F3 N3 => ?_)
  clear F4 N4
  refine wpAny_mono (turn5 (l := sg) (s := s) (Er := Er) w mean mg mb B X T F3 N3 (by decide) (by decide) (fun _ h => h) hp ((hm5 _ (by decide +kernel) (by decide +kernel)).trans (by exact rfl)) (by rw [← lit_signs]; exact rfl) ((hm5 _ (by decide +kernel) (by decide +kernel)).trans (by exact rfl))) (fun fl s' he => ?_) fun _ _ e => e
  obtain ⟨rfl, h8, tk8, m8, rfl, F4, N4, hm8⟩ := he
  refine ⟨h8, tk8, m8, _, rfl, F4, N4, (fun p hp => Nat.ne_of_lt (hI p hp)), .head _, ?_⟩
  clear F3 N3
  refine ListRest.zero (fun h2 tk2 F3 N3 => ?_)
  clear F4 N4
  have key : ∀ z : Str, z ≠ Str.ofString "here" → z ≠ Str.ofString "many" → z ≠ Str.ofString "start" → m8 z = _ := fun z a b c => ((hm8 z a b).trans (if_neg c)).trans ((hm5 z a b).trans (if_neg c))
  have F2 : Fr g L h2 m8 := F3
  rw [map7 (a := .ref wa) (b := .str (S x1) u5) (c := .str (S nw) t0) (d := .str (S o1) u1) (e := .str (S n1) u2) ((key _ (by decide +kernel) (by decide +kernel) (by decide +kernel)).trans (by exact rfl)) ((key _ (by decide +kernel) (by decide +kernel) (by decide +kernel)).trans (by exact rfl)) ((key _ (by decide +kernel) (by decide +kernel) (by decide +kernel)).trans (by exact rfl)) ((key _ (by decide +kernel) (by decide +kernel) (by decide +kernel)).trans (by exact rfl)) ((key _ (by decide +kernel) (by decide +kernel) (by decide +kernel)).trans (by exact rfl))] at F2
  clear F3 hm5 hm8 key
  dsimp only
  (repeat' (first | (k_unfold; (try dsimp only)) | (k_end; wrow_close) | ((with_reducible show wpAny _ _ (execs (_ :: _) _) _ _ ⟨_, _, _, _ + _, _⟩); refine absTok ?_; intro tk) | (with_reducible first | (k_here; (with_reducible show wpAny _ _ (compareOp CmpOp.NotEq (Value.str _ _) (Value.str _ _)) _ _ _); (refine ne_S_no (by kopn_code) (by kopn_code) (by w_strict (first | with_reducible rfl | exact both_yes (by assumption))) ?_)) | (k_here; (with_reducible show wpAny _ _ (compareOp CmpOp.Eq (Value.str _ _) (Value.str _ _)) _ _ _); (refine eq_S_yes (by kopn_code) (by kopn_code) (by w_strict (exact undo (by assumption) (by assumption))) ?_)) | (k_here; (with_reducible show wpAny _ _ (call (Value.ref 251) [_, _, _]) _ _ _); k_dflt (refine Mine.own_use (by k_asm) (by k_asm) (by k_asm) (by k_asm) (by k_asm) (by w_strict (first | exact rfl | assumption)) (by w_strict (first | with_reducible exact lit_signs | kopn_code)) (by w_strict (first | with_reducible exact lit_signs | kopn_code)) (by w_strict (first | with_reducible exact lit_signs | kopn_code)) (by w_strict (((try simp only [rep_len, List.length_append, List.length_map]); (try omega); done))) (by w_strict (((try simp only [rep_len, List.length_append, List.length_map]); (try omega); done))) (by w_strict ((first | assumption | decide | exact app_ne (by assumption)))) (by w_strict (((try simp only [rep_len, List.length_append, List.length_map]); (try omega); done))) (by k_room) (by k_units) ?_; intro t9 h9 tk9 F9 N9; (try k_sweep); (try dsimp only))) | (k_here; (with_reducible show wpAny _ _ (call (Value.ref 246) [_, _, _, _]) _ _ _); k_dflt (refine Mine.by_use (by k_asm) (by k_asm) (by k_asm) (by k_asm) (by k_asm) (by w_strict (first | exact rfl | assumption)) (by w_strict (first | with_reducible exact lit_signs | kopn_code)) (by w_strict (first | with_reducible exact lit_signs | kopn_code)) (by w_strict (first | with_reducible exact lit_signs | kopn_code)) (by w_strict (((try simp only [rep_len, List.length_append, List.length_map]); (try omega); done))) (by w_strict (((try simp only [rep_len, List.length_append, List.length_map]); (try omega); done))) (by w_strict ((first | assumption | decide | exact app_ne (by assumption)))) (by w_strict (((try simp only [rep_len, List.length_append, List.length_map]); (try omega); done))) (by k_room) (by k_units) ?_; intro t9 h9 tk9 F9 N9; (try k_sweep); (try dsimp only))) | (k_here; (with_reducible show wpAny _ _ (binaryOp Operator.Add (Value.str _ _) (Value.str _ _)) _ _ _); (refine add_S (by kopn_code) (by kopn_code) (by w_strict (((try simp only [rep_len, List.length_append, List.length_cons, List.length_nil, List.length_drop, List.length_take]); omega))) ?_; intro _ _))) | walk1 | (dsimp only; first | (with_reducible first | (k_here; (with_reducible show wpAny _ _ (compareOp CmpOp.NotEq (Value.str _ _) (Value.str _ _)) _ _ _); (refine ne_S_no (by kopn_code) (by kopn_code) (by w_strict (first | with_reducible rfl | exact both_yes (by assumption))) ?_)) | (k_here; (with_reducible show wpAny _ _ (compareOp CmpOp.Eq (Value.str _ _) (Value.str _ _)) _ _ _); (refine eq_S_yes (by kopn_code) (by kopn_code) (by w_strict (exact undo (by assumption) (by assumption))) ?_)) | (k_here; (with_reducible show wpAny _ _ (call (Value.ref 251) [_, _, _]) _ _ _); k_dflt (refine Mine.own_use (by k_asm) (by k_asm) (by k_asm) (by k_asm) (by k_asm) (by w_strict (first | exact rfl | assumption)) (by w_strict (first | with_reducible exact lit_signs | kopn_code)) (by w_strict (first | with_reducible exact lit_signs | kopn_code)) (by w_strict (first | with_reducible exact lit_signs | kopn_code)) (by w_strict (((try simp only [rep_len, List.length_append, List.length_map]); (try omega); done))) (by w_strict (((try simp only [rep_len, List.length_append, List.length_map]); (try omega); done))) (by w_strict ((first | assumption | decide | exact app_ne (by assumption)))) (by w_strict (((try simp only [rep_len, List.length_append, List.length_map]); (try omega); done))) (by k_room) (by k_units) ?_; intro t9 h9 tk9 F9 N9; (try k_sweep); (try dsimp only))) | (k_here; (with_reducible show wpAny _ _ (call (Value.ref 246) [_, _, _, _]) _ _ _); k_dflt (refine Mine.by_use (by k_asm) (by k_asm) (by k_asm) (by k_asm) (by k_asm) (by w_strict (first | exact rfl | assumption)) (by w_strict (first | with_reducible exact lit_signs | kopn_code)) (by w_strict (first | with_reducible exact lit_signs | kopn_code)) (by w_strict (first | with_reducible exact lit_signs | kopn_code)) (by w_strict (((try simp only [rep_len, List.length_append, List.length_map]); (try omega); done))) (by w_strict (((try simp only [rep_len, List.length_append, List.length_map]); (try omega); done))) (by w_strict ((first | assumption | decide | exact app_ne (by assumption)))) (by w_strict (((try simp only [rep_len, List.length_append, List.length_map]); (try omega); done))) (by k_room) (by k_units) ?_; intro t9 h9 tk9 F9 N9; (try k_sweep); (try dsimp only))) | (k_here; (with_reducible show wpAny _ _ (binaryOp Operator.Add (Value.str _ _) (Value.str _ _)) _ _ _); (refine add_S (by kopn_code) (by kopn_code) (by w_strict (((try simp only [rep_len, List.length_append, List.length_cons, List.length_nil, List.length_drop, List.length_take]); omega))) ?_; intro _ _))) | walk1) | (leave1; walk_say "STEP leave1"; try dsimp only) | fail "no step"))
  refine unstop ?_
  with_reducible (rename Fr _ _ _ _ => F9)
  refine' fails_cl w mean mg mb (.ref wa) x1 o1 n1 u5 u1 u2 (by omega) (by omega) o1n t1a _ _ _ _ _ _ _ _ _ _ base g L _ _ _ _ ?B ?F ?X ?T ?k XB TB ?d ?u trivial ?_
  case B => k_asm
  case F => exact F9
  case X => k_asm
  case T => k_asm
  case k => first | exact rfl | assumption
  case d => k_room
  case u => k_units
  intro h9 tk9 hb
  exact ⟨rfl, h9, tk9, rfl, hb⟩
end

theorem off_law7 : True := by w_top off; exact trivial
theorem gnNe_all {d : Addr} : ∀ {l : List (Addr × Obj)}, GnNe d l → ∀ p ∈ l, p.1 ≠ d
  | [], _, _, h => nomatch h
  | _ :: _, x, p, h => by
    rcases List.mem_cons.mp h with rfl | h
    · exact x.1
    · exact gnNe_all x.2 p h
theorem two_off {a b q : Addr} (h1 : @Ne Nat q a) (h2 : @Ne Nat q b) : ∀ e ∈ [a, b], q ≠ e := fun e he => by
  rcases List.mem_cons.mp he with rfl | he
  · exact h1
  · rcases List.mem_singleton.mp he with rfl
    exact h2
theorem sig_eq : signs (Str.ofString "abcdef12") = (sg.map fun c => [c]).map S := by decide +kernel
section
local macro_rules | `(tactic| walk_at "exec For Name Call cons nil") => `(tactic| (k_here; rename Marker => mk9; refine stop ?_))
local macro_rules | `(tactic| walk_at "exec While Compare cons nil") => `(tactic| (k_here; (with_reducible show wpAny _ _ (exec (Stmt.While _ _ _ _) _) _ _ _); refine stop ?_))
set_option maxHeartbeats 8000000 in
theorem rest_holds (w : World) (mean mg mb) (is : List Int) {wl cl wa wd tb tx : Addr} {xs : List Value} {es : List DictEntry} {nd : Nat} {base g h : Heap} {L fa : Addr} {cdv : Value} {m : Str → Option Value} {t : Tok} {nn nb nx : Nat} {oc : Obj} {s : Shared} {Er : Value → Shared → Prop} {tk : Nat}
    (B : Below callerA base [] g) (X : (kf w.params).In g) (T : Top vw lz mean mg mb g) (XB : (kf w.params).In base) (TB : Top vw lz mean mg mb base) (F : Fr g L h m)
    (ok : LawK.Ok ⟨wl, cl, L + 1, wa, wd, tb, tx, oc, xs, es, nd⟩ is)
    (N : News g L h ((wl, W.listOf [.ref cl, .int 0 t].toArray nn) :: (tb, W.listOf #[] nb) :: (cl, W.listOf xs.toArray 0) :: (L + 1, oc) :: (wa, instObj 221 wd) :: (wd, dictOf es nd) :: (tx, W.listOf #[] nx) :: []))
    (hW : (∃ t, getL (Str.ofString "width") es = some (some (.int 32 t))) ∧ (∃ t, getL (Str.ofString "most_length") es = some (some (.int 5000 t))))
    (m1 : m "world" = some (.ref wa)) (m2 : m "tables" = some (.ref tb)) (m3 : m "texts" = some (.ref tx)) :
    wpAny (model pg w) (callerA.deeper (lawEnv L fa cdv)) (execs (lawFrom 1) (lawEnv L fa cdv)) (End6 base s) (LawE w L fa cdv Er) { s with heap := h, toks := tk } := by
  obtain ⟨sc, hsc⟩ : ∃ sc, lawScope = sc := ⟨_, rfl⟩
  obtain ⟨st, hst⟩ : ∃ st, lawFrom 1 = st := ⟨_, rfl⟩
  unfold LawE lawEnv
  rw [hsc, hst]
  conv at hsc => lhs; whnf
  conv at hst => lhs; whnf
  (try dsimp only at hsc)
  (try dsimp only at hst)
  subst hsc hst
  refine here_in ?_
  k_fill
  intro _
  have mk1 : Marker := trivial
  (repeat' (first | (k_unfold; (try dsimp only)) | (k_end; wrow_close) | ((with_reducible show wpAny _ _ (execs (_ :: _) _) _ _ ⟨_, _, _, _ + _, _⟩); refine absTok ?_; intro tk) | walk1 | (dsimp only; first | walk1) | (leave1; walk_say "STEP leave1"; try dsimp only) | fail "no step"))
  with_reducible (rename Marker => mk9; clear mk9)
  refine unstop ?_
  refine chunk1 (k := 0) w mean mg mb ⟨wl, cl, L + 1, wa, wd, tb, tx, oc, xs, es, nd⟩ is ok (W.listOf #[] nx) B X T F N (fun p hp => nomatch hp) m1 m2 m3 rfl (fun h2 tk2 m2' news2 J F2 N2 => ?_)
  clear F N m1 m2 m3
  obtain ⟨k2, t2, nn2, nb2, R2, ps, rfl, off2, hk2, hk2', hps, hpsR, m1, m2, m3⟩ := J
  obtain ⟨⟨q1, o1, n1⟩, ⟨q2, o2, n2⟩, rfl⟩ : ∃ p1 p2, ps = [p1, p2] := by
    match ps, hps with
    | [a, b], _ => exact ⟨a, b, rfl⟩
  obtain ⟨tab1, u1, u2, mem1⟩ := hpsR _ (.head _)
  obtain ⟨tab2, u3, u4, mem2⟩ := hpsR _ (.tail _ (.head _))
  clear hps hpsR
  dsimp only
  have mk1 : Marker := trivial
  (repeat' (first | (k_unfold; (try dsimp only)) | (k_end; wrow_close) | ((with_reducible show wpAny _ _ (execs (_ :: _) _) _ _ ⟨_, _, _, _ + _, _⟩); refine absTok ?_; intro tk) | walk1 | (dsimp only; first | walk1) | (leave1; walk_say "STEP leave1"; try dsimp only) | fail "no step"))
  with_reducible (rename Marker => mk9; clear mk9)
  refine unstop ?_
  dsimp only [LawK.well, LawK.rest] at N2 off2 m1 m2 m3
  have N2' := News.sub N2 (inL (.head _) (inL (.tail _ (.tail _ (.tail _ (.tail _ (.tail _ (.tail _ (.head _))))))) (inL (.tail _ (.tail _ (.head _))) (inL (.tail _ (.tail _ (.tail _ (.head _)))) (inL (.tail _ (.tail _ (.tail _ (.tail _ (.head _))))) (inL (.tail _ (.tail _ (.tail _ (.tail _ (.tail _ (.head _)))))) (inL (.tail _ (.head _)) (fun p hp => .tail _ (.tail _ (.tail _ (.tail _ (.tail _ (.tail _ (.tail _ hp))))))))))))))
  refine chunk2 w mean mg mb ⟨wl, cl, L + 1, wa, wd, tb, tx, oc, xs, es, nd⟩ is ok _ B X T F2 N2' off2 hk2 (by omega) m1 m2 m3 rfl (fun h3 tk3 m3' news3 J F3 N3 => ?_)
  clear F2 N2 N2' m1 m2 m3
  obtain ⟨k3, t3, nn3, nx3, R3, its3, ts, rfl, sub3, off3, hk3, hk3', hs3, hts, htsR, m1, m2, m3⟩ := J
  obtain ⟨x1, x2, rfl⟩ : ∃ x1 x2, ts = [x1, x2] := by
    match ts, hts with
    | [a, b], _ => exact ⟨a, b, rfl⟩
  have hx1 := htsR _ (.head _)
  have hx2 := htsR _ (.tail _ (.head _))
  clear hts htsR
  cases hs3 with
  | cons _ u5 hs3 =>
  cases hs3 with
  | cons _ u6 hs3 =>
  cases hs3
  dsimp only [LawK.well, LawK.rest] at N3 off3 m1 m2 m3
  rw [map3 m1 m2 m3] at F3
  dsimp only
  (repeat' (first | (k_unfold; (try dsimp only)) | (k_end; wrow_close) | ((with_reducible show wpAny _ _ (execs (_ :: _) _) _ _ ⟨_, _, _, _ + _, _⟩); refine absTok ?_; intro tk) | walk1 | (dsimp only; first | walk1) | (leave1; walk_say "STEP leave1"; try dsimp only) | fail "no step"))
  refine unstop ?_
  with_reducible (rename Fr _ _ _ _ => F4; rename News _ _ _ _ => N4; rename CarriedAll _ _ => hC; rename _ ∧ _ => gA)
  obtain ⟨gA1, gA2, gA3, gA4, gA5, gA6, gA7, gA8⟩ := gA
  have gN := gnNe_all gA8
  have hsig := StrsAre.ofCarried hC
  rw [sig_eq] at hsig
  obtain ⟨z1, z2, z3, z4, z5, z6, z7, ⟨z8, z9, z10⟩, ⟨z11, z12, z13, z14⟩, z15, z16, z17, z18⟩ := ok
  dsimp only at *
  have N4' := News.sub N4 (inL (.tail _ (.tail _ (.head _))) (inL (.tail _ (.head _)) (inL (.tail _ (.tail _ (.tail _ (.tail _ (.head _))))) (inL (.tail _ (.tail _ (.tail _ (.tail _ (.tail _ (.head _)))))) (inL (.tail _ (.tail _ (.tail _ (.head _)))) (inL (.tail _ (.tail _ (.tail _ (.tail _ (.tail _ (.tail _ (.head _))))))) (inL (.tail _ (.tail _ (.tail _ (.tail _ (.tail _ (.tail _ (.tail _ (.head _)))))))) (inL (.tail _ (.tail _ (.tail _ (.tail _ (.tail _ (.tail _ (.tail _ (.tail _ (.head _))))))))) (fun p hp => .tail _ (.tail _ (.tail _ (.tail _ (.tail _ (.tail _ (.tail _ (.tail _ (.tail _ hp)))))))))))))))))
  have offR : OwnOff ((tx, W.listOf [.str (S x1) u5, .str (S x2) u6].toArray nx3) :: (wa, instObj 221 wd) :: (wd, dictOf es nd) :: (tb, W.listOf (List.map (fun q : Addr × List Nat × List Nat => Value.ref q.1) [(q1, o1, n1), (q2, o2, n2)]).toArray nb2) :: R3) [wl, h3.objs.size] :=
    OwnOff.more (OwnOff.more (OwnOff.more (OwnOff.more (fun p hp => two_off (off3 p hp _ (.head _)) (gN p hp)) (two_off (Ne.symm z5) gA7)) (two_off (Ne.symm z10) gA6)) (two_off (Ne.symm z9) gA5)) (two_off (Ne.symm z6) gA2)
  refine chunk3 w mean mg mb is B X T F4 N4' z1 z2 z3 z4 gA1 (Ne.symm gA3) z8 (Ne.symm gA4) offR hk3 (by omega) hsig (by exact rfl) (by rw [← lit_nil]; exact rfl) (fun h5 tk5 k5 t5 its5 nl5 nw tn m5 hp hk5 hk5' mn mo F5 N5 => ?_)
  clear F4
  dsimp only
  have N5' := News.sub N5 (l := (wl, _) :: (tb, W.listOf [.ref q1, .ref q2].toArray nb2) :: (q1, tupObj [.str (S o1) u1, .str (S n1) u2]) :: (q2, tupObj [.str (S o2) u3, .str (S n2) u4]) :: (tx, W.listOf [.str (S x1) u5, .str (S x2) u6].toArray nx3) :: (cl, W.listOf xs.toArray 0) :: (L + 1, oc) :: (wa, instObj 221 wd) :: (wd, dictOf es nd) :: []) (inL (.head _) (inL (.tail _ (.tail _ (.tail _ (.tail _ (.tail _ (.tail _ (.tail _ (.head _)))))))) (inL (.tail _ (.tail _ (.tail _ (.tail _ (.tail _ (.tail _ (.tail _ (.tail _ (sub3 _ mem1))))))))) (inL (.tail _ (.tail _ (.tail _ (.tail _ (.tail _ (.tail _ (.tail _ (.tail _ (sub3 _ mem2))))))))) (inL (.tail _ (.tail _ (.tail _ (.tail _ (.head _))))) (inL (.tail _ (.tail _ (.head _))) (inL (.tail _ (.tail _ (.tail _ (.head _)))) (inL (.tail _ (.tail _ (.tail _ (.tail _ (.tail _ (.head _)))))) (inL (.tail _ (.tail _ (.tail _ (.tail _ (.tail _ (.tail _ (.head _))))))) (fun _ h => nomatch h))))))))))
  refine chunk4 w mean mg mb is B X T XB TB F5 N5' z1 z2 z3 z4 ?_ hW hk5 (by omega) tab1 tab2 hx1 hx2 hp ((mo _ (by decide +kernel)).trans (by exact rfl)) ((mo _ (by decide +kernel)).trans (by exact rfl)) ((mo _ (by decide +kernel)).trans (by exact rfl)) mn
  exact List.forall_mem_cons.mpr ⟨Ne.symm z5, List.forall_mem_cons.mpr ⟨off3 _ (sub3 _ mem1) _ (.head _), List.forall_mem_cons.mpr ⟨off3 _ (sub3 _ mem2) _ (.head _), List.forall_mem_cons.mpr ⟨Ne.symm z6, List.forall_mem_cons.mpr ⟨z4, List.forall_mem_cons.mpr ⟨Ne.symm z8, List.forall_mem_cons.mpr ⟨Ne.symm z9, List.forall_mem_cons.mpr ⟨Ne.symm z10, fun _ h => nomatch h⟩⟩⟩⟩⟩⟩⟩⟩
end

theorem off_law : True := by w_top off; exact trivial
theorem inNil {α : Type} {all : List α} : ∀ p ∈ ([] : List α), p ∈ all := fun _ h => nomatch h
theorem ints_some {xs : List Value} {is : List Int} (h : IntsAre xs (List.take 48 is)) : ∃ js, IntsAre xs js ∧ js.length ≤ 64 := ⟨_, h, by rw [List.length_take]; omega⟩
theorem post_true (a : List WData) : PySem.Challenge.rw_sa0591_01.row.claim.post a (.bool true) a = true :=
  postW_of (X := (true == true)) (r := PySem.Challenge.rw_sa0591_01.row.toRowW) (by exact rfl) (w_eq_bool (w_res rfl) w_lit) rfl
/-- the names of a dict's entries, and the numbers that they hold -/
def intOf : Value → Option Int
  | .int i _ => some i
  | _ => none
theorem intOf_int {i : Int} {t : Tok} : intOf (.int i t) = some i := rfl
theorem intOf_ref {a : Addr} : intOf (.ref a) = Option.none := rfl
theorem intOf_none : intOf .none = Option.none := rfl
def KeyE (e : DictEntry) (p : Str × Option Int) : Prop := (∃ t, e.key = .str p.1 t) ∧ ∀ i, p.2 = some i → ∃ t, e.val = .int i t
inductive Keys : List DictEntry → List (Str × Option Int) → Prop
  | nil : Keys [] []
  | cons {e p es l} : KeyE e p → Keys es l → Keys (e :: es) (p :: l)
theorem Keys.len : ∀ {es l}, Keys es l → es.length = l.length
  | _, _, .nil => rfl
  | _, _, .cons _ r => congrArg (· + 1) r.len
theorem Keys.snoc {e p} (h : KeyE e p) : ∀ {es l}, Keys es l → Keys (es ++ [e]) (l ++ [p])
  | _, _, .nil => .cons h .nil
  | _, _, .cons q r => .cons q (Keys.snoc h r)
theorem KeyE.is {e : DictEntry} {p : Str × Option Int} (h : KeyE e p) (n : Str) : e.key.isStr n = (p.1 == n) := by
  obtain ⟨⟨t, ht⟩, _⟩ := h
  rw [ht]; rfl
theorem Keys.none {n : Str} : ∀ {es l}, Keys es l → l.any (·.1 == n) = false → es.any (·.key.isStr n) = false
  | _, _, .nil, _ => rfl
  | _, _, .cons q r, h => by
    rw [List.any_cons, Bool.or_eq_false_iff] at h
    rw [List.any_cons, q.is, h.1, Keys.none r h.2]; rfl
theorem Keys.noRef : ∀ {es l}, Keys es l → es.any (·.refKey) = false
  | _, _, .nil => rfl
  | _, _, .cons q r => by
    obtain ⟨⟨t, ht⟩, _⟩ := q
    rw [List.any_cons, Keys.noRef r, Bool.or_false]
    show DictEntry.refKey _ = false
    unfold DictEntry.refKey
    rw [ht]
theorem putL_new {n : Str} {hs : Int} {k v : Value} : ∀ {es : List DictEntry}, es.any (·.key.isStr n) = false → putL n hs k v es = es ++ [⟨hs, k, v⟩]
  | [], _ => rfl
  | e :: r, h => by
    rw [List.any_cons, Bool.or_eq_false_iff] at h
    rw [putL, h.1, List.cons_append, ← putL_new h.2]; rfl
theorem find_new {n : Str} : ∀ {es : List DictEntry}, es.any (·.key.isStr n) = false → es.find? (·.key.isStr n) = Option.none
  | [], _ => rfl
  | e :: r, h => by
    rw [List.any_cons, Bool.or_eq_false_iff] at h
    rw [List.find?_cons, h.1]; exact find_new h.2
theorem Keys.get {n : Str} {i : Int} : ∀ {es l}, Keys es l → l.lookup n = some (some i) → ∃ t, getL n es = some (some (.int i t))
  | _, _, .nil, h => nomatch h
  | _, _, .cons (e := e) (p := p) q r, h => by
    unfold getL
    rw [List.lookup_cons] at h
    rw [List.find?_cons, q.is]
    have hc : (n == p.1) = (p.1 == n) := by
      rw [Bool.eq_iff_iff, beq_iff_eq, beq_iff_eq]; exact eq_comm
    rw [hc] at h
    cases hb : (p.1 == n) with
    | true =>
      rw [hb] at h
      obtain ⟨t, ht⟩ := q.2 i (Option.some.inj h)
      exact ⟨t, by show some (some e.val) = _; rw [ht]⟩
    | false =>
      rw [hb] at h
      obtain ⟨t, ht⟩ := Keys.get r h
      refine ⟨t, ?_⟩
      unfold getL at ht
      cases hf : List.find? (fun x : DictEntry => x.key.isStr n) _ with
      | none => rw [hf] at ht; rw [Keys.noRef r] at ht; simp at ht
      | some y => rw [hf] at ht; exact ht
/-- the names that the world's maker stores, in their order -/
def attrs : List Str := [Str.ofString "width", Str.ofString "most_steps", Str.ofString "most_depth", Str.ofString "most_length", Str.ofString "most_items", Str.ofString "store", Str.ofString "functions", Str.ofString "labels", Str.ofString "keywords", Str.ofString "opsyns", Str.ofString "inputs", Str.ofString "outputs", Str.ofString "traces", Str.ofString "read_names", Str.ofString "write_names", Str.ofString "traced", Str.ofString "steps", Str.ofString "depth", Str.ofString "nested", Str.ofString "aside", Str.ofString "made", Str.ofString "holders", Str.ofString "evaluate", Str.ofString "make_code", Str.ofString "matcher", Str.ofString "kept_names"]
theorem attrs_once : ((List.range attrs.length).all fun k => !(attrs.take k).any (· == attrs.getD k default)) = true := by decide +kernel
theorem attr_new {l : List (Str × Option Int)} {name : Str} (hk : l.map (·.1) = attrs.take l.length) (hm : attrs[l.length]? = some name) : l.any (·.1 == name) = false := by
  have h := List.all_eq_true.mp attrs_once l.length (List.mem_range.mpr (List.getElem?_eq_some_iff.mp hm).1)
  rw [List.getD_eq_getElem?_getD, hm] at h
  have e : l.any (·.1 == name) = (l.map (·.1)).any (· == name) := by rw [List.any_map]; rfl
  rw [e, hk]
  simpa using h
theorem set_new {w : World} {A : Around} {E : Value → Shared → Prop} {s : Shared} {K : Frag} {h₀ : Heap} {L : Addr} {m : Str → Option Value} {news : List (Addr × Obj)} {news' : List DictEntry → Nat → List (Addr × Obj)} {x C dx : Addr} {ox : Obj} {name : Str} {v : Value} {es : List DictEntry} {n : Nat} {l : List (Str × Option Int)} {oi : Option Int}
    {Q : Unit → Shared → Prop} (F : Fr h₀ L s.heap m) (X₀ : K.In h₀) (N : News h₀ L s.heap news) (I : InstAt s.heap x ox C (some (dictOf es n))) (hd : ox.dict = some dx)
    (hs : findIn K (.ref C) "__setattr__" = some (some (.builtin "object.__setattr__"))) (hp : plainOver K C = true) (ht : takerIn K C name = some none) (hh : hasDictIn K C = true)
    (KS : Keys es l) (hn : l.any (·.1 == name) = false) (hi : intOf v = oi) (hz : Nat.ble (l.length + 1) 1000 = true) (U : ∀ es' n', Upd dx (dictOf es n) (dictOf es' n') news (news' es' n'))
    (h : ∀ h' es' n', Keys es' (l ++ [(name, oi)]) → Fr h₀ L h' m → News h₀ L h' (news' es' n') → Q () { s with heap := h', toks := s.toks + 2 }) :
    wpAny (model pg w) A (setAttr (.ref x) name v) Q E s := by
  have h0 := KS.none hn
  refine set_dict F X₀ N I hd hs hp ht hh (by unfold getL; rw [find_new h0, KS.noRef]; rfl) (Prod.ext (putL_new h0) rfl) (U _ _) (by rw [List.length_append, KS.len]; exact Nat.le_of_ble_eq_true hz) fun h' F' N' => h h' _ _ (KS.snoc ⟨⟨_, rfl⟩, fun i e => ?_⟩) F' N'
  dsimp only at e
  subst hi
  cases v <;> simp [intOf] at e
  subst e
  exact ⟨_, rfl⟩
section
set_option maxHeartbeats 8000000 in
theorem law_holds : PySem.Challenge.rw_sa0591_01.Holds := by
  refine top_holds (by exact rfl) (by exact rfl) (by exact rfl) ?_
  k_fill
  intro w s₀ s₁ mg mb G Y fa o pm cd doc dV kV ho hd hcd hD hmg hg args vals as hpre hlay hrd hwl hlo
  have mk : Marker := trivial
  have ks0 : Keys [] [] := .nil
  have KX := kIn_of Y
  -- the steps behind the ground, typed out: a quick look (k_qdec) would lay a twin of the whole program (2.9 MB)
  have X := (Ground.X G).1
  have V := (Ground.X G).2
  refine Ground.open G ?_
  intro T B D TE TW
  try (refine guard_noD D (by decide +kernel) ?_; clear D)
  obtain ⟨_, _, M⟩ := bmod_of_top T
  have TA := at_of_top T
  try (obtain ⟨_, _, he, B0⟩ := based_of_top T rfl hmg ho hd; have he' : cd = _ := he; subst he'; clear he)
  clear hmg
  wrow_args hpre hlay hrd hwl hlo
  all_goals (
    first | refine callC_kw (enter_call ?_) | refine enter_call ?_ | refine callC_kw (enter_callW ?_) | refine enter_callW ?_
    w_top on
    try refine codeAny_mono ?_ (fun _ _ g => GoodW.toG g)
    have K0 := below_caller (Top.heap T)
    w_call any ho hd hcd hD T F
    clear hd TA
    k_drop
    skip)
  (repeat' (first | (k_unfold; (try dsimp only)) | (k_end; wrow_close) | ((with_reducible show wpAny _ _ (execs (_ :: _) _) _ _ ⟨_, _, _, _ + _, _⟩); refine absTok ?_; intro tk) | ((with_reducible show wpAny _ _ (execs (Stmt.Assign [Expr.Attribute _ _ _] _ _ :: _) _) _ _ _); (with_reducible rename News _ _ _ _ => N9); (have N8 := News.drop1 N9); clear N9) | ((with_reducible show wpAny _ _ (setAttr (Value.ref _) _ _) _ _ _); k_here; k_dflt (refine set_new (by k_asm) (by k_asm) (by k_asm) (by k_inst) (by w_strict (exact rfl)) (by k_is) (by k_is) (by k_is) (by k_is) (by w_strict (with_reducible assumption)) (by w_strict (exact attr_new (by kernel_rfl) (by kernel_rfl))) (by w_strict (with_reducible first | exact intOf_none | exact intOf_ref | exact intOf_int)) (by decide) (by w_strict (intro es7 n7; k_upd)) ?_); k_whole; intro h7 es7 n7 ks7 F7 N7; (try dsimp only at N7); (try k_sweep)) | (with_reducible first | ((with_reducible show wpAny _ _ (execs (Stmt.For _ _ _ _ _ :: _) _) _ _ _); rename Marker => mk9; refine stop ?_)) | walk1 | (dsimp only; first | (with_reducible first | ((with_reducible show wpAny _ _ (execs (Stmt.For _ _ _ _ _ :: _) _) _ _ _); rename Marker => mk9; refine stop ?_)) | walk1) | (leave1; walk_say "STEP leave1"; try dsimp only) | fail "no step"))
  refine unstop ?_
  with_reducible (rename Fr _ _ _ _ => F9; rename News _ _ _ _ => N9; rename Frag.In _ _ => X9; rename Top _ _ _ _ _ _ => T9; rename IntsAre _ (List.take _ _) => I9; rename _ = Data.cell (some (Value.ref _)) => d9; rename _ = #[] => g9)
  have N8 := News.sub N9 (inL (.tail _ (.tail _ (.tail _ (.tail _ (.tail _ (.tail _ (.head _))))))) (inL (.tail _ (.tail _ (.head _))) (inL (.tail _ (.tail _ (.tail _ (.tail _ (.tail _ (.tail _ (.tail _ (.head _)))))))) (inL (.tail _ (.tail _ (.tail _ (.tail _ (.tail _ (.tail _ (.tail _ (.tail _ (.head _))))))))) (inL (.tail _ (.tail _ (.tail _ (.tail _ (.head _))))) (inL (.tail _ (.tail _ (.tail _ (.tail _ (.tail _ (.head _)))))) (inL (.tail _ (.head _)) inNil)))))))
  obtain ⟨is9, I8, hl8⟩ := ints_some I9
  refine' wpAny_mono (rest_holds _ _ _ _ is9 ?B ?X ?T ?XB ?TB F9 ?ok N8 ?hW ?m1 ?m2 ?m3) ?z (fun _ _ e => e)
  case B => first | assumption | (exact (by assumption : Below callerA _ [] _))
  case X => assumption
  case T => first | assumption | exact T9
  case XB => assumption
  case TB => assumption
  case m1 => exact rfl
  case m2 => exact rfl
  case m3 => exact rfl
  case hW => exact ⟨Keys.get (by assumption) (by decide +kernel), Keys.get (by assumption) (by decide +kernel)⟩
  case ok =>
    refine ⟨d9, I8, hl8, ?_, ?_, ?_, ?_, ⟨?_, ?_, ?_⟩, ⟨?_, ?_, ?_, ?_⟩, ⟨?_, ?_, ?_, ?_⟩⟩
    all_goals (dsimp only; k_ne)
  intro fl s' he
  obtain ⟨rfl, h', tk', rfl, hb⟩ := he
  exact ⟨.inl ⟨.bool true, .bool true, [], by exact rfl, (fun _ => by exact rfl), .bool true, post_true _, fun _ => ⟨List.nodup_nil, fun _ h => nomatch h⟩⟩, (fun b o e => hb b o e), by exact rfl, by exact g9⟩
end

end Mine
theorem PySem.Challenge.cw_sa0591_01_holds : PySem.Challenge.rw_sa0591_01.Holds :=
  Mine.law_holds
