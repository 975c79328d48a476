import PyProof.Rows.All
import Wide.All
import OpenK.AllK
import Wide.FinOn
import Lean
import PySem.Challenge.RW_sa0024_01
set_option Elab.async false
set_option genSizeOf false
open PySem PySem.W PyProof.Rows
/-! Hk: what the text leaves when it has run: its functions, classes and tables (printed), and the head -/
section
set_option autoImplicit false
set_option maxRecDepth 100000
namespace Mine
open PySem PySem.W PySem.Calls PyProof.Rows
noncomputable abbrev kh (P : Params) (s : Str) := PyData.keyHash P s
noncomputable def stA (i : Nat) : Stmt := (PySem.Challenge.pw_sa0024_01.main.body[i]?).getD (.Pass ⟨0, 0, 0, 0⟩)
noncomputable def stC (i j : Nat) : Stmt := match stA i with
  | .ClassDef _ _ _ b _ _ _ _ _ _ _ => (b[j]?).getD (.Pass ⟨0, 0, 0, 0⟩)
  | s => s
noncomputable def fnD (s : Stmt) (qual : Str) (clo : List (Str × Addr)) (doc pm code ct : Value) (bi : Addr) : FuncData := match s with
  | .FunctionDef n a b _ _ _ sc _ _ _ => ⟨n, qual, a, .stmts b, sc, 3, clo, .none, .none, doc, pm, none, code, ct, bi⟩
  | _ => ⟨"", qual, ⟨[], [], none, [], [], none, []⟩, .stmts [], ⟨.function, [], false, false, []⟩, 3, clo, .none, .none, doc, pm, none, code, ct, bi⟩
noncomputable def KK (P : Params) : Frag := [
(2, ⟨.none, .none, (.dict #[⟨(kh P (.ofString "type.__subclasses__.Exception.0")), (.str (.ofString "type.__subclasses__.Exception.0") 223), (.int 40 0)⟩, ⟨(kh P (.ofString "type.__subclasses__.Exception.n")), (.str (.ofString "type.__subclasses__.Exception.n") 224), (.int 1 0)⟩] 2), #[]⟩),
(3, ⟨(.type "dict"), .none, (.dict #[⟨(kh P (.ofString "__name__")), (.str (.ofString "__name__") 165), (.str (.ofString "law_sa0024_01") 460)⟩, ⟨(kh P (.ofString "__doc__")), (.str (.ofString "__doc__") 166), .none⟩, ⟨(kh P (.ofString "__package__")), (.str (.ofString "__package__") 167), .none⟩, ⟨(kh P (.ofString "__loader__")), (.str (.ofString "__loader__") 168), (.builtin "__main__.__loader__#opaque")⟩, ⟨(kh P (.ofString "__spec__")), (.str (.ofString "__spec__") 169), .none⟩, ⟨(kh P (.ofString "__annotations__")), (.str (.ofString "__annotations__") 170), (.ref 6)⟩, ⟨(kh P (.ofString "__builtins__")), (.str (.ofString "__builtins__") 171), (.ref 4)⟩, ⟨(kh P (.ofString "__file__")), (.str (.ofString "__file__") 173), (.str (.ofString "/claim/cut.py") 172)⟩, ⟨(kh P (.ofString "__cached__")), (.str (.ofString "__cached__") 174), .none⟩, ⟨(kh P (.ofString "HeapError")), (.str (.ofString "HeapError") 226), (.ref 40)⟩, ⟨(kh P (.ofString "TextFault")), (.str (.ofString "TextFault") 261), (.ref 69)⟩, ⟨(kh P (.ofString "TermFault")), (.str (.ofString "TermFault") 277), (.ref 81)⟩, ⟨(kh P (.ofString "LimitFault")), (.str (.ofString "LimitFault") 293), (.ref 93)⟩, ⟨(kh P (.ofString "FIGURES")), (.str (.ofString "FIGURES") 297), (.str (.ofString "0123456789") 296)⟩, ⟨(kh P (.ofString "LETTERS")), (.str (.ofString "LETTERS") 299), (.str (.ofString "abcdefghijklmnopqrstuvwxyzABCDEFGHIJKLMNOPQRSTUVWXYZ") 298)⟩, ⟨(kh P (.ofString "MOST_DEPTH")), (.str (.ofString "MOST_DEPTH") 301), (.int 40 300)⟩, ⟨(kh P (.ofString "MOST_INDEX")), (.str (.ofString "MOST_INDEX") 303), (.int 999999999 302)⟩, ⟨(kh P (.ofString "is_row_of")), (.str (.ofString "is_row_of") 309), (.ref 100)⟩, ⟨(kh P (.ofString "figures_behind")), (.str (.ofString "figures_behind") 318), (.ref 107)⟩, ⟨(kh P (.ofString "number_by")), (.str (.ofString "number_by") 325), (.ref 114)⟩, ⟨(kh P (.ofString "index_of")), (.str (.ofString "index_of") 333), (.ref 121)⟩, ⟨(kh P (.ofString "variable")), (.str (.ofString "variable") 340), (.ref 128)⟩, ⟨(kh P (.ofString "below")), (.str (.ofString "below") 347), (.ref 135)⟩, ⟨(kh P (.ofString "moved_within")), (.str (.ofString "moved_within") 353), (.ref 140)⟩, ⟨(kh P (.ofString "shifted")), (.str (.ofString "shifted") 362), (.ref 147)⟩, ⟨(kh P (.ofString "is_closed_below")), (.str (.ofString "is_closed_below") 368), (.ref 152)⟩, ⟨(kh P (.ofString "is_closed")), (.str (.ofString "is_closed") 375), (.ref 159)⟩, ⟨(kh P (.ofString "NameReader")), (.str (.ofString "NameReader") 450), (.ref 211)⟩, ⟨(kh P (.ofString "of_names")), (.str (.ofString "of_names") 459), (.ref 222)⟩, ⟨(kh P (.ofString "_law_widths")), (.str (.ofString "_law_widths") 474), (.ref 223)⟩, ⟨(kh P (.ofString "_law_dip")), (.str (.ofString "_law_dip") 483), (.ref 230)⟩, ⟨(kh P (.ofString "_law_figures")), (.str (.ofString "_law_figures") 494), (.ref 237)⟩, ⟨(kh P (.ofString "_law_term")), (.str (.ofString "_law_term") 508), (.ref 244)⟩, ⟨(kh P (.ofString "_law_heard")), (.str (.ofString "_law_heard") 515), (.ref 251)⟩, ⟨(kh P (.ofString "_law_late")), (.str (.ofString "_law_late") 528), (.ref 258)⟩, ⟨(kh P (.ofString "_law_indexed")), (.str (.ofString "_law_indexed") 534), (.ref 263)⟩, ⟨(kh P (.ofString "_law_is_read")), (.str (.ofString "_law_is_read") 540), (.ref 268)⟩, ⟨(kh P (.ofString "law")), (.str (.ofString "law") 546), (.ref 273)⟩] 38), #[]⟩),
(15, ⟨(.type "tuple"), .none, (.seq #[(.type "Exception")] 0), #[]⟩),
(18, ⟨(.type "cell"), .none, (.cell (.some (.ref 40))), #[]⟩),
(23, ⟨(.type "tuple"), .none, (.seq #[(.ref 18)] 0), #[]⟩),
(24, ⟨(.type "tuple"), .none, (.seq #[(.str (.ofString "__class__") 204)] 0), #[]⟩),
(26, ⟨(.type "tuple"), .none, (.seq #[(.str (.ofString "self") 205), (.str (.ofString "what") 206)] 0), #[]⟩),
(27, ⟨(.type "tuple"), .none, (.seq #[] 0), #[]⟩),
(29, ⟨(.type "code"), .none, (.fields #[(.str (.ofString "__init__") 201), (.str (.ofString "HeapError.__init__") 202), (.str (.ofString "/claim/cut.py") 203), (.int 4 0), (.int 2 0), (.int 0 0), (.int 0 0), (.int 3 0), (.ref 24), (.bool .true), (.int 181 0), (.ref 25), .none, (.ref 26), (.ref 27), (.ref 28), (.int 207 0), (.int 4 0), (.str (.ofString "/claim/cut.py") 208)]), #[]⟩),
(30, ⟨(.type "function"), .none, (.func (fnD (stC 1 0) (.ofString "HeapError.__init__") [((.ofString "__class__"), 18)] .none (.str (.ofString "alikeheap.errors") 187) (.ref 29) (.ref 23) 0)), #[]⟩),
(31, ⟨(.type "tuple"), .none, (.seq #[] 0), #[]⟩),
(33, ⟨(.type "tuple"), .none, (.seq #[(.str (.ofString "self") 213)] 0), #[]⟩),
(34, ⟨(.type "tuple"), .none, (.seq #[] 0), #[]⟩),
(36, ⟨(.type "code"), .none, (.fields #[(.str (.ofString "told") 210), (.str (.ofString "HeapError.told") 211), (.str (.ofString "/claim/cut.py") 212), (.int 8 0), (.int 1 0), (.int 0 0), (.int 0 0), (.int 3 0), (.ref 31), (.bool .true), (.int 181 0), (.ref 32), .none, (.ref 33), (.ref 34), (.ref 35), (.int 214 0), (.int 8 0), (.str (.ofString "/claim/cut.py") 215)]), #[]⟩),
(37, ⟨(.type "function"), .none, (.func (fnD (stC 1 1) (.ofString "HeapError.told") [] .none (.str (.ofString "alikeheap.errors") 187) (.ref 36) .none 0)), #[]⟩),
(38, ⟨(.type "tuple"), .none, (.seq #[(.str (.ofString "what") 217)] 0), #[]⟩),
(39, ⟨(.type "dict"), .none, (.dict #[⟨(kh P (.ofString "__module__")), (.str (.ofString "__module__") 196), (.str (.ofString "alikeheap.errors") 187)⟩, ⟨(kh P (.ofString "__firstlineno__")), (.str (.ofString "__firstlineno__") 200), (.int 2 199)⟩, ⟨(kh P (.ofString "__init__")), (.str (.ofString "__init__") 209), (.ref 30)⟩, ⟨(kh P (.ofString "told")), (.str (.ofString "told") 216), (.ref 37)⟩, ⟨(kh P (.ofString "__static_attributes__")), (.str (.ofString "__static_attributes__") 218), (.ref 38)⟩, ⟨(kh P (.ofString "__weakref__")), (.str (.ofString "__weakref__") 221), (.ref 41)⟩, ⟨(kh P (.ofString "__doc__")), (.str (.ofString "__doc__") 222), .none⟩] 4), #[]⟩),
(40, ⟨(.type "type"), .none, (.cls ⟨(.ofString "HeapError"), [(.type "Exception")], [(.ref 40), (.type "Exception"), (.type "BaseException"), (.type "object")], 39, (.ofString "HeapError"), .true, [], [(.ref 69), (.ref 81), (.ref 93)], .false, .none, .false⟩), #[(.some (.ref 15)), .none, (.some (.str (.ofString "HeapError") 189)), (.some (.str (.ofString "HeapError") 197)), (.some (.builtin "Exception.__new__")), (.some (.bool .true))]⟩),
(41, ⟨(.type "getset_descriptor"), .none, (.fields #[(.str (.ofString "__weakref__") 220), (.ref 40), (.builtin "ExceptionGroup.__weakref__"), .none]), #[]⟩),
(44, ⟨(.type "tuple"), .none, (.seq #[(.ref 40)] 0), #[]⟩),
(47, ⟨(.type "cell"), .none, (.cell (.some (.ref 69))), #[]⟩),
(52, ⟨(.type "tuple"), .none, (.seq #[(.ref 47)] 0), #[]⟩),
(53, ⟨(.type "tuple"), .none, (.seq #[(.str (.ofString "__class__") 242)] 0), #[]⟩),
(55, ⟨(.type "tuple"), .none, (.seq #[(.str (.ofString "self") 243), (.str (.ofString "what") 244), (.str (.ofString "spot") 245)] 0), #[]⟩),
(56, ⟨(.type "tuple"), .none, (.seq #[] 0), #[]⟩),
(58, ⟨(.type "code"), .none, (.fields #[(.str (.ofString "__init__") 239), (.str (.ofString "TextFault.__init__") 240), (.str (.ofString "/claim/cut.py") 241), (.int 12 0), (.int 3 0), (.int 0 0), (.int 0 0), (.int 3 0), (.ref 53), (.bool .true), (.int 181 0), (.ref 54), .none, (.ref 55), (.ref 56), (.ref 57), (.int 246 0), (.int 12 0), (.str (.ofString "/claim/cut.py") 247)]), #[]⟩),
(59, ⟨(.type "function"), .none, (.func (fnD (stC 2 0) (.ofString "TextFault.__init__") [((.ofString "__class__"), 47)] .none (.str (.ofString "alikeheap.errors") 187) (.ref 58) (.ref 52) 0)), #[]⟩),
(60, ⟨(.type "tuple"), .none, (.seq #[] 0), #[]⟩),
(62, ⟨(.type "tuple"), .none, (.seq #[(.str (.ofString "self") 252)] 0), #[]⟩),
(63, ⟨(.type "tuple"), .none, (.seq #[] 0), #[]⟩),
(65, ⟨(.type "code"), .none, (.fields #[(.str (.ofString "told") 249), (.str (.ofString "TextFault.told") 250), (.str (.ofString "/claim/cut.py") 251), (.int 16 0), (.int 1 0), (.int 0 0), (.int 0 0), (.int 3 0), (.ref 60), (.bool .true), (.int 181 0), (.ref 61), .none, (.ref 62), (.ref 63), (.ref 64), (.int 253 0), (.int 16 0), (.str (.ofString "/claim/cut.py") 254)]), #[]⟩),
(66, ⟨(.type "function"), .none, (.func (fnD (stC 2 1) (.ofString "TextFault.told") [] .none (.str (.ofString "alikeheap.errors") 187) (.ref 65) .none 0)), #[]⟩),
(67, ⟨(.type "tuple"), .none, (.seq #[(.str (.ofString "spot") 256)] 0), #[]⟩),
(68, ⟨(.type "dict"), .none, (.dict #[⟨(kh P (.ofString "__module__")), (.str (.ofString "__module__") 234), (.str (.ofString "alikeheap.errors") 187)⟩, ⟨(kh P (.ofString "__firstlineno__")), (.str (.ofString "__firstlineno__") 238), (.int 10 237)⟩, ⟨(kh P (.ofString "__init__")), (.str (.ofString "__init__") 248), (.ref 59)⟩, ⟨(kh P (.ofString "told")), (.str (.ofString "told") 255), (.ref 66)⟩, ⟨(kh P (.ofString "__static_attributes__")), (.str (.ofString "__static_attributes__") 257), (.ref 67)⟩, ⟨(kh P (.ofString "__doc__")), (.str (.ofString "__doc__") 259), .none⟩] 3), #[]⟩),
(69, ⟨(.type "type"), .none, (.cls ⟨(.ofString "TextFault"), [(.ref 40)], [(.ref 69), (.ref 40), (.type "Exception"), (.type "BaseException"), (.type "object")], 68, (.ofString "TextFault"), .true, [], [], .false, .none, .false⟩), #[(.some (.ref 44)), .none, (.some (.str (.ofString "TextFault") 227)), (.some (.str (.ofString "TextFault") 235)), (.some (.builtin "Exception.__new__")), (.some (.bool .true))]⟩),
(72, ⟨(.type "tuple"), .none, (.seq #[(.ref 40)] 0), #[]⟩),
(79, ⟨(.type "tuple"), .none, (.seq #[] 0), #[]⟩),
(80, ⟨(.type "dict"), .none, (.dict #[⟨(kh P (.ofString "__module__")), (.str (.ofString "__module__") 269), (.str (.ofString "alikeheap.errors") 187)⟩, ⟨(kh P (.ofString "__firstlineno__")), (.str (.ofString "__firstlineno__") 273), (.int 18 272)⟩, ⟨(kh P (.ofString "__static_attributes__")), (.str (.ofString "__static_attributes__") 274), (.ref 79)⟩, ⟨(kh P (.ofString "__doc__")), (.str (.ofString "__doc__") 275), .none⟩] 2), #[]⟩),
(81, ⟨(.type "type"), .none, (.cls ⟨(.ofString "TermFault"), [(.ref 40)], [(.ref 81), (.ref 40), (.type "Exception"), (.type "BaseException"), (.type "object")], 80, (.ofString "TermFault"), .true, [], [], .false, .none, .false⟩), #[(.some (.ref 72)), .none, (.some (.str (.ofString "TermFault") 262)), (.some (.str (.ofString "TermFault") 270)), (.some (.builtin "Exception.__new__")), (.some (.bool .true))]⟩),
(84, ⟨(.type "tuple"), .none, (.seq #[(.ref 40)] 0), #[]⟩),
(91, ⟨(.type "tuple"), .none, (.seq #[] 0), #[]⟩),
(92, ⟨(.type "dict"), .none, (.dict #[⟨(kh P (.ofString "__module__")), (.str (.ofString "__module__") 285), (.str (.ofString "alikeheap.errors") 187)⟩, ⟨(kh P (.ofString "__firstlineno__")), (.str (.ofString "__firstlineno__") 289), (.int 20 288)⟩, ⟨(kh P (.ofString "__static_attributes__")), (.str (.ofString "__static_attributes__") 290), (.ref 91)⟩, ⟨(kh P (.ofString "__doc__")), (.str (.ofString "__doc__") 291), .none⟩] 2), #[]⟩),
(93, ⟨(.type "type"), .none, (.cls ⟨(.ofString "LimitFault"), [(.ref 40)], [(.ref 93), (.ref 40), (.type "Exception"), (.type "BaseException"), (.type "object")], 92, (.ofString "LimitFault"), .true, [], [], .false, .none, .false⟩), #[(.some (.ref 84)), .none, (.some (.str (.ofString "LimitFault") 278)), (.some (.str (.ofString "LimitFault") 286)), (.some (.builtin "Exception.__new__")), (.some (.bool .true))]⟩),
(96, ⟨(.type "tuple"), .none, (.seq #[] 0), #[]⟩),
(99, ⟨(.type "code"), .none, (.fields #[(.str (.ofString "is_row_of") 304), (.str (.ofString "is_row_of") 305), (.str (.ofString "/claim/cut.py") 306), (.int 27 0), (.int 2 0), (.int 0 0), (.int 0 0), (.int 3 0), (.ref 96), (.bool .true), (.int 181 0), (.ref 97), .none, .none, .none, (.ref 98), (.int 307 0), (.int 27 0), (.str (.ofString "/claim/cut.py") 308)]), #[]⟩),
(100, ⟨(.type "function"), .none, (.func (fnD (stA 10) (.ofString "is_row_of") [] .none (.str (.ofString "alikeheap.lambdas") 294) (.ref 99) .none 0)), #[]⟩),
(101, ⟨(.type "tuple"), .none, (.seq #[] 0), #[]⟩),
(103, ⟨(.type "tuple"), .none, (.seq #[(.str (.ofString "text") 313), (.str (.ofString "begin") 314), (.str (.ofString "rest") 315)] 0), #[]⟩),
(104, ⟨(.type "tuple"), .none, (.seq #[] 0), #[]⟩),
(106, ⟨(.type "code"), .none, (.fields #[(.str (.ofString "figures_behind") 310), (.str (.ofString "figures_behind") 311), (.str (.ofString "/claim/cut.py") 312), (.int 29 0), (.int 2 0), (.int 0 0), (.int 0 0), (.int 3 0), (.ref 101), (.bool .true), (.int 181 0), (.ref 102), .none, (.ref 103), (.ref 104), (.ref 105), (.int 316 0), (.int 29 0), (.str (.ofString "/claim/cut.py") 317)]), #[]⟩),
(107, ⟨(.type "function"), .none, (.func (fnD (stA 11) (.ofString "figures_behind") [] .none (.str (.ofString "alikeheap.lambdas") 294) (.ref 106) .none 0)), #[]⟩),
(108, ⟨(.type "tuple"), .none, (.seq #[] 0), #[]⟩),
(110, ⟨(.type "tuple"), .none, (.seq #[(.str (.ofString "figures") 322)] 0), #[]⟩),
(111, ⟨(.type "tuple"), .none, (.seq #[] 0), #[]⟩),
(113, ⟨(.type "code"), .none, (.fields #[(.str (.ofString "number_by") 319), (.str (.ofString "number_by") 320), (.str (.ofString "/claim/cut.py") 321), (.int 34 0), (.int 1 0), (.int 0 0), (.int 0 0), (.int 3 0), (.ref 108), (.bool .true), (.int 181 0), (.ref 109), .none, (.ref 110), (.ref 111), (.ref 112), (.int 323 0), (.int 34 0), (.str (.ofString "/claim/cut.py") 324)]), #[]⟩),
(114, ⟨(.type "function"), .none, (.func (fnD (stA 12) (.ofString "number_by") [] .none (.str (.ofString "alikeheap.lambdas") 294) (.ref 113) .none 0)), #[]⟩),
(115, ⟨(.type "tuple"), .none, (.seq #[] 0), #[]⟩),
(117, ⟨(.type "tuple"), .none, (.seq #[(.str (.ofString "t") 329), (.str (.ofString "figures") 330)] 0), #[]⟩),
(118, ⟨(.type "tuple"), .none, (.seq #[] 0), #[]⟩),
(120, ⟨(.type "code"), .none, (.fields #[(.str (.ofString "index_of") 326), (.str (.ofString "index_of") 327), (.str (.ofString "/claim/cut.py") 328), (.int 38 0), (.int 1 0), (.int 0 0), (.int 0 0), (.int 3 0), (.ref 115), (.bool .true), (.int 181 0), (.ref 116), .none, (.ref 117), (.ref 118), (.ref 119), (.int 331 0), (.int 38 0), (.str (.ofString "/claim/cut.py") 332)]), #[]⟩),
(121, ⟨(.type "function"), .none, (.func (fnD (stA 13) (.ofString "index_of") [] .none (.str (.ofString "alikeheap.lambdas") 294) (.ref 120) .none 0)), #[]⟩),
(122, ⟨(.type "tuple"), .none, (.seq #[] 0), #[]⟩),
(124, ⟨(.type "tuple"), .none, (.seq #[(.str (.ofString "index") 337)] 0), #[]⟩),
(125, ⟨(.type "tuple"), .none, (.seq #[] 0), #[]⟩),
(127, ⟨(.type "code"), .none, (.fields #[(.str (.ofString "variable") 334), (.str (.ofString "variable") 335), (.str (.ofString "/claim/cut.py") 336), (.int 41 0), (.int 1 0), (.int 0 0), (.int 0 0), (.int 3 0), (.ref 122), (.bool .true), (.int 181 0), (.ref 123), .none, (.ref 124), (.ref 125), (.ref 126), (.int 338 0), (.int 41 0), (.str (.ofString "/claim/cut.py") 339)]), #[]⟩),
(128, ⟨(.type "function"), .none, (.func (fnD (stA 14) (.ofString "variable") [] .none (.str (.ofString "alikeheap.lambdas") 294) (.ref 127) .none 0)), #[]⟩),
(129, ⟨(.type "tuple"), .none, (.seq #[] 0), #[]⟩),
(131, ⟨(.type "tuple"), .none, (.seq #[(.str (.ofString "t") 344)] 0), #[]⟩),
(132, ⟨(.type "tuple"), .none, (.seq #[] 0), #[]⟩),
(134, ⟨(.type "code"), .none, (.fields #[(.str (.ofString "below") 341), (.str (.ofString "below") 342), (.str (.ofString "/claim/cut.py") 343), (.int 47 0), (.int 1 0), (.int 0 0), (.int 0 0), (.int 3 0), (.ref 129), (.bool .true), (.int 181 0), (.ref 130), .none, (.ref 131), (.ref 132), (.ref 133), (.int 345 0), (.int 47 0), (.str (.ofString "/claim/cut.py") 346)]), #[]⟩),
(135, ⟨(.type "function"), .none, (.func (fnD (stA 15) (.ofString "below") [] .none (.str (.ofString "alikeheap.lambdas") 294) (.ref 134) .none 0)), #[]⟩),
(136, ⟨(.type "tuple"), .none, (.seq #[] 0), #[]⟩),
(139, ⟨(.type "code"), .none, (.fields #[(.str (.ofString "moved_within") 348), (.str (.ofString "moved_within") 349), (.str (.ofString "/claim/cut.py") 350), (.int 49 0), (.int 4 0), (.int 0 0), (.int 0 0), (.int 3 0), (.ref 136), (.bool .true), (.int 181 0), (.ref 137), .none, .none, .none, (.ref 138), (.int 351 0), (.int 49 0), (.str (.ofString "/claim/cut.py") 352)]), #[]⟩),
(140, ⟨(.type "function"), .none, (.func (fnD (stA 16) (.ofString "moved_within") [] .none (.str (.ofString "alikeheap.lambdas") 294) (.ref 139) .none 0)), #[]⟩),
(141, ⟨(.type "tuple"), .none, (.seq #[] 0), #[]⟩),
(143, ⟨(.type "tuple"), .none, (.seq #[(.str (.ofString "t") 357), (.str (.ofString "by") 358), (.str (.ofString "begin") 359)] 0), #[]⟩),
(144, ⟨(.type "tuple"), .none, (.seq #[] 0), #[]⟩),
(146, ⟨(.type "code"), .none, (.fields #[(.str (.ofString "shifted") 354), (.str (.ofString "shifted") 355), (.str (.ofString "/claim/cut.py") 356), (.int 56 0), (.int 3 0), (.int 0 0), (.int 0 0), (.int 3 0), (.ref 141), (.bool .true), (.int 181 0), (.ref 142), .none, (.ref 143), (.ref 144), (.ref 145), (.int 360 0), (.int 56 0), (.str (.ofString "/claim/cut.py") 361)]), #[]⟩),
(147, ⟨(.type "function"), .none, (.func (fnD (stA 17) (.ofString "shifted") [] .none (.str (.ofString "alikeheap.lambdas") 294) (.ref 146) .none 0)), #[]⟩),
(148, ⟨(.type "tuple"), .none, (.seq #[] 0), #[]⟩),
(151, ⟨(.type "code"), .none, (.fields #[(.str (.ofString "is_closed_below") 363), (.str (.ofString "is_closed_below") 364), (.str (.ofString "/claim/cut.py") 365), (.int 58 0), (.int 2 0), (.int 0 0), (.int 0 0), (.int 3 0), (.ref 148), (.bool .true), (.int 181 0), (.ref 149), .none, .none, .none, (.ref 150), (.int 366 0), (.int 58 0), (.str (.ofString "/claim/cut.py") 367)]), #[]⟩),
(152, ⟨(.type "function"), .none, (.func (fnD (stA 18) (.ofString "is_closed_below") [] .none (.str (.ofString "alikeheap.lambdas") 294) (.ref 151) .none 0)), #[]⟩),
(153, ⟨(.type "tuple"), .none, (.seq #[] 0), #[]⟩),
(155, ⟨(.type "tuple"), .none, (.seq #[(.str (.ofString "t") 372)] 0), #[]⟩),
(156, ⟨(.type "tuple"), .none, (.seq #[] 0), #[]⟩),
(158, ⟨(.type "code"), .none, (.fields #[(.str (.ofString "is_closed") 369), (.str (.ofString "is_closed") 370), (.str (.ofString "/claim/cut.py") 371), (.int 63 0), (.int 1 0), (.int 0 0), (.int 0 0), (.int 3 0), (.ref 153), (.bool .true), (.int 181 0), (.ref 154), .none, (.ref 155), (.ref 156), (.ref 157), (.int 373 0), (.int 63 0), (.str (.ofString "/claim/cut.py") 374)]), #[]⟩),
(159, ⟨(.type "function"), .none, (.func (fnD (stA 19) (.ofString "is_closed") [] .none (.str (.ofString "alikeheap.lambdas") 294) (.ref 158) .none 0)), #[]⟩),
(167, ⟨(.type "tuple"), .none, (.seq #[] 0), #[]⟩),
(169, ⟨(.type "tuple"), .none, (.seq #[(.str (.ofString "self") 391), (.str (.ofString "text") 392)] 0), #[]⟩),
(170, ⟨(.type "tuple"), .none, (.seq #[] 0), #[]⟩),
(172, ⟨(.type "code"), .none, (.fields #[(.str (.ofString "__init__") 388), (.str (.ofString "NameReader.__init__") 389), (.str (.ofString "/claim/cut.py") 390), (.int 67 0), (.int 2 0), (.int 0 0), (.int 0 0), (.int 3 0), (.ref 167), (.bool .true), (.int 181 0), (.ref 168), .none, (.ref 169), (.ref 170), (.ref 171), (.int 393 0), (.int 67 0), (.str (.ofString "/claim/cut.py") 394)]), #[]⟩),
(173, ⟨(.type "function"), .none, (.func (fnD (stC 20 0) (.ofString "NameReader.__init__") [] .none (.str (.ofString "alikeheap.lambdas") 294) (.ref 172) .none 0)), #[]⟩),
(174, ⟨(.type "tuple"), .none, (.seq #[] 0), #[]⟩),
(176, ⟨(.type "tuple"), .none, (.seq #[(.str (.ofString "self") 399)] 0), #[]⟩),
(177, ⟨(.type "tuple"), .none, (.seq #[] 0), #[]⟩),
(179, ⟨(.type "code"), .none, (.fields #[(.str (.ofString "sign") 396), (.str (.ofString "NameReader.sign") 397), (.str (.ofString "/claim/cut.py") 398), (.int 72 0), (.int 1 0), (.int 0 0), (.int 0 0), (.int 3 0), (.ref 174), (.bool .true), (.int 181 0), (.ref 175), .none, (.ref 176), (.ref 177), (.ref 178), (.int 400 0), (.int 72 0), (.str (.ofString "/claim/cut.py") 401)]), #[]⟩),
(180, ⟨(.type "function"), .none, (.func (fnD (stC 20 1) (.ofString "NameReader.sign") [] .none (.str (.ofString "alikeheap.lambdas") 294) (.ref 179) .none 0)), #[]⟩),
(181, ⟨(.type "tuple"), .none, (.seq #[] 0), #[]⟩),
(183, ⟨(.type "tuple"), .none, (.seq #[(.str (.ofString "self") 406), (.str (.ofString "sign") 407)] 0), #[]⟩),
(184, ⟨(.type "tuple"), .none, (.seq #[] 0), #[]⟩),
(186, ⟨(.type "code"), .none, (.fields #[(.str (.ofString "want") 403), (.str (.ofString "NameReader.want") 404), (.str (.ofString "/claim/cut.py") 405), (.int 77 0), (.int 2 0), (.int 0 0), (.int 0 0), (.int 3 0), (.ref 181), (.bool .true), (.int 181 0), (.ref 182), .none, (.ref 183), (.ref 184), (.ref 185), (.int 408 0), (.int 77 0), (.str (.ofString "/claim/cut.py") 409)]), #[]⟩),
(187, ⟨(.type "function"), .none, (.func (fnD (stC 20 2) (.ofString "NameReader.want") [] .none (.str (.ofString "alikeheap.lambdas") 294) (.ref 186) .none 0)), #[]⟩),
(188, ⟨(.type "tuple"), .none, (.seq #[] 0), #[]⟩),
(190, ⟨(.type "tuple"), .none, (.seq #[(.str (.ofString "self") 414), (.str (.ofString "begin") 415)] 0), #[]⟩),
(191, ⟨(.type "tuple"), .none, (.seq #[] 0), #[]⟩),
(193, ⟨(.type "code"), .none, (.fields #[(.str (.ofString "name") 411), (.str (.ofString "NameReader.name") 412), (.str (.ofString "/claim/cut.py") 413), (.int 82 0), (.int 1 0), (.int 0 0), (.int 0 0), (.int 3 0), (.ref 188), (.bool .true), (.int 181 0), (.ref 189), .none, (.ref 190), (.ref 191), (.ref 192), (.int 416 0), (.int 82 0), (.str (.ofString "/claim/cut.py") 417)]), #[]⟩),
(194, ⟨(.type "function"), .none, (.func (fnD (stC 20 3) (.ofString "NameReader.name") [] .none (.str (.ofString "alikeheap.lambdas") 294) (.ref 193) .none 0)), #[]⟩),
(195, ⟨(.type "tuple"), .none, (.seq #[] 0), #[]⟩),
(197, ⟨(.type "tuple"), .none, (.seq #[(.str (.ofString "self") 422), (.str (.ofString "name") 423), (.str (.ofString "index") 424), (.str (.ofString "figures") 425)] 0), #[]⟩),
(198, ⟨(.type "tuple"), .none, (.seq #[] 0), #[]⟩),
(200, ⟨(.type "code"), .none, (.fields #[(.str (.ofString "leaf") 419), (.str (.ofString "NameReader.leaf") 420), (.str (.ofString "/claim/cut.py") 421), (.int 91 0), (.int 1 0), (.int 0 0), (.int 0 0), (.int 3 0), (.ref 195), (.bool .true), (.int 181 0), (.ref 196), .none, (.ref 197), (.ref 198), (.ref 199), (.int 426 0), (.int 91 0), (.str (.ofString "/claim/cut.py") 427)]), #[]⟩),
(201, ⟨(.type "function"), .none, (.func (fnD (stC 20 4) (.ofString "NameReader.leaf") [] .none (.str (.ofString "alikeheap.lambdas") 294) (.ref 200) .none 0)), #[]⟩),
(202, ⟨(.type "tuple"), .none, (.seq #[] 0), #[]⟩),
(204, ⟨(.type "tuple"), .none, (.seq #[(.str (.ofString "self") 432), (.str (.ofString "depth") 433), (.str (.ofString "sign") 434), (.str (.ofString "found") 435), (.str (.ofString "left") 436)] 0), #[]⟩),
(205, ⟨(.type "tuple"), .none, (.seq #[] 0), #[]⟩),
(207, ⟨(.type "code"), .none, (.fields #[(.str (.ofString "term") 429), (.str (.ofString "NameReader.term") 430), (.str (.ofString "/claim/cut.py") 431), (.int 103 0), (.int 2 0), (.int 0 0), (.int 0 0), (.int 3 0), (.ref 202), (.bool .true), (.int 181 0), (.ref 203), .none, (.ref 204), (.ref 205), (.ref 206), (.int 437 0), (.int 103 0), (.str (.ofString "/claim/cut.py") 438)]), #[]⟩),
(208, ⟨(.type "function"), .none, (.func (fnD (stC 20 5) (.ofString "NameReader.term") [] .none (.str (.ofString "alikeheap.lambdas") 294) (.ref 207) .none 0)), #[]⟩),
(209, ⟨(.type "tuple"), .none, (.seq #[(.str (.ofString "around") 440), (.str (.ofString "spot") 441), (.str (.ofString "text") 442)] 0), #[]⟩),
(210, ⟨(.type "dict"), .none, (.dict #[⟨(kh P (.ofString "__module__")), (.str (.ofString "__module__") 383), (.str (.ofString "alikeheap.lambdas") 294)⟩, ⟨(kh P (.ofString "__firstlineno__")), (.str (.ofString "__firstlineno__") 387), (.int 65 386)⟩, ⟨(kh P (.ofString "__init__")), (.str (.ofString "__init__") 395), (.ref 173)⟩, ⟨(kh P (.ofString "sign")), (.str (.ofString "sign") 402), (.ref 180)⟩, ⟨(kh P (.ofString "want")), (.str (.ofString "want") 410), (.ref 187)⟩, ⟨(kh P (.ofString "name")), (.str (.ofString "name") 418), (.ref 194)⟩, ⟨(kh P (.ofString "leaf")), (.str (.ofString "leaf") 428), (.ref 201)⟩, ⟨(kh P (.ofString "term")), (.str (.ofString "term") 439), (.ref 208)⟩, ⟨(kh P (.ofString "__static_attributes__")), (.str (.ofString "__static_attributes__") 443), (.ref 209)⟩, ⟨(kh P (.ofString "__dict__")), (.str (.ofString "__dict__") 445), (.ref 212)⟩, ⟨(kh P (.ofString "__weakref__")), (.str (.ofString "__weakref__") 447), (.ref 213)⟩, ⟨(kh P (.ofString "__doc__")), (.str (.ofString "__doc__") 448), .none⟩] 4), #[]⟩),
(211, ⟨(.type "type"), .none, (.cls ⟨(.ofString "NameReader"), [(.type "object")], [(.ref 211), (.type "object")], 210, (.ofString "NameReader"), .true, [], [], .false, .none, .false⟩), #[.none, .none, (.some (.str (.ofString "NameReader") 376)), (.some (.str (.ofString "NameReader") 384)), (.some (.builtin "object.__new__")), (.some (.bool .true))]⟩),
(212, ⟨(.type "getset_descriptor"), .none, (.fields #[(.str (.ofString "__dict__") 444), (.ref 211), (.builtin "function.__dict__"), (.builtin "function.__dict__#set")]), #[]⟩),
(213, ⟨(.type "getset_descriptor"), .none, (.fields #[(.str (.ofString "__weakref__") 446), (.ref 211), (.builtin "ExceptionGroup.__weakref__"), .none]), #[]⟩),
(216, ⟨(.type "tuple"), .none, (.seq #[] 0), #[]⟩),
(218, ⟨(.type "tuple"), .none, (.seq #[(.str (.ofString "text") 454), (.str (.ofString "reader") 455), (.str (.ofString "found") 456)] 0), #[]⟩),
(219, ⟨(.type "tuple"), .none, (.seq #[] 0), #[]⟩),
(221, ⟨(.type "code"), .none, (.fields #[(.str (.ofString "of_names") 451), (.str (.ofString "of_names") 452), (.str (.ofString "/claim/cut.py") 453), (.int 121 0), (.int 1 0), (.int 0 0), (.int 0 0), (.int 3 0), (.ref 216), (.bool .true), (.int 181 0), (.ref 217), .none, (.ref 218), (.ref 219), (.ref 220), (.int 457 0), (.int 121 0), (.str (.ofString "/claim/cut.py") 458)]), #[]⟩),
(222, ⟨(.type "function"), .none, (.func (fnD (stA 21) (.ofString "of_names") [] .none (.str (.ofString "alikeheap.lambdas") 294) (.ref 221) .none 0)), #[]⟩),
(223, ⟨(.type "tuple"), .none, (.seq #[(.int 1 462), (.int 1 463), (.int 2 464), (.int 3 465), (.int 8 466), (.int 9 467), (.int 9 468), (.int 9 469), (.int 10 470), (.int 10 471), (.int 12 472), (.int 4310 473)] 0), #[]⟩),
(224, ⟨(.type "tuple"), .none, (.seq #[] 0), #[]⟩),
(226, ⟨(.type "tuple"), .none, (.seq #[(.str (.ofString "feed") 478), (.str (.ofString "many") 479), (.str (.ofString "spot") 480)] 0), #[]⟩),
(227, ⟨(.type "tuple"), .none, (.seq #[] 0), #[]⟩),
(229, ⟨(.type "code"), .none, (.fields #[(.str (.ofString "_law_dip") 475), (.str (.ofString "_law_dip") 476), (.str (.ofString "/claim/cut.py") 477), (.int 129 0), (.int 2 0), (.int 0 0), (.int 0 0), (.int 3 0), (.ref 224), (.bool .true), (.int 181 0), (.ref 225), .none, (.ref 226), (.ref 227), (.ref 228), (.int 481 0), (.int 129 0), (.str (.ofString "/claim/cut.py") 482)]), #[]⟩),
(230, ⟨(.type "function"), .none, (.func (fnD (stA 24) (.ofString "_law_dip") [] .none (.str (.ofString "law_sa0024_01") 460) (.ref 229) .none 0)), #[]⟩),
(231, ⟨(.type "tuple"), .none, (.seq #[] 0), #[]⟩),
(233, ⟨(.type "tuple"), .none, (.seq #[(.str (.ofString "feed") 487), (.str (.ofString "wide") 488), (.str (.ofString "ahead") 489), (.str (.ofString "rest") 490), (.str (.ofString "figures") 491)] 0), #[]⟩),
(234, ⟨(.type "tuple"), .none, (.seq #[] 0), #[]⟩),
(236, ⟨(.type "code"), .none, (.fields #[(.str (.ofString "_law_figures") 484), (.str (.ofString "_law_figures") 485), (.str (.ofString "/claim/cut.py") 486), (.int 135 0), (.int 1 0), (.int 0 0), (.int 0 0), (.int 3 0), (.ref 231), (.bool .true), (.int 181 0), (.ref 232), .none, (.ref 233), (.ref 234), (.ref 235), (.int 492 0), (.int 135 0), (.str (.ofString "/claim/cut.py") 493)]), #[]⟩),
(237, ⟨(.type "function"), .none, (.func (fnD (stA 25) (.ofString "_law_figures") [] .none (.str (.ofString "law_sa0024_01") 460) (.ref 236) .none 0)), #[]⟩),
(238, ⟨(.type "tuple"), .none, (.seq #[] 0), #[]⟩),
(240, ⟨(.type "tuple"), .none, (.seq #[(.str (.ofString "feed") 498), (.str (.ofString "deep") 499), (.str (.ofString "around") 500), (.str (.ofString "leaves") 501), (.str (.ofString "way") 502), (.str (.ofString "figures") 503), (.str (.ofString "index") 504), (.str (.ofString "left") 505)] 0), #[]⟩),
(241, ⟨(.type "tuple"), .none, (.seq #[] 0), #[]⟩),
(243, ⟨(.type "code"), .none, (.fields #[(.str (.ofString "_law_term") 495), (.str (.ofString "_law_term") 496), (.str (.ofString "/claim/cut.py") 497), (.int 142 0), (.int 4 0), (.int 0 0), (.int 0 0), (.int 3 0), (.ref 238), (.bool .true), (.int 181 0), (.ref 239), .none, (.ref 240), (.ref 241), (.ref 242), (.int 506 0), (.int 142 0), (.str (.ofString "/claim/cut.py") 507)]), #[]⟩),
(244, ⟨(.type "function"), .none, (.func (fnD (stA 26) (.ofString "_law_term") [] .none (.str (.ofString "law_sa0024_01") 460) (.ref 243) .none 0)), #[]⟩),
(245, ⟨(.type "tuple"), .none, (.seq #[] 0), #[]⟩),
(247, ⟨(.type "tuple"), .none, (.seq #[(.str (.ofString "ask") 512)] 0), #[]⟩),
(248, ⟨(.type "tuple"), .none, (.seq #[] 0), #[]⟩),
(250, ⟨(.type "code"), .none, (.fields #[(.str (.ofString "_law_heard") 509), (.str (.ofString "_law_heard") 510), (.str (.ofString "/claim/cut.py") 511), (.int 154 0), (.int 1 0), (.int 0 0), (.int 0 0), (.int 3 0), (.ref 245), (.bool .true), (.int 181 0), (.ref 246), .none, (.ref 247), (.ref 248), (.ref 249), (.int 513 0), (.int 154 0), (.str (.ofString "/claim/cut.py") 514)]), #[]⟩),
(251, ⟨(.type "function"), .none, (.func (fnD (stA 27) (.ofString "_law_heard") [] .none (.str (.ofString "law_sa0024_01") 460) (.ref 250) .none 0)), #[]⟩),
(252, ⟨(.type "tuple"), .none, (.seq #[] 0), #[]⟩),
(254, ⟨(.type "tuple"), .none, (.seq #[(.str (.ofString "rows") 519), (.str (.ofString "by") 520), (.str (.ofString "begin") 521), (.str (.ofString "found") 522), (.str (.ofString "index") 523), (.str (.ofString "around") 524), (.str (.ofString "late") 525)] 0), #[]⟩),
(255, ⟨(.type "tuple"), .none, (.seq #[] 0), #[]⟩),
(257, ⟨(.type "code"), .none, (.fields #[(.str (.ofString "_law_late") 516), (.str (.ofString "_law_late") 517), (.str (.ofString "/claim/cut.py") 518), (.int 161 0), (.int 3 0), (.int 0 0), (.int 0 0), (.int 3 0), (.ref 252), (.bool .true), (.int 181 0), (.ref 253), .none, (.ref 254), (.ref 255), (.ref 256), (.int 526 0), (.int 161 0), (.str (.ofString "/claim/cut.py") 527)]), #[]⟩),
(258, ⟨(.type "function"), .none, (.func (fnD (stA 28) (.ofString "_law_late") [] .none (.str (.ofString "law_sa0024_01") 460) (.ref 257) .none 0)), #[]⟩),
(259, ⟨(.type "tuple"), .none, (.seq #[] 0), #[]⟩),
(262, ⟨(.type "code"), .none, (.fields #[(.str (.ofString "_law_indexed") 529), (.str (.ofString "_law_indexed") 530), (.str (.ofString "/claim/cut.py") 531), (.int 173 0), (.int 3 0), (.int 0 0), (.int 0 0), (.int 3 0), (.ref 259), (.bool .true), (.int 181 0), (.ref 260), .none, .none, .none, (.ref 261), (.int 532 0), (.int 173 0), (.str (.ofString "/claim/cut.py") 533)]), #[]⟩),
(263, ⟨(.type "function"), .none, (.func (fnD (stA 29) (.ofString "_law_indexed") [] .none (.str (.ofString "law_sa0024_01") 460) (.ref 262) .none 0)), #[]⟩),
(264, ⟨(.type "tuple"), .none, (.seq #[] 0), #[]⟩),
(267, ⟨(.type "code"), .none, (.fields #[(.str (.ofString "_law_is_read") 535), (.str (.ofString "_law_is_read") 536), (.str (.ofString "/claim/cut.py") 537), (.int 178 0), (.int 1 0), (.int 0 0), (.int 0 0), (.int 3 0), (.ref 264), (.bool .true), (.int 181 0), (.ref 265), .none, .none, .none, (.ref 266), (.int 538 0), (.int 178 0), (.str (.ofString "/claim/cut.py") 539)]), #[]⟩),
(268, ⟨(.type "function"), .none, (.func (fnD (stA 30) (.ofString "_law_is_read") [] .none (.str (.ofString "law_sa0024_01") 460) (.ref 267) .none 0)), #[]⟩),
(269, ⟨(.type "tuple"), .none, (.seq #[] 0), #[]⟩),
(272, ⟨(.type "code"), .none, (.fields #[(.str (.ofString "law") 541), (.str (.ofString "law") 542), (.str (.ofString "/claim/cut.py") 543), (.int 190 0), (.int 1 0), (.int 0 0), (.int 0 0), (.int 3 0), (.ref 269), (.bool .true), (.int 181 0), (.ref 270), .none, .none, .none, (.ref 271), (.int 544 0), (.int 190 0), (.str (.ofString "/claim/cut.py") 545)]), #[]⟩),
(273, ⟨(.type "function"), .none, (.func (fnD (stA 31) (.ofString "law") [] .none (.str (.ofString "law_sa0024_01") 460) (.ref 272) .none 0)), #[]⟩)]
def kAs : List Addr := [2, 3, 15, 18, 23, 24, 26, 27, 29, 30, 31, 33, 34, 36, 37, 38, 39, 40, 41, 44, 47, 52, 53, 55, 56, 58, 59, 60, 62, 63, 65, 66, 67, 68, 69, 72, 79, 80, 81, 84, 91, 92, 93, 96, 99, 100, 101, 103, 104, 106, 107, 108, 110, 111, 113, 114, 115, 117, 118, 120, 121, 122, 124, 125, 127, 128, 129, 131, 132, 134, 135, 136, 139, 140, 141, 143, 144, 146, 147, 148, 151, 152, 153, 155, 156, 158, 159, 167, 169, 170, 172, 173, 174, 176, 177, 179, 180, 181, 183, 184, 186, 187, 188, 190, 191, 193, 194, 195, 197, 198, 200, 201, 202, 204, 205, 207, 208, 209, 210, 211, 212, 213, 216, 218, 219, 221, 222, 223, 224, 226, 227, 229, 230, 231, 233, 234, 236, 237, 238, 240, 241, 243, 244, 245, 247, 248, 250, 251, 252, 254, 255, 257, 258, 259, 262, 263, 264, 267, 268, 269, 272, 273]
noncomputable def kH : Hook := kmHook KK kAs (fun _ => by kernel_rfl) [270]
noncomputable def qv : Program := view PySem.Challenge.pw_sa0024_01 [1, 2, 3, 4, 6, 7, 8, 9, 10, 11, 12, 13, 14, 15, 16, 17, 18, 19, 20, 21, 23, 24, 25, 26, 27, 28, 29, 30, 31]
theorem left' : ∀ w : World, Option.map
      (fun s =>
        (PySem.W.Fast.tw4187177175401517315 qv [] (PySem.W.Fast.tw5923862056798008813 (PySem.W.Fast.tw2368527892694137696 PySem.Challenge.rw_sa0024_01).prog.main.body)
            (fun s => xlAt qv [] s && recOk (PySem.W.Fast.tw2368527892694137696 PySem.Challenge.rw_sa0024_01).records s) true s,
          kH.obs s))
      (openEnds PySem.W.Fast.tw14364793385576792824 (PySem.W.Fast.tw2368527892694137696 PySem.Challenge.rw_sa0024_01).prog w 4178) =
    some (openGood qv [], kH.val w) := fun w => by kernel_rfl
end Mine
end
/-! Hk2: the head -/
section
set_option autoImplicit false
set_option maxRecDepth 100000
namespace Mine
open PySem PySem.W PySem.Calls PyProof.Rows
theorem left : LeftO PySem.Challenge.rw_sa0024_01.row.prog qv [] (fun s => xlAt qv [] s && recOk PySem.Challenge.rw_sa0024_01.row.records s) kH.obs kH.val 4178 true := by
  have h := left'
  rw [← PySem.W.Fast.te4187177175401517315, ← PySem.W.Fast.te5923862056798008813, ← PySem.W.Fast.te2368527892694137696, ← PySem.W.Fast.te14364793385576792824] at h
  exact h
theorem said : PySem.Challenge.rw_sa0024_01.wellSaid = true := by kernel_rfl
end Mine
end
/-! M1: plain values, a small language of expressions and statements, its evaluator; no program in sight -/
section
set_option autoImplicit false
namespace Mine
open PySem
set_option genSizeOf false

inductive PV where
  | none
  | bool (b : Bool)
  | int (i : Int)
  | str (s : List Nat)
  | tup (l : List PV)
  | lst (l : List PV)
  | rng (n : Int)
  | ref (k : Nat)
  | exn (sp : Int)

inductive PO where
  | lst (l : List PV)
  | inst (c : Nat) (l : List (Nat × PV))
  | tab (l : List Nat)
abbrev Store := List PO
structure PX where
  cls : Nat
  spot : Option Int

inductive R (α : Type) where
  | ok (a : α) (σ : Store)
  | exc (x : PX) (σ : Store)
abbrev Loc := List (Nat × PV)

noncomputable def bnd {α β : Type} (m : Option (R α)) (f : α → Store → Option (R β)) : Option (R β) := match m with
  | .none => .none
  | some (.ok a σ) => f a σ
  | some (.exc x σ) => some (.exc x σ)
noncomputable def rok {α : Type} (o : Option α) (σ : Store) : Option (R α) := match o with
  | .none => .none
  | some a => some (.ok a σ)

inductive Bi where
  | len | int | str | range | max | tuple | list
  deriving DecidableEq

set_option genInjectivity false in
inductive CE where
  | loc (x : Nat) | glo (x : Nat)
  | cnone | cbool (b : Bool) | cint (i : Int) | cstr (s : List Nat)
  | neg (a : CE) | not (a : CE)
  | bin (op : Operator) (a b : CE)
  | cmp (op : CmpOp) (a b : CE)
  | cmpNil (op : CmpOp) (a : CE)
  | bop (isAnd : Bool) (l : List CE)
  | ite (t b o : CE)
  | tup (l : List CE) | lst (l : List CE)
  | sub (a i : CE)
  | slice (a : CE) (lo hi : Option CE)
  | call (f : Nat) (args : List CE)
  | bi (b : Bi) (args : List CE)
  | meth (o : CE) (m : Nat) (args : List CE)
  | mdig (o : CE) | mjoin (o a : CE) | mapp (o a : CE) | mpop (o : CE)
  | attr (o : CE) (a : Nat)
  | fstr (pre : List Nat) (e : CE)
  | fstrs (e : CE) (post : List Nat)
  | comp (elt : CE) (vars : List Nat) (tt : Bool) (fv : List Nat) (it : CE) (cond : Option CE)
  | heard (i : Nat) (fv : List Nat) (e : CE)

set_option genInjectivity false in
inductive CS where
  | asg (x : Nat) (e : CE)
  | asgT (xs : List Nat) (e : CE)
  | seta (o : CE) (a : Nat) (e : CE)
  | seti (o i e : CE)
  | exp (e : CE)
  | ret (e : CE)
  | iff (t : CE) (b o : List CS)
  | forr (vars : List Nat) (tt : Bool) (it : CE) (body : List CS)
  | whil (t : CE) (body : List CS)
  | rais (cls : Nat) (args : List CE)
  | tryy (body : List CS) (cls name : Nat) (e : CE)

set_option genInjectivity false in
/-- what a text knows of the rest -/
structure Sig where
  q : Bool
  top : Bool
  kn : Nat → Bool
  km : Nat → Nat → Bool
  glo : Nat → Option PV
  fn : Nat → List PV → Store → Option (R PV)
  meth : Nat → Nat → Nat → List PV → Store → Option (R PV)
  kx : Nat → Bool
  exc : Nat → List PV → Option PX
noncomputable def Sig.quiet (Φ : Sig) : Sig := { Φ with q := true }
noncomputable def Sig.low (Φ : Sig) : Sig := { Φ with top := false }

noncomputable def lk (ρ : Loc) (x : Nat) : Option PV := match ρ with
  | [] => .none
  | (y, v) :: r => if y = x then some v else lk r x
noncomputable def setL (ρ : Loc) (x : Nat) (v : PV) : Loc := match ρ with
  | [] => [(x, v)]
  | (y, u) :: r => if y = x then (x, v) :: r else (y, u) :: setL r x v
noncomputable def setLs (ρ : Loc) : List Nat → List PV → Option Loc
  | [], [] => some ρ
  | x :: xs, v :: vs => setLs (setL ρ x v) xs vs
  | _, _ => .none
/-- a loop's target takes an item -/
noncomputable def takeV (ρ : Loc) (xs : List Nat) (tt : Bool) (v : PV) : Option Loc := match tt, v with
  | true, .tup l => setLs ρ xs l
  | false, v => setLs ρ xs [v]
  | _, _ => .none
noncomputable def capture (ρ : Loc) : List Nat → Option Loc
  | [] => some []
  | x :: xs => match lk ρ x, capture ρ xs with
    | some v, some r => some ((x, v) :: r)
    | _, _ => .none

/-- the digits of a number, as signs -/
noncomputable def digs (i : Int) : List Nat := (toString i).toList.map Char.toNat
noncomputable def isDig (c : Nat) : Bool := Nat.ble 48 c && Nat.ble c 57
noncomputable def numOf (l : List Nat) : Nat := l.foldl (fun n c => n * 10 + (c - 48)) 0

noncomputable def SZ : Nat := 100000
noncomputable def IB : Nat := 4294967296

noncomputable def eqvs (f : PV → PV → Option Bool) : List PV → List PV → Option Bool
  | [], [] => some true
  | [], _ :: _ => some false
  | _ :: _, [] => some false
  | a :: as, b :: bs => match f a b with
    | .none => .none
    | some e => match eqvs f as bs with
      | .none => .none
      | some es => some (e && es)
noncomputable def onBool {α : Type} (v : PV) (f : Bool → Option α) : Option α := match v with
  | .bool x => f x
  | _ => .none
noncomputable def onInt {α : Type} (v : PV) (f : Int → Option α) : Option α := match v with
  | .int x => f x
  | _ => .none
noncomputable def onStr {α : Type} (v : PV) (f : List Nat → Option α) : Option α := match v with
  | .str x => f x
  | _ => .none
noncomputable def onTup {α : Type} (v : PV) (f : List PV → Option α) : Option α := match v with
  | .tup x => f x
  | _ => .none
noncomputable def onLst {α : Type} (v : PV) (f : List PV → Option α) : Option α := match v with
  | .lst x => f x
  | _ => .none
noncomputable def onNo {α : Type} (v : PV) (r : Option α) : Option α := match v with
  | .none => r
  | _ => .none
noncomputable def onOne {α β : Type} (l : List β) (f : β → Option α) : Option α := match l with
  | [x] => f x
  | _ => .none
noncomputable def inLst {α : Type} (σ : Store) (k : Nat) (f : List PV → Option α) : Option α := match σ[k]? with
  | some (.lst l) => f l
  | _ => .none
/-- equal, where both are known and of a kind -/
noncomputable def eqvN : Nat → PV → PV → Option Bool
  | 0, _, _ => .none
  | n + 1, a, b => match a with
    | .none => onNo b (some true)
    | .bool x => onBool b fun y => some (x == y)
    | .int x => onInt b fun y => some (x == y)
    | .str x => onStr b fun y => some (x == y)
    | .tup x => onTup b fun y => eqvs (eqvN n) x y
    | _ => .none
noncomputable def eqv (a b : PV) : Option Bool := eqvN 40 a b
noncomputable def isNil (σ : Store) (v : PV) : Option Bool := match v with
  | .lst l => some l.isEmpty
  | .ref k => inLst σ k fun l => some l.isEmpty
  | _ => .none
noncomputable def noneIn : List PV → Option Bool
  | [] => some false
  | v :: r => match v with
    | .none => (noneIn r).map fun _ => true
    | .int _ => noneIn r
    | _ => .none

noncomputable def addop (a b : PV) : Option PV := match a with
  | .int x => onInt b fun y => some (.int (x + y))
  | .str x => onStr b fun y => if x.length + y.length ≤ SZ then some (.str (x ++ y)) else .none
  | .tup x => onTup b fun y => if x.length + y.length ≤ SZ then some (.tup (x ++ y)) else .none
  | _ => .none
noncomputable def mulop (a b : PV) : Option PV := match a with
  | .int x => onInt b fun y => if x.natAbs < IB ∧ y.natAbs < IB then some (.int (x * y)) else .none
  | .str l => onOne l fun c => onInt b fun y => if 0 ≤ y ∧ y ≤ SZ then some (.str (List.replicate y.toNat c)) else .none
  | _ => .none
noncomputable def binop (op : Operator) (a b : PV) : Option PV := match op with
  | .Add => addop a b
  | .Sub => onInt a fun x => onInt b fun y => some (.int (x - y))
  | .Mult => mulop a b
  | .Mod => onInt a fun x => onInt b fun y => if 0 < y then some (.int (x.fmod y)) else .none
  | _ => .none
noncomputable def negop (v : PV) : Option PV := onInt v fun x => some (.int (-x))
noncomputable def isop (a b : PV) : Option Bool := match a with
  | .none => onNo b (some true)
  | .int _ => onNo b (some false)
  | _ => .none
noncomputable def inStr (a b : PV) : Option Bool := onStr a fun x => onStr b fun y => onOne x fun c => some (y.contains c)
noncomputable def inop (a b : PV) : Option Bool := match a with
  | .none => onLst b noneIn
  | _ => inStr a b
noncomputable def cmpop (op : CmpOp) (a b : PV) : Option Bool := match op with
  | .Eq => eqv a b
  | .NotEq => (eqv a b).map not
  | .Lt => onInt a fun x => onInt b fun y => some (decide (x < y))
  | .LtE => onInt a fun x => onInt b fun y => some (decide (x ≤ y))
  | .Gt => onInt a fun x => onInt b fun y => some (decide (y < x))
  | .GtE => onInt a fun x => onInt b fun y => some (decide (y ≤ x))
  | .Is => isop a b
  | .IsNot => (isop a b).map not
  | .In => inop a b
  | .NotIn => (inStr a b).map not

noncomputable def seqAt (l : List PV) (i : Int) : Option PV := if 0 ≤ i ∧ l.length ≤ SZ then l[i.toNat]? else .none
noncomputable def subAt (σ : Store) (v : PV) (i : Int) : Option PV := match v with
  | .tup l => seqAt l i
  | .lst l => seqAt l i
  | .str l => if 0 ≤ i ∧ l.length ≤ SZ then (l[i.toNat]?).map fun c => .str [c] else .none
  | .ref k => inLst σ k fun l => seqAt l i
  | _ => .none
noncomputable def subop (σ : Store) (v i : PV) : Option PV := onInt i (subAt σ v)
/-- a slice's end: nought or more -/
noncomputable def bound (d : Nat) : Option PV → Option Nat
  | .none => some d
  | some (.int i) => if 0 ≤ i ∧ i ≤ SZ then some i.toNat else .none
  | some _ => .none
noncomputable def cut {α : Type} (l : List α) (lo hi : Nat) : List α := (l.take hi).drop lo
noncomputable def slStr (l : List Nat) (a b : Option Nat) : Option PV := a.bind fun a => b.map fun b => .str (cut l a b)
noncomputable def slTup (l : List PV) (lo hi : Option PV) : Option PV := match hi with
  | .none => lo.bind fun v => onInt v fun i => if 1 ≤ i ∧ i ≤ l.length then some (.tup (l.drop i.toNat)) else .none
  | some _ => .none
noncomputable def slLst (l : List PV) (lo hi : Option PV) : Option PV := match lo with
  | .none => hi.bind fun v => onInt v fun i => if 0 ≤ i ∧ i ≤ SZ then some (.lst (l.take i.toNat)) else .none
  | some _ => .none
noncomputable def sliceop (v : PV) (lo hi : Option PV) : Option PV := match v with
  | .str l => if l.length ≤ SZ then slStr l (bound 0 lo) (bound l.length hi) else .none
  | .tup l => if l.length ≤ SZ then slTup l lo hi else .none
  | .lst l => if l.length ≤ SZ then slLst l lo hi else .none
  | _ => .none

noncomputable def strsOf : List PV → Option (List (List Nat))
  | [] => some []
  | .str s :: r => (strsOf r).map (s :: ·)
  | _ :: _ => .none
noncomputable def lenop (σ : Store) (v : PV) : Option PV := match v with
  | .str l => if l.length ≤ SZ then some (.int l.length) else .none
  | .tup l => if l.length ≤ SZ then some (.int l.length) else .none
  | .lst l => if l.length ≤ SZ then some (.int l.length) else .none
  | .ref k => inLst σ k fun l => if l.length ≤ SZ then some (.int l.length) else .none
  | _ => .none
noncomputable def maxop (args : List PV) : Option PV := match args with
  | [a, b] => onInt a fun x => onInt b fun y => some (.int (if x < y then y else x))
  | _ => .none
noncomputable def biop (b : Bi) (args : List PV) (σ : Store) : Option PV := match b with
  | .len => onOne args (lenop σ)
  | .int => onOne args fun v => onStr v fun l => if l ≠ [] ∧ l.length ≤ 18 ∧ l.all isDig = true then some (.int (numOf l)) else .none
  | .str => onOne args fun v => onInt v fun i => if i.natAbs < 1000000000000000000 then some (.str (digs i)) else .none
  | .range => onOne args fun v => onInt v fun i => if i.natAbs ≤ SZ then some (.rng i) else .none
  | .max => maxop args
  | .tuple => onOne args fun v => onLst v fun l => if l.length ≤ SZ then some (.tup l) else .none
  | .list => onOne args fun v => onLst v fun l => if l.length ≤ SZ then some (.lst l) else .none
noncomputable def attrop (σ : Store) (v : PV) (a : Nat) (spot : Nat) : Option PV := match v with
  | .ref k => (match σ[k]? with
    | some (.inst c l) => if c = 6 then lk l a else .none
    | _ => .none)
  | .exn i => if a = spot then some (.int i) else .none
  | _ => .none
/-- the i-th item of what is walked; none: it is walked to its end -/
noncomputable def itemAt (σ : Store) (tt : Bool) (v : PV) (i : Nat) : Option (Option PV) := match v with
  | .str l => if tt = true then .none else some ((l[i]?).map fun c => .str [c])
  | .tup l => if tt = true then .none else some l[i]?
  | .lst l => some l[i]?
  | .rng n => if tt = true ∨ SZ < n.natAbs then .none else some (if (i : Int) < n then some (.int i) else .none)
  | .ref k => (match σ[k]? with
    | some (.lst l) => some l[i]?
    | _ => .none)
  | _ => .none
noncomputable def truth : PV → Option Bool
  | .bool b => some b
  | _ => .none

noncomputable def spotName : Nat := 0
noncomputable def heardLimit : Nat := 3
noncomputable def heardTerm : Nat := 4
/-- what _law_heard makes of what it asks -/
noncomputable def heardOf (told limit term : List Nat) : Option (R PV) → Option (R PV)
  | some (.ok v σ) => some (.ok (.tup [.str told, v]) σ)
  | some (.exc x σ) => if x.cls = heardLimit then some (.ok (.tup [.str limit, .none]) σ) else if x.cls = heardTerm then some (.ok (.tup [.str term, .none]) σ) else .none
  | .none => .none
noncomputable def sTold : List Nat := [116, 111, 108, 100]
noncomputable def sLimit : List Nat := [108, 105, 109, 105, 116]
noncomputable def sTerm : List Nat := [116, 101, 114, 109]

mutual
noncomputable def ev (Φ : Sig) : Nat → CE → Loc → Store → Option (R PV)
  | 0, _, _, _ => .none
  | _ + 1, .loc x, ρ, σ => rok (lk ρ x) σ
  | _ + 1, .glo x, _, σ => rok (Φ.glo x) σ
  | _ + 1, .cnone, _, σ => some (.ok .none σ)
  | _ + 1, .cbool b, _, σ => some (.ok (.bool b) σ)
  | _ + 1, .cint i, _, σ => some (.ok (.int i) σ)
  | _ + 1, .cstr s, _, σ => some (.ok (.str s) σ)
  | n + 1, .neg a, ρ, σ => bnd (ev Φ n a ρ σ) fun v σ => rok (negop v) σ
  | n + 1, .not a, ρ, σ => bnd (ev Φ n a ρ σ) fun v σ => rok ((truth v).map fun b => .bool (!b)) σ
  | n + 1, .bin op a b, ρ, σ => bnd (ev Φ n a ρ σ) fun v σ => bnd (ev Φ n b ρ σ) fun u σ => rok (binop op v u) σ
  | n + 1, .cmp op a b, ρ, σ => bnd (ev Φ n a ρ σ) fun v σ => bnd (ev Φ n b ρ σ) fun u σ => rok ((cmpop op v u).map .bool) σ
  | n + 1, .cmpNil op a, ρ, σ => bnd (ev Φ n a ρ σ) fun v σ => rok (match op with
    | .Eq => (isNil σ v).map .bool
    | _ => .none) σ
  | n + 1, .bop c l, ρ, σ => evB Φ n c l ρ σ
  | n + 1, .ite t b o, ρ, σ => bnd (evT Φ n t ρ σ) fun c σ => if c = true then ev Φ n b ρ σ else ev Φ n o ρ σ
  | n + 1, .tup l, ρ, σ => bnd (evs Φ n l ρ σ) fun vs σ => if vs.length ≤ SZ then some (.ok (.tup vs) σ) else .none
  | n + 1, .lst l, ρ, σ => if Φ.q = true then .none else bnd (evs Φ n l ρ σ) fun vs σ => if vs.length ≤ SZ then some (.ok (.ref σ.length) (σ ++ [.lst vs])) else .none
  | n + 1, .sub a i, ρ, σ => bnd (ev Φ n a ρ σ) fun v σ => bnd (ev Φ n i ρ σ) fun u σ => rok (subop σ v u) σ
  | n + 1, .slice a lo hi, ρ, σ => bnd (ev Φ n a ρ σ) fun v σ => bnd (evO Φ n lo ρ σ) fun x σ => bnd (evO Φ n hi ρ σ) fun y σ => rok (sliceop v x y) σ
  | n + 1, .call f args, ρ, σ => if Φ.q = true ∨ Φ.kn f = false then .none else bnd (evs Φ n args ρ σ) fun vs σ => Φ.fn f vs σ
  | n + 1, .bi b args, ρ, σ => if Φ.q = true ∧ b = .max then .none else bnd (evs Φ n args ρ σ) fun vs σ => rok (biop b vs σ) σ
  | n + 1, .meth o m args, ρ, σ => if Φ.q = true then .none else bnd (ev Φ n o ρ σ) fun v σ => match v with
    | .ref k => match σ[k]? with
      | some (.inst c l) => if (lk l m).isSome = true ∨ Φ.km c m = false then .none else bnd (evs Φ n args ρ σ) fun vs σ => Φ.meth c m k vs σ
      | _ => .none
    | _ => .none
  | n + 1, .mdig o, ρ, σ => bnd (ev Φ n o ρ σ) fun v σ => match v with
    | .str l => if l.all (fun c => Nat.blt c 128) = true then some (.ok (.bool (!l.isEmpty && l.all isDig)) σ) else .none
    | _ => .none
  | n + 1, .mjoin o a, ρ, σ => bnd (ev Φ n o ρ σ) fun v σ => match v with
    | .str [] => bnd (ev Φ n a ρ σ) fun u σ => match u with
      | .lst l => match strsOf l with
        | some ss => if ss.length ≤ SZ ∧ ss.flatten.length ≤ SZ then some (.ok (.str ss.flatten) σ) else .none
        | .none => .none
      | _ => .none
    | _ => .none
  | n + 1, .mapp o a, ρ, σ => if Φ.q = true then .none else bnd (ev Φ n o ρ σ) fun v σ => match v with
    | .ref k => match σ[k]? with
      | some (.lst _) => bnd (ev Φ n a ρ σ) fun u σ => match σ[k]? with
        | some (.lst l) => if l.length ≤ SZ then some (.ok .none (σ.set k (.lst (l ++ [u])))) else .none
        | _ => .none
      | _ => .none
    | _ => .none
  | n + 1, .mpop o, ρ, σ => if Φ.q = true then .none else bnd (ev Φ n o ρ σ) fun v σ => match v with
    | .ref k => match σ[k]? with
      | some (.lst l) => if l.length ≤ SZ then (match l.getLast? with
        | some u => some (.ok u (σ.set k (.lst l.dropLast)))
        | .none => .none) else .none
      | _ => .none
    | _ => .none
  | n + 1, .attr o a, ρ, σ => bnd (ev Φ n o ρ σ) fun v σ => rok (attrop σ v a spotName) σ
  | n + 1, .fstr pre e, ρ, σ => bnd (ev Φ n e ρ σ) fun v σ => match v with
    | .int i => if i.natAbs < 1000000000000000000 ∧ pre.length ≤ 1000 then some (.ok (.str (pre ++ digs i)) σ) else .none
    | _ => .none
  | n + 1, .fstrs e post, ρ, σ => bnd (ev Φ n e ρ σ) fun v σ => match v with
    | .str l => if l.length ≤ SZ then some (.ok (.str (l ++ post)) σ) else .none
    | _ => .none
  | n + 1, .comp elt xs tt fv it c, ρ, σ => if Φ.q = true then .none else bnd (ev Φ n it ρ σ) fun src σ => match capture ρ fv with
    | some ρ' => bnd (evC Φ n elt xs tt c src 0 ρ' [] σ) fun l σ => some (.ok (.lst l) σ)
    | .none => .none
  | n + 1, .heard i fv e, ρ, σ => if Φ.q = true ∨ Φ.top = false then .none else match capture ρ fv, σ[0]? with
    | some ρ', some (PO.tab l) => if l.contains i = true then .none else heardOf sTold sLimit sTerm (ev Φ.low n e ρ' (σ.set 0 (.tab (i :: l))))
    | _, _ => .none
noncomputable def evT (Φ : Sig) : Nat → CE → Loc → Store → Option (R Bool)
  | 0, _, _, _ => .none
  | n + 1, .not a, ρ, σ => bnd (evT Φ n a ρ σ) fun b σ => some (.ok (!b) σ)
  | n + 1, .bop c l, ρ, σ => evTs Φ n c l ρ σ
  | n + 1, .ite t b o, ρ, σ => bnd (evT Φ n t ρ σ) fun c σ => if c = true then evT Φ n b ρ σ else evT Φ n o ρ σ
  | n + 1, e, ρ, σ => bnd (ev Φ n e ρ σ) fun v σ => rok (truth v) σ
noncomputable def evTs (Φ : Sig) : Nat → Bool → List CE → Loc → Store → Option (R Bool)
  | 0, _, _, _, _ => .none
  | _ + 1, c, [], _, σ => some (.ok c σ)
  | n + 1, c, x :: r, ρ, σ => bnd (evT Φ n x ρ σ) fun b σ => if b = c then evTs Φ n c r ρ σ else some (.ok b σ)
noncomputable def evB (Φ : Sig) : Nat → Bool → List CE → Loc → Store → Option (R PV)
  | 0, _, _, _, _ => .none
  | _ + 1, _, [], _, _ => .none
  | n + 1, _, [x], ρ, σ => ev Φ n x ρ σ
  | n + 1, c, x :: r, ρ, σ => bnd (ev Φ n x ρ σ) fun v σ => match truth v with
    | some b => if b = c then evB Φ n c r ρ σ else some (.ok v σ)
    | .none => .none
noncomputable def evs (Φ : Sig) : Nat → List CE → Loc → Store → Option (R (List PV))
  | 0, _, _, _ => .none
  | _ + 1, [], _, σ => some (.ok [] σ)
  | n + 1, x :: r, ρ, σ => bnd (ev Φ n x ρ σ) fun v σ => bnd (evs Φ n r ρ σ) fun vs σ => some (.ok (v :: vs) σ)
noncomputable def evO (Φ : Sig) : Nat → Option CE → Loc → Store → Option (R (Option PV))
  | 0, _, _, _ => .none
  | _ + 1, .none, _, σ => some (.ok .none σ)
  | n + 1, some x, ρ, σ => bnd (ev Φ n x ρ σ) fun v σ => some (.ok (some v) σ)
/-- a comprehension's turns, from the i-th item on -/
noncomputable def evC (Φ : Sig) : Nat → CE → List Nat → Bool → Option CE → PV → Nat → Loc → List PV → Store → Option (R (List PV))
  | 0, _, _, _, _, _, _, _, _, _ => .none
  | n + 1, elt, xs, tt, c, src, i, ρ, acc, σ => match itemAt σ tt src i with
    | .none => .none
    | some .none => some (.ok acc σ)
    | some (some v) => match takeV ρ xs tt v with
      | .none => .none
      | some ρ => bnd (match c with
          | .none => some (.ok true σ)
          | some c => evT Φ n c ρ σ) fun b σ =>
        if b = true then bnd (ev Φ n elt ρ σ) fun u σ => if acc.length < SZ then evC Φ n elt xs tt c src (i + 1) ρ (acc ++ [u]) σ else .none
        else evC Φ n elt xs tt c src (i + 1) ρ acc σ
end

inductive RS where
  | nxt (ρ : Loc) (σ : Store)
  | ret (v : PV) (ρ : Loc) (σ : Store)
  | exc (x : PX) (ρ : Loc) (σ : Store)
noncomputable def bndE {α : Type} (ρ : Loc) (m : Option (R α)) (f : α → Store → Option RS) : Option RS := match m with
  | .none => .none
  | some (.ok a σ) => f a σ
  | some (.exc x σ) => some (.exc x ρ σ)
noncomputable def setLst (σ : Store) (k : Nat) (i : Int) (v : PV) : Option Store := match σ[k]? with
  | some (.lst l) => if 0 ≤ i ∧ i.toNat < l.length ∧ l.length ≤ SZ then some (σ.set k (.lst (l.set i.toNat v))) else .none
  | _ => .none
noncomputable def setAtt (σ : Store) (k : Nat) (a : Nat) (v : PV) : Option Store := match σ[k]? with
  | some (.inst c l) => if c = 6 ∧ l.length < 90 then some (σ.set k (.inst c (setL l a v))) else .none
  | _ => .none

mutual
noncomputable def ex (Φ : Sig) : Nat → CS → Loc → Store → Option RS
  | 0, _, _, _ => .none
  | n + 1, .asg x e, ρ, σ => if Φ.q = true then .none else bndE ρ (ev Φ n e ρ σ) fun v σ => some (.nxt (setL ρ x v) σ)
  | n + 1, .asgT xs e, ρ, σ => if Φ.q = true then .none else bndE ρ (ev Φ n e ρ σ) fun v σ => match v with
    | .tup l => (setLs ρ xs l).map fun ρ' => .nxt ρ' σ
    | _ => .none
  | n + 1, .seta o a e, ρ, σ => if Φ.q = true then .none else bndE ρ (ev Φ n e ρ σ) fun v σ => bndE ρ (ev Φ n o ρ σ) fun u σ => match u with
    | .ref k => (setAtt σ k a v).map fun σ => .nxt ρ σ
    | _ => .none
  | n + 1, .seti o i e, ρ, σ => if Φ.q = true then .none else bndE ρ (ev Φ n e ρ σ) fun v σ => bndE ρ (ev Φ n o ρ σ) fun u σ => bndE ρ (ev Φ n i ρ σ) fun j σ => match u, j with
    | .ref k, .int j => (setLst σ k j v).map fun σ => .nxt ρ σ
    | _, _ => .none
  | n + 1, .exp e, ρ, σ => if Φ.q = true then .none else bndE ρ (ev Φ n e ρ σ) fun v σ => match v with
    | .none => some (.nxt ρ σ)
    | .str _ => some (.nxt ρ σ)
    | .int _ => some (.nxt ρ σ)
    | _ => .none
  | n + 1, .ret e, ρ, σ => bndE ρ (ev Φ n e ρ σ) fun v σ => some (.ret v ρ σ)
  | n + 1, .iff t b o, ρ, σ => bndE ρ (evT Φ n t ρ σ) fun c σ => if c = true then exs Φ n b ρ σ else exs Φ n o ρ σ
  | n + 1, .forr xs tt it body, ρ, σ => if Φ.q = true then .none else bndE ρ (ev Φ n it ρ σ) fun src σ => exF Φ n xs tt src 0 body ρ σ
  | n + 1, .whil t body, ρ, σ => if Φ.q = true then .none else exW Φ n t body ρ σ
  | n + 1, .rais c args, ρ, σ => if Φ.q = true ∨ Φ.kx c = false then .none else bndE ρ (evs Φ n args ρ σ) fun vs σ => match Φ.exc c vs with
    | some x => some (.exc x ρ σ)
    | .none => .none
  | n + 1, .tryy body c y e, ρ, σ => if Φ.q = true ∨ Φ.kx c = false then .none else match exs Φ n body ρ σ with
    | some (.exc x ρ σ) => if x.cls = c then (match x.spot with
        | some i => (match ev Φ.quiet n e (setL ρ y (.exn i)) σ with
          | some (.ok (.bool b) σ) => some (.ret (.bool b) [] σ)
          | _ => .none)
        | .none => .none) else .none
    | r => r
noncomputable def exs (Φ : Sig) : Nat → List CS → Loc → Store → Option RS
  | 0, _, _, _ => .none
  | _ + 1, [], ρ, σ => some (.nxt ρ σ)
  | n + 1, s :: r, ρ, σ => match ex Φ n s ρ σ with
    | some (.nxt ρ σ) => exs Φ n r ρ σ
    | r => r
noncomputable def exF (Φ : Sig) : Nat → List Nat → Bool → PV → Nat → List CS → Loc → Store → Option RS
  | 0, _, _, _, _, _, _, _ => .none
  | n + 1, xs, tt, src, i, body, ρ, σ => match itemAt σ tt src i with
    | .none => .none
    | some .none => some (.nxt ρ σ)
    | some (some v) => match takeV ρ xs tt v with
      | .none => .none
      | some ρ => match exs Φ n body ρ σ with
        | some (.nxt ρ σ) => exF Φ n xs tt src (i + 1) body ρ σ
        | r => r
noncomputable def exW (Φ : Sig) : Nat → CE → List CS → Loc → Store → Option RS
  | 0, _, _, _, _ => .none
  | n + 1, t, body, ρ, σ => bndE ρ (evT Φ n t ρ σ) fun c σ => if c = true then (match exs Φ n body ρ σ with
      | some (.nxt ρ σ) => exW Φ n t body ρ σ
      | r => r) else some (.nxt ρ σ)
end
noncomputable def resOf : RS → R PV
  | .nxt _ σ => .ok .none σ
  | .ret v _ σ => .ok v σ
  | .exc x _ σ => .exc x σ
noncomputable def newOf (n : Nat) : R PV → Option (R PV)
  | .ok .none σ => some (.ok (.ref n) σ)
  | .exc x σ => some (.exc x σ)
  | _ => none
end Mine
end
/-! L1: what the evaluator gives, with fuel enough -/
section
set_option autoImplicit false
set_option linter.unusedVariables false
set_option linter.unusedSimpArgs false
namespace Mine
open PySem

noncomputable def nextOf (m : Option RS) (f : Loc → Store → Option RS) : Option RS := match m with
  | some (.nxt ρ σ) => f ρ σ
  | r => r
noncomputable def excOf (m : Option RS) (f : PX → Loc → Store → Option RS) : Option RS := match m with
  | some (.exc x ρ σ) => f x ρ σ
  | r => r
noncomputable def caughtOf (m : Option (R PV)) : Option RS := match m with
  | some (.ok (.bool b) σ) => some (.ret (.bool b) [] σ)
  | _ => .none

/-- what is known of x comes with fuel enough -/
structure Ap {α : Type} (f : Nat → Option α) (x : Option α) : Prop where
  imp : ∀ r, x = some r → ∃ n, ∀ m, n ≤ m → f m = some r
section
variable {α β : Type}
theorem Ap.const (x : Option α) : Ap (fun _ => x) x := ⟨fun _ h => ⟨0, fun _ _ => h⟩⟩
theorem Ap.none (f : Nat → Option α) : Ap f .none := ⟨fun _ h => by cases h⟩
theorem Ap.shift {f : Nat → Option α} {x : Option α} (a : Ap (fun n => f (n + 1)) x) : Ap f x := by
  refine ⟨fun r h => ?_⟩
  obtain ⟨n, hn⟩ := a.imp r h
  refine ⟨n + 1, fun m hm => ?_⟩
  cases m with
  | zero => exact absurd hm (Nat.not_succ_le_zero _)
  | succ m => exact hn m (Nat.le_of_succ_le_succ hm)
theorem Ap.two {f : Nat → Option α} {g : Nat → Option β} {x : Option α} {y : Option β} {r : α} {r' : β} (a : Ap f x) (b : Ap g y) (h : x = some r) (h' : y = some r') : ∃ n, ∀ m, n ≤ m → f m = some r ∧ g m = some r' := by
  obtain ⟨n, hn⟩ := a.imp r h
  obtain ⟨n', hn'⟩ := b.imp r' h'
  exact ⟨max n n', fun m hm => ⟨hn m (Nat.le_trans (Nat.le_max_left ..) hm), hn' m (Nat.le_trans (Nat.le_max_right ..) hm)⟩⟩
theorem Ap.thru {f : Nat → Option α} {x : Option α} (F : Option α → Option β) (hF : F .none = .none) (a : Ap f x) : Ap (fun n => F (f n)) (F x) := by
  refine ⟨fun r h => ?_⟩
  cases x with
  | none => rw [hF] at h; cases h
  | some q =>
    obtain ⟨n, hn⟩ := a.imp q rfl
    exact ⟨n, fun m hm => by rw [hn m hm]; exact h⟩
/-- something that goes on with what it is given, if it is given something -/
theorem Ap.go {γ : Type} {m : Nat → Option α} {x : Option α} (F : Option α → (γ → Option β) → Option β) (hn : ∀ f, F .none f = .none) (hF : ∀ q : α, (∃ c, ∀ f, F (some q) f = f c) ∨ ∃ r, ∀ f, F (some q) f = r) {f : Nat → γ → Option β} {g : γ → Option β} (a : Ap m x) (b : ∀ c, Ap (fun n => f n c) (g c)) : Ap (fun n => F (m n) (f n)) (F x g) := by
  refine ⟨fun r h => ?_⟩
  cases x with
  | none => rw [hn] at h; cases h
  | some q =>
    rcases hF q with ⟨c, hc⟩ | ⟨r', hc⟩
    · rw [hc] at h
      obtain ⟨n, hn⟩ := a.two (b c) rfl h
      exact ⟨n, fun m hm => by rw [(hn m hm).1, hc]; exact (hn m hm).2⟩
    · rw [hc] at h
      obtain ⟨n, hn⟩ := a.imp q rfl
      exact ⟨n, fun m hm => by rw [hn m hm, hc]; exact h⟩
theorem Ap.bnd {m : Nat → Option (R α)} {x : Option (R α)} {f : Nat → α → Store → Option (R β)} {g : α → Store → Option (R β)} (a : Ap m x) (b : ∀ v σ, Ap (fun n => f n v σ) (g v σ)) : Ap (fun n => bnd (m n) (f n)) (bnd x g) :=
  Ap.go (γ := α × Store) (fun m f => Mine.bnd m fun v σ => f (v, σ)) (fun _ => rfl) (fun q => match q with
    | .ok v σ => .inl ⟨(v, σ), fun _ => rfl⟩
    | .exc x σ => .inr ⟨_, fun _ => rfl⟩) (f := fun n c => f n c.1 c.2) (g := fun c => g c.1 c.2) a fun c => b c.1 c.2
theorem Ap.bndE {ρ : Loc} {m : Nat → Option (R α)} {x : Option (R α)} {f : Nat → α → Store → Option RS} {g : α → Store → Option RS} (a : Ap m x) (b : ∀ v σ, Ap (fun n => f n v σ) (g v σ)) : Ap (fun n => bndE ρ (m n) (f n)) (bndE ρ x g) :=
  Ap.go (γ := α × Store) (fun m f => Mine.bndE ρ m fun v σ => f (v, σ)) (fun _ => rfl) (fun q => match q with
    | .ok v σ => .inl ⟨(v, σ), fun _ => rfl⟩
    | .exc x σ => .inr ⟨_, fun _ => rfl⟩) (f := fun n c => f n c.1 c.2) (g := fun c => g c.1 c.2) a fun c => b c.1 c.2
theorem Ap.next {m : Nat → Option RS} {x : Option RS} {f : Nat → Loc → Store → Option RS} {g : Loc → Store → Option RS} (a : Ap m x) (b : ∀ v σ, Ap (fun n => f n v σ) (g v σ)) : Ap (fun n => nextOf (m n) (f n)) (nextOf x g) :=
  Ap.go (γ := Loc × Store) (fun m f => nextOf m fun v σ => f (v, σ)) (fun _ => rfl) (fun q => match q with
    | .nxt v σ => .inl ⟨(v, σ), fun _ => rfl⟩
    | .exc x v σ => .inr ⟨_, fun _ => rfl⟩
    | .ret x v σ => .inr ⟨_, fun _ => rfl⟩) (f := fun n c => f n c.1 c.2) (g := fun c => g c.1 c.2) a fun c => b c.1 c.2
theorem Ap.exc {m : Nat → Option RS} {x : Option RS} {f : Nat → PX → Loc → Store → Option RS} {g : PX → Loc → Store → Option RS} (a : Ap m x) (b : ∀ x v σ, Ap (fun n => f n x v σ) (g x v σ)) : Ap (fun n => excOf (m n) (f n)) (excOf x g) :=
  Ap.go (γ := PX × Loc × Store) (fun m f => excOf m fun x v σ => f (x, v, σ)) (fun _ => rfl) (fun q => match q with
    | .exc x v σ => .inl ⟨(x, v, σ), fun _ => rfl⟩
    | .nxt v σ => .inr ⟨_, fun _ => rfl⟩
    | .ret x v σ => .inr ⟨_, fun _ => rfl⟩) (f := fun n c => f n c.1 c.2.1 c.2.2) (g := fun c => g c.1 c.2.1 c.2.2) a fun c => b c.1 c.2.1 c.2.2
theorem Ap.ite {c : Prop} [Decidable c] {f g : Nat → Option α} {x y : Option α} (a : Ap f x) (b : Ap g y) : Ap (fun n => if c then f n else g n) (if c then x else y) := by
  by_cases h : c
  · simp only [if_pos h]; exact a
  · simp only [if_neg h]; exact b
end

open Classical in
/-- a loop, as far as it goes: the first answer that comes -/
noncomputable def lim {α : Type} (f : Nat → Option α) : Option α := if h : ∃ r n, f n = some r then some h.choose else none
structure Mo {α : Type} (f : Nat → Option α) : Prop where
  mo : ∀ n r, f n = some r → f (n + 1) = some r
theorem Mo.le {α : Type} {f : Nat → Option α} (h : Mo f) {r : α} {n : Nat} (e : f n = some r) : ∀ m, n ≤ m → f m = some r := by
  intro m hm
  induction hm with
  | refl => exact e
  | step _ ih => exact h.mo _ _ ih
theorem Mo.is {α : Type} {f : Nat → Option α} (h : Mo f) (r : α) : lim f = some r ↔ ∃ n, f n = some r := by
  unfold lim
  split
  · rename_i q
    obtain ⟨n, hn⟩ := q.choose_spec
    refine ⟨fun e => ⟨n, by rw [← e]; exact hn⟩, fun ⟨m, hm⟩ => ?_⟩
    have h1 := h.le hn _ (Nat.le_max_left n m)
    rw [h.le hm _ (Nat.le_max_right n m)] at h1
    exact h1.symm
  · rename_i q
    exact ⟨fun e => (nomatch e), fun ⟨n, e⟩ => absurd ⟨r, n, e⟩ q⟩
theorem Mo.ap {α : Type} {f : Nat → Option α} (h : Mo f) : Ap f (lim f) := ⟨fun r e => by
  obtain ⟨n, hn⟩ := (h.is r).mp e
  exact ⟨n, h.le hn⟩⟩
theorem Mo.eq {α : Type} {f : Nat → Option α} (h : Mo f) {x : Option α} (a : Ap f x) (b : ∀ n r, f n = some r → x = some r) : lim f = x := by
  apply Option.ext
  intro r
  refine (h.is r).trans ⟨fun ⟨n, hn⟩ => b n r hn, fun e => ?_⟩
  obtain ⟨n, hn⟩ := a.imp r e
  exact ⟨n, hn n (Nat.le_refl _)⟩
end Mine
end
/-! L2: the evaluator without fuel: it goes down the text -/
section
set_option autoImplicit false
set_option linter.unusedVariables false
set_option linter.unusedSimpArgs false
namespace Mine
open PySem

noncomputable def lkB (ρ : Loc) (x : Nat) : Option PV := match ρ with
  | [] => .none
  | (y, v) :: r => match y == x with
    | true => some v
    | false => lkB r x
noncomputable def setLB (ρ : Loc) (x : Nat) (v : PV) : Loc := match ρ with
  | [] => [(x, v)]
  | (y, u) :: r => match y == x with
    | true => (x, v) :: r
    | false => (y, u) :: setLB r x v
noncomputable def setLsB (ρ : Loc) : List Nat → List PV → Option Loc
  | [], [] => some ρ
  | x :: xs, v :: vs => setLsB (setLB ρ x v) xs vs
  | _, _ => .none
noncomputable def takeVB (ρ : Loc) (xs : List Nat) (tt : Bool) (v : PV) : Option Loc := match tt, v with
  | true, .tup l => setLsB ρ xs l
  | false, v => setLsB ρ xs [v]
  | _, _ => .none
noncomputable def captureB (ρ : Loc) : List Nat → Option Loc
  | [] => some []
  | x :: xs => match lkB ρ x, captureB ρ xs with
    | some v, some r => some ((x, v) :: r)
    | _, _ => .none
theorem lkB_eq (x : Nat) : ∀ ρ : Loc, lk ρ x = lkB ρ x
  | [] => rfl
  | (y, v) :: r => by
    by_cases h : y = x
    · subst h; simp [lk, lkB]
    · have h' : (y == x) = false := by simpa using h
      simp [lk, lkB, h, h', lkB_eq x r]
theorem setLB_eq (x : Nat) (v : PV) : ∀ ρ : Loc, setL ρ x v = setLB ρ x v
  | [] => rfl
  | (y, u) :: r => by
    by_cases h : y = x
    · subst h; simp [setL, setLB]
    · have h' : (y == x) = false := by simpa using h
      simp [setL, setLB, h, h', setLB_eq x v r]
theorem setLsB_eq : ∀ (xs : List Nat) (vs : List PV) (ρ : Loc), setLs ρ xs vs = setLsB ρ xs vs
  | [], [], _ => rfl
  | x :: xs, v :: vs, ρ => by rw [setLs, setLsB, setLB_eq, setLsB_eq xs vs]
  | [], _ :: _, _ => rfl
  | _ :: _, [], _ => rfl
theorem takeVB_eq (ρ : Loc) (xs : List Nat) (tt : Bool) (v : PV) : takeV ρ xs tt v = takeVB ρ xs tt v := by
  unfold takeV takeVB
  cases tt
  · exact setLsB_eq ..
  · cases v <;> first | rfl | exact setLsB_eq ..
theorem captureB_eq (ρ : Loc) : ∀ xs : List Nat, capture ρ xs = captureB ρ xs
  | [] => rfl
  | x :: xs => by
    rw [capture, captureB, lkB_eq, captureB_eq ρ xs]
    first | done | rfl


noncomputable def kq (Φ : Sig) {α : Type} (x : Option α) : Option α := match Φ.q with
  | true => .none
  | false => x
noncomputable def kqm (Φ : Sig) (b : Bi) {α : Type} (x : Option α) : Option α := match b with
  | .max => kq Φ x
  | _ => x
noncomputable def kk (b : Bool) {α : Type} (x : Option α) : Option α := match b with
  | true => x
  | false => .none
noncomputable def kNeg (v : PV) (σ : Store) : Option (R PV) := rok (negop v) σ
noncomputable def kNot (v : PV) (σ : Store) : Option (R PV) := rok ((truth v).map fun b => .bool (!b)) σ
noncomputable def kBin2 (op : Operator) (v : PV) (u : PV) (σ : Store) : Option (R PV) := rok (binop op v u) σ
noncomputable def kBin (op : Operator) (b : Store → Option (R PV)) (v : PV) (σ : Store) : Option (R PV) := bnd (b σ) (kBin2 op v)
noncomputable def kCmp2 (op : CmpOp) (v : PV) (u : PV) (σ : Store) : Option (R PV) := rok ((cmpop op v u).map .bool) σ
noncomputable def kCmp (op : CmpOp) (b : Store → Option (R PV)) (v : PV) (σ : Store) : Option (R PV) := bnd (b σ) (kCmp2 op v)
noncomputable def kNil (op : CmpOp) (v : PV) (σ : Store) : Option (R PV) := rok (match op with
    | .Eq => (isNil σ v).map .bool
    | _ => .none) σ
noncomputable def kIte {α : Type} (b o : Store → Option (R α)) (c : Bool) (σ : Store) : Option (R α) := match c with
  | true => b σ
  | false => o σ
noncomputable def kTup (vs : List PV) (σ : Store) : Option (R PV) := if vs.length ≤ SZ then some (.ok (.tup vs) σ) else .none
noncomputable def kLst (vs : List PV) (σ : Store) : Option (R PV) := if vs.length ≤ SZ then some (.ok (.ref σ.length) (σ ++ [.lst vs])) else .none
noncomputable def kSub2 (v : PV) (u : PV) (σ : Store) : Option (R PV) := rok (subop σ v u) σ
noncomputable def kSub (b : Store → Option (R PV)) (v : PV) (σ : Store) : Option (R PV) := bnd (b σ) (kSub2 v)
noncomputable def kSl3 (v : PV) (x y : Option PV) (σ : Store) : Option (R PV) := rok (sliceop v x y) σ
noncomputable def kSl2 (hi : Store → Option (R (Option PV))) (v : PV) (x : Option PV) (σ : Store) : Option (R PV) := bnd (hi σ) (kSl3 v x)
noncomputable def kSl (lo hi : Store → Option (R (Option PV))) (v : PV) (σ : Store) : Option (R PV) := bnd (lo σ) (kSl2 hi v)
noncomputable def kBi (b : Bi) (vs : List PV) (σ : Store) : Option (R PV) := rok (biop b vs σ) σ
noncomputable def kMeth2 (Φ : Sig) (c m k : Nat) (vs : List PV) (σ : Store) : Option (R PV) := Φ.meth c m k vs σ
noncomputable def onRef {α : Type} (v : PV) (f : Nat → Option α) : Option α := match v with
  | .ref k => f k
  | _ => .none
noncomputable def atL {α : Type} (o : Option PO) (f : List PV → Option α) : Option α := match o with
  | some (.lst l) => f l
  | _ => none
noncomputable def atO {α : Type} (o : Option PO) (f : Nat → List (Nat × PV) → Option α) : Option α := match o with
  | some (.inst c l) => f c l
  | _ => none
noncomputable def kNo {α : Type} (o : Option PV) (x : Option α) : Option α := match o with
  | some _ => .none
  | .none => x
noncomputable def kMeth (Φ : Sig) (m : Nat) (l : Store → Option (R (List PV))) (v : PV) (σ : Store) : Option (R PV) := onRef v fun k => atO σ[k]? fun c a => kNo (lkB a m) (kk (Φ.km c m) (bnd (l σ) (kMeth2 Φ c m k)))
noncomputable def kDig (v : PV) (σ : Store) : Option (R PV) := onStr v fun l => if l.all (fun c => Nat.blt c 128) = true then some (.ok (.bool (!l.isEmpty && l.all isDig)) σ) else .none
noncomputable def kJoin2 (u : PV) (σ : Store) : Option (R PV) := onLst u fun l => match strsOf l with
        | some ss => if ss.length ≤ SZ ∧ ss.flatten.length ≤ SZ then some (.ok (.str ss.flatten) σ) else .none
        | .none => .none
noncomputable def kJoin (a : Store → Option (R PV)) (v : PV) (σ : Store) : Option (R PV) := onStr v fun l => match l with
    | [] => bnd (a σ) kJoin2
    | _ => .none
noncomputable def kApp2 (k : Nat) (u : PV) (σ : Store) : Option (R PV) := atL σ[k]? fun l => if l.length ≤ SZ then some (.ok .none (σ.set k (.lst (l ++ [u])))) else .none
noncomputable def kApp (a : Store → Option (R PV)) (v : PV) (σ : Store) : Option (R PV) := onRef v fun k => atL σ[k]? fun _ => bnd (a σ) (kApp2 k)
noncomputable def kPop2 (k : Nat) (l : List PV) (σ : Store) : Option PV → Option (R PV)
  | some u => some (.ok u (σ.set k (.lst l.dropLast)))
  | .none => .none
noncomputable def kPop (v : PV) (σ : Store) : Option (R PV) := onRef v fun k => atL σ[k]? fun l => if l.length ≤ SZ then kPop2 k l σ l.getLast? else .none
noncomputable def kAttr (a : Nat) (v : PV) (σ : Store) : Option (R PV) := rok (attrop σ v a spotName) σ
noncomputable def kFstr (pre : List Nat) (v : PV) (σ : Store) : Option (R PV) := onInt v fun i => if i.natAbs < 1000000000000000000 ∧ pre.length ≤ 1000 then some (.ok (.str (pre ++ digs i)) σ) else .none
noncomputable def kFstrs (post : List Nat) (v : PV) (σ : Store) : Option (R PV) := onStr v fun l => if l.length ≤ SZ then some (.ok (.str (l ++ post)) σ) else .none
noncomputable def kTruth (v : PV) (σ : Store) : Option (R Bool) := rok (truth v) σ
noncomputable def kTNot (b : Bool) (σ : Store) : Option (R Bool) := some (.ok (!b) σ)
noncomputable def kTs (c : Bool) (r : Store → Option (R Bool)) (b : Bool) (σ : Store) : Option (R Bool) := match c, b with
  | true, true => r σ
  | true, false => some (.ok false σ)
  | false, false => r σ
  | false, true => some (.ok true σ)
noncomputable def kB2 (c : Bool) (r : Store → Option (R PV)) (v : PV) (σ : Store) : Option Bool → Option (R PV)
  | some true => (match c with
    | true => r σ
    | false => some (.ok v σ))
  | some false => (match c with
    | true => some (.ok v σ)
    | false => r σ)
  | .none => .none
noncomputable def kB (c : Bool) (r : Store → Option (R PV)) (v : PV) (σ : Store) : Option (R PV) := kB2 c r v σ (truth v)
noncomputable def kVs2 (v : PV) (vs : List PV) (σ : Store) : Option (R (List PV)) := some (.ok (v :: vs) σ)
noncomputable def kVs (r : Store → Option (R (List PV))) (v : PV) (σ : Store) : Option (R (List PV)) := bnd (r σ) (kVs2 v)
noncomputable def kO (v : PV) (σ : Store) : Option (R (Option PV)) := some (.ok (some v) σ)
/-- a loop's turn: the item, and what is done with it -/
noncomputable def onItem {α : Type} (o : Option (Option PV)) (e : Option α) (f : PV → Option α) : Option α := match o with
  | .none => .none
  | some .none => e
  | some (some v) => f v
noncomputable def onLoc {α : Type} (o : Option Loc) (f : Loc → Option α) : Option α := match o with
  | .none => .none
  | some ρ => f ρ
noncomputable def LCN (cond : Loc → Store → Option (R Bool)) (elt : Loc → Store → Option (R PV)) (xs : List Nat) (tt : Bool) (src : PV) : Nat → Nat → Loc → List PV → Store → Option (R (List PV))
  | 0, _, _, _, _ => .none
  | n + 1, i, ρ, acc, σ => onItem (itemAt σ tt src i) (some (.ok acc σ)) fun v => onLoc (takeVB ρ xs tt v) fun ρ => bnd (cond ρ σ) fun b σ =>
        if b = true then bnd (elt ρ σ) fun u σ => if acc.length < SZ then LCN cond elt xs tt src n (i + 1) ρ (acc ++ [u]) σ else .none
        else LCN cond elt xs tt src n (i + 1) ρ acc σ
noncomputable def LFN (body : Loc → Store → Option RS) (xs : List Nat) (tt : Bool) (src : PV) : Nat → Nat → Loc → Store → Option RS
  | 0, _, _, _ => .none
  | n + 1, i, ρ, σ => onItem (itemAt σ tt src i) (some (.nxt ρ σ)) fun v => onLoc (takeVB ρ xs tt v) fun ρ => nextOf (body ρ σ) (LFN body xs tt src n (i + 1))
noncomputable def LWN (t : Loc → Store → Option (R Bool)) (body : Loc → Store → Option RS) : Nat → Loc → Store → Option RS
  | 0, _, _ => .none
  | n + 1, ρ, σ => bndE ρ (t ρ σ) fun c σ => if c = true then nextOf (body ρ σ) (LWN t body n) else some (.nxt ρ σ)
noncomputable def LC (cond : Loc → Store → Option (R Bool)) (elt : Loc → Store → Option (R PV)) (xs : List Nat) (tt : Bool) (src : PV) (i : Nat) (ρ : Loc) (acc : List PV) (σ : Store) := lim fun n => LCN cond elt xs tt src n i ρ acc σ
noncomputable def LF (body : Loc → Store → Option RS) (xs : List Nat) (tt : Bool) (src : PV) (i : Nat) (ρ : Loc) (σ : Store) := lim fun n => LFN body xs tt src n i ρ σ
noncomputable def LW (t : Loc → Store → Option (R Bool)) (body : Loc → Store → Option RS) (ρ : Loc) (σ : Store) := lim fun n => LWN t body n ρ σ
noncomputable def kComp2 (l : List PV) (σ : Store) : Option (R PV) := some (.ok (.lst l) σ)
noncomputable def kComp (cond : Loc → Store → Option (R Bool)) (elt : Loc → Store → Option (R PV)) (xs : List Nat) (tt : Bool) (src : PV) (σ : Store) (o : Option Loc) : Option (R PV) := onLoc o fun ρ' => bnd (LC cond elt xs tt src 0 ρ' [] σ) kComp2
noncomputable def kHeard (i : Nat) (e : Loc → Store → Option (R PV)) (σ : Store) (o : Option Loc) : Option (R PV) := onLoc o fun ρ' => match σ[0]? with
  | some (PO.tab l) => if l.contains i = true then .none else heardOf sTold sLimit sTerm (e ρ' (σ.set 0 (.tab (i :: l))))
  | _ => .none

mutual
noncomputable def EV (Φ : Sig) : CE → Loc → Store → Option (R PV)
  | .loc x, ρ, σ => rok (lkB ρ x) σ
  | .glo x, _, σ => rok (Φ.glo x) σ
  | .cnone, _, σ => some (.ok .none σ)
  | .cbool b, _, σ => some (.ok (.bool b) σ)
  | .cint i, _, σ => some (.ok (.int i) σ)
  | .cstr s, _, σ => some (.ok (.str s) σ)
  | .neg a, ρ, σ => bnd (EV Φ a ρ σ) kNeg
  | .not a, ρ, σ => bnd (EV Φ a ρ σ) kNot
  | .bin op a b, ρ, σ => bnd (EV Φ a ρ σ) (kBin op (EV Φ b ρ))
  | .cmp op a b, ρ, σ => bnd (EV Φ a ρ σ) (kCmp op (EV Φ b ρ))
  | .cmpNil op a, ρ, σ => bnd (EV Φ a ρ σ) (kNil op)
  | .bop c l, ρ, σ => EB Φ l c ρ σ
  | .ite t b o, ρ, σ => bnd (ET Φ t ρ σ) (kIte (EV Φ b ρ) (EV Φ o ρ))
  | .tup l, ρ, σ => bnd (EVs Φ l ρ σ) kTup
  | .lst l, ρ, σ => kq Φ (bnd (EVs Φ l ρ σ) kLst)
  | .sub a b, ρ, σ => bnd (EV Φ a ρ σ) (kSub (EV Φ b ρ))
  | .slice a lo hi, ρ, σ => bnd (EV Φ a ρ σ) (kSl (EO Φ lo ρ) (EO Φ hi ρ))
  | .call f l, ρ, σ => kq Φ (kk (Φ.kn f) (bnd (EVs Φ l ρ σ) (Φ.fn f)))
  | .bi b l, ρ, σ => kqm Φ b (bnd (EVs Φ l ρ σ) (kBi b))
  | .meth o m l, ρ, σ => kq Φ (bnd (EV Φ o ρ σ) (kMeth Φ m (EVs Φ l ρ)))
  | .mdig o, ρ, σ => bnd (EV Φ o ρ σ) kDig
  | .mjoin o a, ρ, σ => bnd (EV Φ o ρ σ) (kJoin (EV Φ a ρ))
  | .mapp o a, ρ, σ => kq Φ (bnd (EV Φ o ρ σ) (kApp (EV Φ a ρ)))
  | .mpop o, ρ, σ => kq Φ (bnd (EV Φ o ρ σ) kPop)
  | .attr o a, ρ, σ => bnd (EV Φ o ρ σ) (kAttr a)
  | .fstr pre e, ρ, σ => bnd (EV Φ e ρ σ) (kFstr pre)
  | .fstrs e post, ρ, σ => bnd (EV Φ e ρ σ) (kFstrs post)
  | .comp elt xs tt fv it c, ρ, σ => kq Φ (bnd (EV Φ it ρ σ) fun src σ => kComp (condOf Φ c) (EV Φ elt) xs tt src σ (captureB ρ fv))
  | .heard i fv e, ρ, σ => kq Φ (kk Φ.top (kHeard i (EV Φ.low e) σ (captureB ρ fv)))
noncomputable def ET (Φ : Sig) : CE → Loc → Store → Option (R Bool)
  | .loc x, ρ, σ => bnd (rok (lkB ρ x) σ) kTruth
  | .not a, ρ, σ => bnd (ET Φ a ρ σ) kTNot
  | .cmp op a b, ρ, σ => bnd (bnd (EV Φ a ρ σ) (kCmp op (EV Φ b ρ))) kTruth
  | .cmpNil op a, ρ, σ => bnd (bnd (EV Φ a ρ σ) (kNil op)) kTruth
  | .bop c l, ρ, σ => ETs Φ l c ρ σ
  | .ite t b o, ρ, σ => bnd (ET Φ t ρ σ) (kIte (ET Φ b ρ) (ET Φ o ρ))
  | .call f l, ρ, σ => bnd (kq Φ (kk (Φ.kn f) (bnd (EVs Φ l ρ σ) (Φ.fn f)))) kTruth
  | .mdig o, ρ, σ => bnd (bnd (EV Φ o ρ σ) kDig) kTruth
  | _, _, _ => .none
noncomputable def ETs (Φ : Sig) : List CE → Bool → Loc → Store → Option (R Bool)
  | [], c, _, σ => some (.ok c σ)
  | x :: r, c, ρ, σ => bnd (ET Φ x ρ σ) (kTs c (ETs Φ r c ρ))
noncomputable def EB (Φ : Sig) : List CE → Bool → Loc → Store → Option (R PV)
  | [], _, _, _ => .none
  | x :: r, c, ρ, σ => match r with
    | [] => EV Φ x ρ σ
    | _ :: _ => bnd (EV Φ x ρ σ) (kB c (EB Φ r c ρ))
noncomputable def EVs (Φ : Sig) : List CE → Loc → Store → Option (R (List PV))
  | [], _, σ => some (.ok [] σ)
  | x :: r, ρ, σ => bnd (EV Φ x ρ σ) (kVs (EVs Φ r ρ))
noncomputable def EO (Φ : Sig) : Option CE → Loc → Store → Option (R (Option PV))
  | .none, _, σ => some (.ok .none σ)
  | some x, ρ, σ => bnd (EV Φ x ρ σ) kO
noncomputable def condOf (Φ : Sig) : Option CE → Loc → Store → Option (R Bool)
  | .none, _, σ => some (.ok true σ)
  | some x, ρ, σ => ET Φ x ρ σ
end
noncomputable def kAsg (ρ : Loc) (x : Nat) (v : PV) (σ : Store) : Option RS := some (.nxt (setLB ρ x v) σ)
noncomputable def kAsgT2 (σ : Store) (o : Option Loc) : Option RS := onLoc o fun ρ' => some (.nxt ρ' σ)
noncomputable def kAsgT (ρ : Loc) (xs : List Nat) (v : PV) (σ : Store) : Option RS := onTup v fun l => kAsgT2 σ (setLsB ρ xs l)
noncomputable def kSt (ρ : Loc) (o : Option Store) : Option RS := match o with
  | some σ => some (.nxt ρ σ)
  | .none => .none
noncomputable def kSeta2 (ρ : Loc) (a : Nat) (v : PV) (u : PV) (σ : Store) : Option RS := onRef u fun k => kSt ρ (setAtt σ k a v)
noncomputable def kSeta (ρ : Loc) (o : Store → Option (R PV)) (a : Nat) (v : PV) (σ : Store) : Option RS := bndE ρ (o σ) (kSeta2 ρ a v)
noncomputable def kSeti3 (ρ : Loc) (v u : PV) (j : PV) (σ : Store) : Option RS := onRef u fun k => onInt j fun j => kSt ρ (setLst σ k j v)
noncomputable def kSeti2 (ρ : Loc) (i : Store → Option (R PV)) (v : PV) (u : PV) (σ : Store) : Option RS := bndE ρ (i σ) (kSeti3 ρ v u)
noncomputable def kSeti (ρ : Loc) (o i : Store → Option (R PV)) (v : PV) (σ : Store) : Option RS := bndE ρ (o σ) (kSeti2 ρ i v)
noncomputable def kExp (ρ : Loc) (v : PV) (σ : Store) : Option RS := match v with
    | .none => some (.nxt ρ σ)
    | .str _ => some (.nxt ρ σ)
    | .int _ => some (.nxt ρ σ)
    | _ => .none
noncomputable def kRet (ρ : Loc) (v : PV) (σ : Store) : Option RS := some (.ret v ρ σ)
noncomputable def kIff (b o : Store → Option RS) (c : Bool) (σ : Store) : Option RS := match c with
  | true => b σ
  | false => o σ
noncomputable def kForr (ρ : Loc) (xs : List Nat) (tt : Bool) (b : Loc → Store → Option RS) (src : PV) (σ : Store) : Option RS := LF b xs tt src 0 ρ σ
noncomputable def kRais2 (ρ : Loc) (σ : Store) : Option PX → Option RS
    | some x => some (.exc x ρ σ)
    | .none => .none
noncomputable def kRais (Φ : Sig) (ρ : Loc) (c : Nat) (vs : List PV) (σ : Store) : Option RS := kRais2 ρ σ (Φ.exc c vs)
noncomputable def kTry2 (e : Int → Option (R PV)) : Option Int → Option RS
  | some i => caughtOf (e i)
  | .none => .none
noncomputable def kTry (Φ : Sig) (c y : Nat) (e : CE) (x : PX) (ρ : Loc) (σ : Store) : Option RS := match x.cls == c with
  | true => kTry2 (fun i => EV Φ.quiet e (setLB ρ y (.exn i)) σ) x.spot
  | false => .none
mutual
noncomputable def EX (Φ : Sig) : CS → Loc → Store → Option RS
  | .asg x e, ρ, σ => kq Φ (bndE ρ (EV Φ e ρ σ) (kAsg ρ x))
  | .asgT xs e, ρ, σ => kq Φ (bndE ρ (EV Φ e ρ σ) (kAsgT ρ xs))
  | .seta o a e, ρ, σ => kq Φ (bndE ρ (EV Φ e ρ σ) (kSeta ρ (EV Φ o ρ) a))
  | .seti o i e, ρ, σ => kq Φ (bndE ρ (EV Φ e ρ σ) (kSeti ρ (EV Φ o ρ) (EV Φ i ρ)))
  | .exp e, ρ, σ => kq Φ (bndE ρ (EV Φ e ρ σ) (kExp ρ))
  | .ret e, ρ, σ => bndE ρ (EV Φ e ρ σ) (kRet ρ)
  | .iff t b o, ρ, σ => bndE ρ (ET Φ t ρ σ) (kIff (EXs Φ b ρ) (EXs Φ o ρ))
  | .forr xs tt it b, ρ, σ => kq Φ (bndE ρ (EV Φ it ρ σ) (kForr ρ xs tt (EXs Φ b)))
  | .whil t b, ρ, σ => kq Φ (LW (ET Φ t) (EXs Φ b) ρ σ)
  | .rais c l, ρ, σ => kq Φ (kk (Φ.kx c) (bndE ρ (EVs Φ l ρ σ) (kRais Φ ρ c)))
  | .tryy b c y e, ρ, σ => kq Φ (kk (Φ.kx c) (excOf (EXs Φ b ρ σ) (kTry Φ c y e)))
noncomputable def EXs (Φ : Sig) : List CS → Loc → Store → Option RS
  | [], ρ, σ => some (.nxt ρ σ)
  | s :: r, ρ, σ => nextOf (EX Φ s ρ σ) (EXs Φ r)
end
end Mine
end
/-! L2b: what it gives is what the evaluator with fuel gives -/
section
set_option autoImplicit false
set_option linter.unusedVariables false
set_option linter.unusedSimpArgs false
namespace Mine
open PySem

section
variable {α β : Type}
theorem Ap.item {o : Option (Option PV)} {e : Option α} {f : Nat → PV → Option α} {g : PV → Option α} (b : ∀ v, Ap (fun n => f n v) (g v)) : Ap (fun n => onItem o e (f n)) (onItem o e g) := by
  rcases o with _ | _ | v
  · exact Ap.const _
  · exact Ap.const _
  · exact b v
theorem Ap.loc {o : Option Loc} {f : Nat → Loc → Option α} {g : Loc → Option α} (b : ∀ v, Ap (fun n => f n v) (g v)) : Ap (fun n => onLoc o (f n)) (onLoc o g) := by
  rcases o with _ | v
  · exact Ap.const _
  · exact b v
theorem Ap.q {Φ : Sig} {f : Nat → Option α} {x : Option α} (a : Ap f x) : Ap (fun n => if Φ.q = true then .none else f n) (kq Φ x) := by
  unfold kq
  cases Φ.q
  · exact a
  · exact Ap.const _
theorem Ap.q2 {Φ : Sig} {b : Bi} {f : Nat → Option α} {x : Option α} (a : Ap f x) : Ap (fun n => if Φ.q = true ∧ b = .max then .none else f n) (kqm Φ b x) := by
  have h : b ≠ .max → (fun n => if Φ.q = true ∧ b = .max then .none else f n) = f := fun h => funext fun n => if_neg fun z => h z.2
  cases b
  case max =>
    simp only [and_true]
    exact Ap.q a
  all_goals rw [h (by decide)]; exact a
theorem Ap.qk {Φ : Sig} {b : Bool} {f : Nat → Option α} {x : Option α} (a : Ap f x) : Ap (fun n => if Φ.q = true ∨ b = false then .none else f n) (kq Φ (kk b x)) := by
  unfold kq
  cases Φ.q
  · cases b
    · exact Ap.none _
    · simp only [Bool.false_eq_true, Bool.true_eq_false, or_self, if_false]; exact a
  · exact Ap.none _
end
section
variable {cond : Loc → Store → Option (R Bool)} {elt : Loc → Store → Option (R PV)} {body : Loc → Store → Option RS} {xs : List Nat} {tt : Bool} {src : PV}
theorem mo_c : ∀ (n i : Nat) (ρ : Loc) (acc : List PV) (σ : Store), Ap (fun _ => LCN cond elt xs tt src (n + 1) i ρ acc σ) (LCN cond elt xs tt src n i ρ acc σ) := by
  intro n
  induction n with
  | zero => exact fun _ _ _ _ => Ap.none _
  | succ n ih => exact fun i ρ acc σ => Ap.item fun v => Ap.loc fun ρ => Ap.bnd (Ap.const _) fun b σ => Ap.ite (Ap.bnd (Ap.const _) fun u σ => Ap.ite (ih ..) (Ap.const _)) (ih ..)
theorem mo_f : ∀ (n i : Nat) (ρ : Loc) (σ : Store), Ap (fun _ => LFN body xs tt src (n + 1) i ρ σ) (LFN body xs tt src n i ρ σ) := by
  intro n
  induction n with
  | zero => exact fun _ _ _ => Ap.none _
  | succ n ih => exact fun i ρ σ => Ap.item fun v => Ap.loc fun ρ => Ap.next (Ap.const _) fun ρ σ => ih ..
theorem mo_w : ∀ (n : Nat) (ρ : Loc) (σ : Store), Ap (fun _ => LWN cond body (n + 1) ρ σ) (LWN cond body n ρ σ) := by
  intro n
  induction n with
  | zero => exact fun _ _ => Ap.none _
  | succ n ih => exact fun ρ σ => Ap.bndE (Ap.const _) fun c σ => Ap.ite (Ap.next (Ap.const _) fun ρ σ => ih ..) (Ap.const _)
theorem Mo.of {α : Type} {f : Nat → Option α} (h : ∀ n, Ap (fun _ => f (n + 1)) (f n)) : Mo f := ⟨fun n r e => by
  obtain ⟨m, hm⟩ := (h n).imp r e
  exact hm m (Nat.le_refl _)⟩
theorem Mo.up {α : Type} {f : Nat → Option α} (h : Mo f) (n : Nat) : Ap (fun _ => lim f) (f n) := ⟨fun r e => ⟨0, fun _ _ => (h.is r).mpr ⟨n, e⟩⟩⟩
theorem Mo.eq' {α : Type} {f : Nat → Option α} (h : Mo f) {x : Option α} (a : Ap (fun n => f (n + 1)) x) (b : ∀ n, Ap (fun _ => x) (f (n + 1))) : lim f = x := by
  refine h.eq a.shift fun n r e => ?_
  obtain ⟨m, hm⟩ := (b n).imp r (h.mo _ _ e)
  exact hm m (Nat.le_refl _)
theorem LC_eq {i : Nat} {ρ : Loc} {acc : List PV} {σ : Store} : LC cond elt xs tt src i ρ acc σ = onItem (itemAt σ tt src i) (some (.ok acc σ)) fun v => onLoc (takeVB ρ xs tt v) fun ρ => bnd (cond ρ σ) fun b σ =>
        if b = true then bnd (elt ρ σ) fun u σ => if acc.length < SZ then LC cond elt xs tt src (i + 1) ρ (acc ++ [u]) σ else .none
        else LC cond elt xs tt src (i + 1) ρ acc σ :=
  (Mo.of fun n => mo_c n i ρ acc σ).eq' (Ap.item fun v => Ap.loc fun ρ => Ap.bnd (Ap.const _) fun b σ => Ap.ite (Ap.bnd (Ap.const _) fun u σ => Ap.ite (Mo.of fun n => mo_c n ..).ap (Ap.const _)) (Mo.of fun n => mo_c n ..).ap)
    fun n => Ap.item fun v => Ap.loc fun ρ => Ap.bnd (Ap.const _) fun b σ => Ap.ite (Ap.bnd (Ap.const _) fun u σ => Ap.ite ((Mo.of fun n => mo_c n ..).up n) (Ap.const _)) ((Mo.of fun n => mo_c n ..).up n)
theorem LF_eq {i : Nat} {ρ : Loc} {σ : Store} : LF body xs tt src i ρ σ = onItem (itemAt σ tt src i) (some (.nxt ρ σ)) fun v => onLoc (takeVB ρ xs tt v) fun ρ => nextOf (body ρ σ) (LF body xs tt src (i + 1)) :=
  (Mo.of fun n => mo_f n i ρ σ).eq' (Ap.item fun v => Ap.loc fun ρ => Ap.next (Ap.const _) fun ρ σ => (Mo.of fun n => mo_f n ..).ap)
    fun n => Ap.item fun v => Ap.loc fun ρ => Ap.next (Ap.const _) fun ρ σ => (Mo.of fun n => mo_f n ..).up n
theorem LW_eq {ρ : Loc} {σ : Store} : LW cond body ρ σ = bndE ρ (cond ρ σ) fun c σ => if c = true then nextOf (body ρ σ) (LW cond body) else some (.nxt ρ σ) :=
  (Mo.of fun n => mo_w n ρ σ).eq' (Ap.bndE (Ap.const _) fun c σ => Ap.ite (Ap.next (Ap.const _) fun ρ σ => (Mo.of fun n => mo_w n ..).ap) (Ap.const _))
    fun n => Ap.bndE (Ap.const _) fun c σ => Ap.ite (Ap.next (Ap.const _) fun ρ σ => (Mo.of fun n => mo_w n ..).up n) (Ap.const _)
theorem Mo.thru {α : Type} {f g : Nat → Option α} (h : Mo f) (b : ∀ n, Ap g (f n)) : Ap g (lim f) := ⟨fun r e => by
  obtain ⟨n, hn⟩ := (h.is r).mp e
  exact (b n).imp r hn⟩
end

structure AV (e : CE) : Prop where
  v : ∀ Φ ρ σ, Ap (fun n => ev Φ n e ρ σ) (EV Φ e ρ σ)
  t : ∀ Φ ρ σ, Ap (fun n => evT Φ n e ρ σ) (ET Φ e ρ σ)
structure AVs (l : List CE) : Prop where
  s : ∀ Φ ρ σ, Ap (fun n => evs Φ n l ρ σ) (EVs Φ l ρ σ)
  b : ∀ Φ c ρ σ, Ap (fun n => evB Φ n c l ρ σ) (EB Φ l c ρ σ)
  t : ∀ Φ c ρ σ, Ap (fun n => evTs Φ n c l ρ σ) (ETs Φ l c ρ σ)
structure AO (q : Option CE) : Prop where
  o : ∀ Φ ρ σ, Ap (fun n => evO Φ n q ρ σ) (EO Φ q ρ σ)
  c : ∀ Φ ρ σ, Ap (fun n => match q with
          | .none => some (.ok true σ)
          | some c => evT Φ n c ρ σ) (condOf Φ q ρ σ)
theorem AV.no {e : CE} (v : ∀ Φ ρ σ, Ap (fun n => ev Φ n e ρ σ) (EV Φ e ρ σ)) (h : ∀ Φ ρ σ, ET Φ e ρ σ = .none) : AV e := ⟨v, fun Φ ρ σ => by rw [h]; exact Ap.none _⟩
theorem ap_c {Φ : Sig} {elt : CE} {c : Option CE} (he : AV elt) (hc : AO c) {xs : List Nat} {tt : Bool} {src : PV} : ∀ (N i : Nat) (ρ : Loc) (acc : List PV) (σ : Store), Ap (fun n => evC Φ n elt xs tt c src i ρ acc σ) (LCN (condOf Φ c) (EV Φ elt) xs tt src N i ρ acc σ) := by
  intro N
  induction N with
  | zero => exact fun _ _ _ _ => Ap.none _
  | succ N ih =>
    refine fun i ρ acc σ => Ap.shift ?_
    simp only [evC, LCN, takeVB_eq]
    rcases itemAt σ tt src i with _ | _ | v <;> try exact Ap.const _
    dsimp only [onItem]
    rcases takeVB ρ xs tt v with _ | ρ <;> try exact Ap.const _
    exact Ap.bnd (hc.c Φ ρ σ) fun b σ => Ap.ite (Ap.bnd (he.v Φ ρ σ) fun u σ => Ap.ite (ih ..) (Ap.const _)) (ih ..)
theorem avs_nil : AVs [] := ⟨fun Φ ρ σ => Ap.shift (Ap.const _), fun Φ c ρ σ => Ap.none _, fun Φ c ρ σ => Ap.shift (Ap.const _)⟩
theorem avs_cons {x : CE} {r : List CE} (hx : AV x) (hr : AVs r) : AVs (x :: r) := by
  refine ⟨fun Φ ρ σ => Ap.shift (Ap.bnd (hx.v ..) fun _ _ => Ap.bnd (hr.s ..) fun _ _ => Ap.const _), fun Φ c ρ σ => Ap.shift ?_, fun Φ c ρ σ => Ap.shift (Ap.bnd (hx.t ..) fun b _ => ?_)⟩
  · cases r with
    | nil => exact hx.v ..
    | cons y r =>
      refine Ap.bnd (hx.v ..) fun v σ' => ?_
      unfold kB
      rcases truth v with _ | b
      · exact Ap.none _
      · cases b <;> cases c <;> first | exact hr.b .. | exact Ap.const _
  · cases b <;> cases c <;> first | exact hr.t .. | exact Ap.const _
theorem av : ∀ e, AV e := by
  refine fun e => CE.rec (motive_1 := AV) (motive_2 := AVs) (motive_3 := AO) ?_ ?_ ?_ ?_ ?_ ?_ ?_ ?_ ?_ ?_ ?_ ?_ ?_ ?_ ?_ ?_ ?_ ?_ ?_ ?_ ?_ ?_ ?_ ?_ ?_ ?_ ?_ ?_ ?_ ?_ ?_ ?_ ?_ e
  · have v : ∀ x Φ ρ σ, Ap (fun n => ev Φ n (.loc x) ρ σ) (EV Φ (.loc x) ρ σ) := fun x Φ ρ σ => Ap.shift (by show Ap (fun _ => rok (lk ρ x) σ) (rok (lkB ρ x) σ); rw [lkB_eq]; exact Ap.const _)
    exact fun x => ⟨v x, fun Φ ρ σ => Ap.shift (Ap.bnd (v x Φ ρ σ) fun _ _ => Ap.const _)⟩
  · exact fun x => .no (fun Φ ρ σ => Ap.shift (Ap.const _)) fun _ _ _ => rfl
  · exact .no (fun Φ ρ σ => Ap.shift (Ap.const _)) fun _ _ _ => rfl
  · exact fun x => .no (fun Φ ρ σ => Ap.shift (Ap.const _)) fun _ _ _ => rfl
  · exact fun x => .no (fun Φ ρ σ => Ap.shift (Ap.const _)) fun _ _ _ => rfl
  · exact fun x => .no (fun Φ ρ σ => Ap.shift (Ap.const _)) fun _ _ _ => rfl
  · exact fun a ha => .no (fun Φ ρ σ => Ap.shift (Ap.bnd (ha.v ..) fun _ _ => Ap.const _)) fun _ _ _ => rfl
  · exact fun a ha => ⟨fun Φ ρ σ => Ap.shift (Ap.bnd (ha.v ..) fun _ _ => Ap.const _), fun Φ ρ σ => Ap.shift (Ap.bnd (ha.t ..) fun _ _ => Ap.const _)⟩
  · exact fun op a b ha hb => .no (fun Φ ρ σ => Ap.shift (Ap.bnd (ha.v ..) fun _ _ => Ap.bnd (hb.v ..) fun _ _ => Ap.const _)) fun _ _ _ => rfl
  · have v : ∀ op a b, AV a → AV b → ∀ Φ ρ σ, Ap (fun n => ev Φ n (.cmp op a b) ρ σ) (EV Φ (.cmp op a b) ρ σ) := fun op a b ha hb Φ ρ σ => Ap.shift (Ap.bnd (ha.v ..) fun _ _ => Ap.bnd (hb.v ..) fun _ _ => Ap.const _)
    exact fun op a b ha hb => ⟨v op a b ha hb, fun Φ ρ σ => Ap.shift (Ap.bnd (v op a b ha hb Φ ρ σ) fun _ _ => Ap.const _)⟩
  · have v : ∀ op a, AV a → ∀ Φ ρ σ, Ap (fun n => ev Φ n (.cmpNil op a) ρ σ) (EV Φ (.cmpNil op a) ρ σ) := fun op a ha Φ ρ σ => Ap.shift (Ap.bnd (ha.v ..) fun _ _ => Ap.const _)
    exact fun op a ha => ⟨v op a ha, fun Φ ρ σ => Ap.shift (Ap.bnd (v op a ha Φ ρ σ) fun _ _ => Ap.const _)⟩
  · exact fun c l hl => ⟨fun Φ ρ σ => Ap.shift (hl.b ..), fun Φ ρ σ => Ap.shift (hl.t ..)⟩
  · exact fun t b o ht hb ho => ⟨fun Φ ρ σ => Ap.shift (Ap.bnd (ht.t ..) fun c _ => by cases c; exact ho.v ..; exact hb.v ..), fun Φ ρ σ => Ap.shift (Ap.bnd (ht.t ..) fun c _ => by cases c; exact ho.t ..; exact hb.t ..)⟩
  · exact fun l hl => .no (fun Φ ρ σ => Ap.shift (Ap.bnd (hl.s ..) fun _ _ => Ap.const _)) fun _ _ _ => rfl
  · exact fun l hl => .no (fun Φ ρ σ => Ap.shift (Ap.q (Ap.bnd (hl.s ..) fun _ _ => Ap.const _))) fun _ _ _ => rfl
  · exact fun a b ha hb => .no (fun Φ ρ σ => Ap.shift (Ap.bnd (ha.v ..) fun _ _ => Ap.bnd (hb.v ..) fun _ _ => Ap.const _)) fun _ _ _ => rfl
  · exact fun a lo hi ha hl hh => .no (fun Φ ρ σ => Ap.shift (Ap.bnd (ha.v ..) fun _ _ => Ap.bnd (hl.o ..) fun _ _ => Ap.bnd (hh.o ..) fun _ _ => Ap.const _)) fun _ _ _ => rfl
  · have v : ∀ f l, AVs l → ∀ Φ ρ σ, Ap (fun n => ev Φ n (.call f l) ρ σ) (EV Φ (.call f l) ρ σ) := fun f l hl Φ ρ σ => Ap.shift (Ap.qk (Ap.bnd (hl.s ..) fun _ _ => Ap.const _))
    exact fun f l hl => ⟨v f l hl, fun Φ ρ σ => Ap.shift (Ap.bnd (v f l hl Φ ρ σ) fun _ _ => Ap.const _)⟩
  · exact fun b l hl => .no (fun Φ ρ σ => Ap.shift (Ap.q2 (Ap.bnd (hl.s ..) fun _ _ => Ap.const _))) fun _ _ _ => rfl
  · refine fun o m l ho hl => .no (fun Φ ρ σ => Ap.shift (Ap.q (Ap.bnd (ho.v ..) fun v σ' => ?_))) fun _ _ _ => rfl
    cases v <;> try exact Ap.none _
    rename_i k
    dsimp only [kMeth, onRef]
    rcases σ'[k]? with _ | _ | ⟨c, a⟩ | _ <;> try exact Ap.none _
    simp only [atO, lkB_eq]
    rcases lkB a m with _ | _
    · cases Φ.km c m
      · exact Ap.none _
      · exact Ap.bnd (hl.s ..) fun _ _ => Ap.const _
    · exact Ap.none _
  · have v : ∀ a, AV a → ∀ Φ ρ σ, Ap (fun n => ev Φ n (.mdig a) ρ σ) (EV Φ (.mdig a) ρ σ) := fun a ha Φ ρ σ => Ap.shift (Ap.bnd (ha.v ..) fun v _ => by cases v <;> exact Ap.const _)
    exact fun a ha => ⟨v a ha, fun Φ ρ σ => Ap.shift (Ap.bnd (v a ha Φ ρ σ) fun _ _ => Ap.const _)⟩
  · refine fun o a ho ha => .no (fun Φ ρ σ => Ap.shift (Ap.bnd (ho.v ..) fun v σ' => ?_)) fun _ _ _ => rfl
    cases v <;> try exact Ap.none _
    rename_i l
    cases l
    · exact Ap.bnd (ha.v ..) fun v _ => by cases v <;> exact Ap.const _
    · exact Ap.none _
  · refine fun o a ho ha => .no (fun Φ ρ σ => Ap.shift (Ap.q (Ap.bnd (ho.v ..) fun v σ' => ?_))) fun _ _ _ => rfl
    cases v <;> try exact Ap.none _
    rename_i k
    dsimp only [kApp, onRef]
    rcases σ'[k]? with _ | _ | _ | _ <;> try exact Ap.none _
    refine Ap.bnd (ha.v ..) fun v σ' => ?_
    dsimp only [kApp2]
    rcases σ'[k]? with _ | _ | _ | _ <;> exact Ap.const _
  · refine fun o ho => .no (fun Φ ρ σ => Ap.shift (Ap.q (Ap.bnd (ho.v ..) fun v σ' => ?_))) fun _ _ _ => rfl
    cases v <;> try exact Ap.none _
    rename_i k
    dsimp only [kPop, onRef]
    rcases σ'[k]? with _ | l | _ | _ <;> try exact Ap.none _
    dsimp only [atL]
    rcases l.getLast? with _ | _ <;> exact Ap.const _
  · exact fun o a ho => .no (fun Φ ρ σ => Ap.shift (Ap.bnd (ho.v ..) fun _ _ => Ap.const _)) fun _ _ _ => rfl
  · exact fun p e he => .no (fun Φ ρ σ => Ap.shift (Ap.bnd (he.v ..) fun v _ => by cases v <;> exact Ap.const _)) fun _ _ _ => rfl
  · exact fun e p he => .no (fun Φ ρ σ => Ap.shift (Ap.bnd (he.v ..) fun v _ => by cases v <;> exact Ap.const _)) fun _ _ _ => rfl
  · refine fun elt xs tt fv it c he hi hc => .no (fun Φ ρ σ => Ap.shift (Ap.q (Ap.bnd (hi.v ..) fun v σ' => ?_))) fun _ _ _ => rfl
    rw [captureB_eq]
    rcases captureB ρ fv with _ | ρ' <;> try exact Ap.none _
    exact Ap.bnd ((Mo.of fun n => mo_c n ..).thru fun N => ap_c he hc N ..) fun _ _ => Ap.const _
  · refine fun i fv e he => .no (fun Φ ρ σ => Ap.shift (Ap.qk ?_)) fun _ _ _ => rfl
    rw [captureB_eq]
    rcases captureB ρ fv with _ | ρ' <;> try exact Ap.none _
    dsimp only [kHeard, onLoc]
    rcases σ[0]? with _ | _ | _ | l <;> try exact Ap.none _
    exact Ap.ite (Ap.const _) (Ap.thru (heardOf sTold sLimit sTerm) rfl (he.v ..))
  · exact avs_nil
  · exact fun x r hx hr => avs_cons hx hr
  · exact ⟨fun Φ ρ σ => Ap.shift (Ap.const _), fun Φ ρ σ => Ap.const _⟩
  · exact fun x hx => ⟨fun Φ ρ σ => Ap.shift (Ap.bnd (hx.v ..) fun _ _ => Ap.const _), fun Φ ρ σ => hx.t ..⟩
theorem avs (l : List CE) : AVs l := by
  induction l with
  | nil => exact avs_nil
  | cons x r hr => exact avs_cons (av x) hr
structure AX (e : CS) : Prop where
  x : ∀ Φ ρ σ, Ap (fun n => ex Φ n e ρ σ) (EX Φ e ρ σ)
structure AXs (l : List CS) : Prop where
  x : ∀ Φ ρ σ, Ap (fun n => exs Φ n l ρ σ) (EXs Φ l ρ σ)
theorem ap_f {Φ : Sig} {b : List CS} (hb : AXs b) {xs : List Nat} {tt : Bool} {src : PV} : ∀ (N i : Nat) (ρ : Loc) (σ : Store), Ap (fun n => exF Φ n xs tt src i b ρ σ) (LFN (EXs Φ b) xs tt src N i ρ σ) := by
  intro N
  induction N with
  | zero => exact fun _ _ _ => Ap.none _
  | succ N ih =>
    refine fun i ρ σ => Ap.shift ?_
    simp only [exF, LFN, takeVB_eq]
    rcases itemAt σ tt src i with _ | _ | v <;> try exact Ap.const _
    dsimp only [onItem]
    rcases takeVB ρ xs tt v with _ | ρ <;> try exact Ap.const _
    exact Ap.next (hb.x Φ ρ σ) fun ρ σ => ih ..
theorem ap_w {Φ : Sig} {t : CE} {b : List CS} (hb : AXs b) : ∀ (N : Nat) (ρ : Loc) (σ : Store), Ap (fun n => exW Φ n t b ρ σ) (LWN (ET Φ t) (EXs Φ b) N ρ σ) := by
  intro N
  induction N with
  | zero => exact fun _ _ => Ap.none _
  | succ N ih => exact fun ρ σ => Ap.shift (Ap.bndE ((av t).t ..) fun c σ => Ap.ite (Ap.next (hb.x ..) fun ρ σ => ih ..) (Ap.const _))
theorem axs : ∀ l, AXs l := by
  refine fun l => CS.rec_1 (motive_1 := AX) (motive_2 := AXs) ?_ ?_ ?_ ?_ ?_ ?_ ?_ ?_ ?_ ?_ ?_ ?_ ?_ l
  · exact fun x e => ⟨fun Φ ρ σ => Ap.shift (Ap.q (Ap.bndE ((av e).v ..) fun v σ => by rw [setLB_eq]; exact Ap.const _))⟩
  · exact fun xs e => ⟨fun Φ ρ σ => Ap.shift (Ap.q (Ap.bndE ((av e).v ..) fun v σ => by
      cases v <;> try exact Ap.none _
      rename_i l
      dsimp only [kAsgT, onTup]
      rw [setLsB_eq]
      rcases setLsB ρ xs l with _ | _ <;> exact Ap.const _))⟩
  · exact fun o a e => ⟨fun Φ ρ σ => Ap.shift (Ap.q (Ap.bndE ((av e).v ..) fun v σ => Ap.bndE ((av o).v ..) fun u σ => by
      cases u <;> try exact Ap.none _
      rename_i k
      dsimp only [kSeta2, onRef]
      rcases setAtt σ k a v with _ | _ <;> exact Ap.const _))⟩
  · exact fun o i e => ⟨fun Φ ρ σ => Ap.shift (Ap.q (Ap.bndE ((av e).v ..) fun v σ => Ap.bndE ((av o).v ..) fun u σ => Ap.bndE ((av i).v ..) fun j σ => by
      cases u <;> try exact Ap.none _
      rename_i k
      cases j <;> try exact Ap.none _
      rename_i j
      dsimp only [kSeti3, onRef, onInt]
      rcases setLst σ k j v with _ | _ <;> exact Ap.const _))⟩
  · exact fun e => ⟨fun Φ ρ σ => Ap.shift (Ap.q (Ap.bndE ((av e).v ..) fun v σ => Ap.const _))⟩
  · exact fun e => ⟨fun Φ ρ σ => Ap.shift (Ap.bndE ((av e).v ..) fun v σ => Ap.const _)⟩
  · exact fun t b o hb ho => ⟨fun Φ ρ σ => Ap.shift (Ap.bndE ((av t).t ..) fun c _ => by cases c; exact ho.x ..; exact hb.x ..)⟩
  · exact fun xs tt it b hb => ⟨fun Φ ρ σ => Ap.shift (Ap.q (Ap.bndE ((av it).v ..) fun v σ => (Mo.of fun n => mo_f n ..).thru fun N => ap_f hb N ..))⟩
  · exact fun t b hb => ⟨fun Φ ρ σ => Ap.shift (Ap.q ((Mo.of fun n => mo_w n ..).thru fun N => ap_w hb N ..))⟩
  · exact fun c l => ⟨fun Φ ρ σ => Ap.shift (Ap.qk (Ap.bndE ((avs l).s ..) fun v σ => by
      unfold kRais
      rcases Φ.exc c v with _ | _ <;> exact Ap.const _))⟩
  · refine fun b c y e hb => ⟨fun Φ ρ σ => Ap.shift (Ap.qk (Ap.exc (hb.x ..) fun x ρ σ => ?_))⟩
    unfold kTry
    by_cases h : x.cls = c
    · rw [beq_iff_eq.mpr h]
      simp only [if_pos h]
      rcases x.spot with _ | i
      · exact Ap.none _
      · show Ap (fun n => caughtOf (ev Φ.quiet n e (setL ρ y (.exn i)) σ)) (caughtOf (EV Φ.quiet e (setLB ρ y (.exn i)) σ))
        rw [setLB_eq]
        exact Ap.thru caughtOf rfl ((av e).v ..)
    · rw [beq_false_of_ne h]
      simp only [if_neg h]
      exact Ap.const _
  · exact ⟨fun Φ ρ σ => Ap.shift (Ap.const _)⟩
  · exact fun s r hs hr => ⟨fun Φ ρ σ => Ap.shift (Ap.next (hs.x ..) fun _ _ => hr.x ..)⟩
theorem EXs_some {Φ : Sig} {ρ : Loc} {σ : Store} {e : List CS} {r : RS} (h : EXs Φ e ρ σ = some r) : ∃ n, exs Φ n e ρ σ = some r := by
  obtain ⟨n, hn⟩ := ((axs e).x Φ ρ σ).imp r h
  exact ⟨n, hn n (Nat.le_refl _)⟩
end Mine
end
/-! P1: the program's functions as little terms (printed by gen.py) -/
section
set_option autoImplicit false
set_option maxRecDepth 100000
namespace Mine
open PySem
noncomputable def nmTbl : List Str := [("spot" : Str), ("text" : Str), ("around" : Str), ("LimitFault" : Str), ("TermFault" : Str), ("TextFault" : Str), ("NameReader" : Str), ("__init__" : Str), ("self" : Str), ("what" : Str), ("told" : Str), ("signs" : Str), ("is_row_of" : Str), ("sign" : Str), ("begin" : Str), ("figures_behind" : Str), ("rest" : Str), ("FIGURES" : Str), ("figures" : Str), ("number_by" : Str), ("t" : Str), ("index_of" : Str), ("index" : Str), ("variable" : Str), ("MOST_INDEX" : Str), ("below" : Str), ("by" : Str), ("moved_within" : Str), ("part" : Str), ("shifted" : Str), ("depth" : Str), ("is_closed_below" : Str), ("is_closed" : Str), ("want" : Str), ("name" : Str), ("LETTERS" : Str), ("leaf" : Str), ("term" : Str), ("found" : Str), ("left" : Str), ("of_names" : Str), ("reader" : Str), ("MOST_DEPTH" : Str), ("feed" : Str), ("many" : Str), ("_law_dip" : Str), ("_law_figures" : Str), ("wide" : Str), ("_law_widths" : Str), ("ahead" : Str), ("deep" : Str), ("leaves" : Str), ("_law_term" : Str), ("way" : Str), ("_law_heard" : Str), ("ask" : Str), ("rows" : Str), ("_law_late" : Str), ("late" : Str), ("numbers" : Str), ("_law_indexed" : Str), ("kid" : Str), ("_law_is_read" : Str), ("k" : Str), ("fault" : Str), ("due" : Str), ("script" : Str), ("law" : Str), ("word" : Str), ("is_long" : Str), ("row" : Str)]
noncomputable def nmOf (i : Nat) : Str := match nmTbl[i]? with
  | some s => s
  | none => ⟨Array.replicate (i + 1) 33⟩
noncomputable def f_is_row_of : List Nat × List CS := ([1, 11],
  [.ret (.bop true [(.cmp .NotEq (.loc 1) (.cstr [])), (.cmpNil .Eq (.comp (.loc 13) [13] false [11] (.loc 1) (some (.cmp .NotIn (.loc 13) (.loc 11)))))])])
noncomputable def f_figures_behind : List Nat × List CS := ([1, 14],
  [.asg 16 (.slice (.loc 1) (some (.bi .len [(.loc 14)])) .none), .iff (.bop false [(.cmp .NotEq (.slice (.loc 1) .none (some (.bi .len [(.loc 14)]))) (.loc 14)), (.not (.call 12 [(.loc 16), (.glo 17)])), (.bop true [(.cmp .Eq (.sub (.loc 16) (.cint 0)) (.cstr [48])), (.cmp .NotEq (.loc 16) (.cstr [48]))])]) [.ret (.cstr [])] [], .ret (.loc 16)])
noncomputable def f_number_by : List Nat × List CS := ([18],
  [.iff (.cmp .Gt (.bi .len [(.loc 18)]) (.cint 9)) [.rais 3 [(.cstr [97, 110, 32, 105, 110, 100, 101, 120, 32, 104, 97, 115, 32, 97, 116, 32, 109, 111, 115, 116, 32, 110, 105, 110, 101, 32, 102, 105, 103, 117, 114, 101, 115])]] [], .ret (.bi .int [(.loc 18)])])
noncomputable def f_index_of : List Nat × List CS := ([20],
  [.asg 18 (.ite (.cmp .Eq (.bi .len [(.loc 20)]) (.cint 1)) (.call 15 [(.sub (.loc 20) (.cint 0)), (.cstr [118, 97, 114])]) (.cstr [])), .ret (.ite (.cmp .Eq (.loc 18) (.cstr [])) (.neg (.cint 1)) (.call 19 [(.loc 18)]))])
noncomputable def f_variable : List Nat × List CS := ([22],
  [.iff (.cmp .Lt (.loc 22) (.cint 0)) [.rais 4 [(.cstr [97, 32, 118, 97, 114, 105, 97, 98, 108, 101, 32, 104, 97, 115, 32, 110, 111, 32, 105, 110, 100, 101, 120, 32, 98, 101, 108, 111, 119, 32, 48])]] [], .iff (.cmp .Gt (.loc 22) (.glo 24)) [.rais 3 [(.cstr [97, 110, 32, 105, 110, 100, 101, 120, 32, 104, 97, 115, 32, 97, 116, 32, 109, 111, 115, 116, 32, 110, 105, 110, 101, 32, 102, 105, 103, 117, 114, 101, 115])]] [], .ret (.tup [(.fstr [118, 97, 114] (.loc 22))])])
noncomputable def f_below : List Nat × List CS := ([20],
  [.ret (.ite (.bop true [(.cmp .Eq (.sub (.loc 20) (.cint 0)) (.cstr [108, 97, 109])), (.cmp .Eq (.bi .len [(.loc 20)]) (.cint 2))]) (.cint 1) (.cint 0))])
noncomputable def f_moved_within : List Nat × List CS := ([20, 26, 14, 2],
  [.asg 22 (.call 21 [(.loc 20)]), .iff (.cmp .GtE (.loc 22) (.bi .max [(.bin .Add (.loc 14) (.loc 2)), (.cint 0)])) [.iff (.cmp .Lt (.bin .Add (.loc 22) (.loc 26)) (.loc 2)) [.rais 4 [(.cstr [97, 32, 118, 97, 114, 105, 97, 98, 108, 101, 32, 104, 97, 115, 32, 110, 111, 32, 105, 110, 100, 101, 120, 32, 98, 101, 108, 111, 119, 32, 48])]] [], .ret (.call 23 [(.bin .Add (.loc 22) (.loc 26))])] [], .ret (.bin .Add (.tup [(.sub (.loc 20) (.cint 0))]) (.bi .tuple [(.comp (.call 27 [(.loc 28), (.loc 26), (.loc 14), (.bin .Add (.loc 2) (.call 25 [(.loc 20)]))]) [28] false [26, 14, 2, 20] (.slice (.loc 20) (some (.cint 1)) .none) .none)]))])
noncomputable def f_shifted : List Nat × List CS := ([20, 26, 14],
  [.ret (.call 27 [(.loc 20), (.loc 26), (.loc 14), (.cint 0)])])
noncomputable def f_is_closed_below : List Nat × List CS := ([20, 30],
  [.asg 22 (.call 21 [(.loc 20)]), .iff (.cmp .GtE (.loc 22) (.cint 0)) [.ret (.cmp .Lt (.loc 22) (.loc 30))] [], .ret (.cmpNil .Eq (.comp (.loc 28) [28] false [30, 20] (.slice (.loc 20) (some (.cint 1)) .none) (some (.not (.call 31 [(.loc 28), (.bin .Add (.loc 30) (.call 25 [(.loc 20)]))])))))])
noncomputable def f_is_closed : List Nat × List CS := ([20],
  [.ret (.call 31 [(.loc 20), (.cint 0)])])
noncomputable def r_init : List Nat × List CS := ([8, 1],
  [.seta (.loc 8) 1 (.loc 1), .seta (.loc 8) 0 (.cint 0), .seta (.loc 8) 2 (.lst [])])
noncomputable def r_sign : List Nat × List CS := ([8],
  [.whil (.cmp .Eq (.slice (.attr (.loc 8) 1) (some (.attr (.loc 8) 0)) (some (.bin .Add (.attr (.loc 8) 0) (.cint 1)))) (.cstr [32])) [.seta (.loc 8) 0 (.bin .Add (.attr (.loc 8) 0) (.cint 1))], .ret (.slice (.attr (.loc 8) 1) (some (.attr (.loc 8) 0)) (some (.bin .Add (.attr (.loc 8) 0) (.cint 1))))])
noncomputable def r_want : List Nat × List CS := ([8, 13],
  [.iff (.cmp .NotEq (.meth (.loc 8) 13 []) (.loc 13)) [.rais 5 [(.fstrs (.loc 13) [32, 105, 115, 32, 119, 97, 110, 116, 101, 100]), (.attr (.loc 8) 0)]] [], .seta (.loc 8) 0 (.bin .Add (.attr (.loc 8) 0) (.cint 1))])
noncomputable def r_name : List Nat × List CS := ([8],
  [.exp (.meth (.loc 8) 13 []), .asg 14 (.attr (.loc 8) 0), .whil (.bop true [(.cmp .Lt (.attr (.loc 8) 0) (.bi .len [(.attr (.loc 8) 1)])), (.cmp .In (.sub (.attr (.loc 8) 1) (.attr (.loc 8) 0)) (.bin .Add (.glo 35) (.glo 17)))]) [.seta (.loc 8) 0 (.bin .Add (.attr (.loc 8) 0) (.cint 1))], .iff (.cmp .Eq (.attr (.loc 8) 0) (.loc 14)) [.rais 5 [(.cstr [97, 32, 110, 97, 109, 101, 32, 105, 115, 32, 119, 97, 110, 116, 101, 100]), (.loc 14)]] [], .ret (.slice (.attr (.loc 8) 1) (some (.loc 14)) (some (.attr (.loc 8) 0)))])
noncomputable def r_leaf : List Nat × List CS := ([8],
  [.asg 34 (.meth (.loc 8) 34 []), .forr [22] false (.bi .range [(.bi .len [(.attr (.loc 8) 2)])]) [.iff (.cmp .Eq (.sub (.attr (.loc 8) 2) (.bin .Sub (.bin .Sub (.bi .len [(.attr (.loc 8) 2)]) (.cint 1)) (.loc 22))) (.loc 34)) [.ret (.call 23 [(.loc 22)])] []], .iff (.cmp .NotEq (.call 15 [(.loc 34), (.cstr [118, 97, 114])]) (.cstr [])) [.rais 5 [(.cstr [97, 32, 108, 101, 97, 102, 32, 105, 115, 32, 99, 97, 108, 108, 101, 100, 32, 108, 105, 107, 101, 32, 97, 32, 118, 97, 114, 105, 97, 98, 108, 101]), (.bin .Sub (.attr (.loc 8) 0) (.bi .len [(.loc 34)]))]] [], .asg 18 (.call 15 [(.loc 34), (.cstr [121])]), .iff (.bop false [(.cmp .Gt (.bi .len [(.loc 18)]) (.cint 9)), (.bop true [(.cmp .NotEq (.loc 18) (.cstr [])), (.cmp .Gt (.bin .Add (.call 19 [(.loc 18)]) (.bi .len [(.attr (.loc 8) 2)])) (.glo 24))])]) [.rais 5 [(.cstr [97, 110, 32, 105, 110, 100, 101, 120, 32, 104, 97, 115, 32, 97, 116, 32, 109, 111, 115, 116, 32, 110, 105, 110, 101, 32, 102, 105, 103, 117, 114, 101, 115]), (.bin .Sub (.attr (.loc 8) 0) (.bi .len [(.loc 34)]))]] [], .ret (.ite (.cmp .Eq (.loc 18) (.cstr [])) (.tup [(.loc 34)]) (.call 23 [(.bin .Add (.call 19 [(.loc 18)]) (.bi .len [(.attr (.loc 8) 2)]))]))])
noncomputable def r_term : List Nat × List CS := ([8, 30],
  [.iff (.cmp .Eq (.loc 30) (.cint 0)) [.rais 5 [(.cstr [116, 111, 111, 32, 100, 101, 101, 112]), (.attr (.loc 8) 0)]] [], .asg 13 (.meth (.loc 8) 13 []), .iff (.cmp .Eq (.loc 13) (.cstr [92])) [.exp (.meth (.loc 8) 33 [(.loc 13)]), .exp (.mapp (.attr (.loc 8) 2) (.meth (.loc 8) 34 [])), .exp (.meth (.loc 8) 33 [(.cstr [46])]), .asg 38 (.tup [(.cstr [108, 97, 109]), (.meth (.loc 8) 37 [(.bin .Sub (.loc 30) (.cint 1))])]), .exp (.mpop (.attr (.loc 8) 2)), .ret (.loc 38)] [], .iff (.cmp .NotEq (.loc 13) (.cstr [40])) [.ret (.meth (.loc 8) 36 [])] [], .exp (.meth (.loc 8) 33 [(.cstr [40])]), .asg 39 (.meth (.loc 8) 37 [(.bin .Sub (.loc 30) (.cint 1))]), .asg 38 (.tup [(.cstr [97, 112, 112]), (.loc 39), (.meth (.loc 8) 37 [(.bin .Sub (.loc 30) (.cint 1))])]), .exp (.meth (.loc 8) 33 [(.cstr [41])]), .ret (.loc 38)])
noncomputable def f_of_names : List Nat × List CS := ([1],
  [.asg 41 (.call 6 [(.loc 1)]), .asg 38 (.meth (.loc 41) 37 [(.glo 42)]), .iff (.cmp .NotEq (.meth (.loc 41) 13 []) (.cstr [])) [.rais 5 [(.cstr [116, 104, 101, 32, 116, 101, 120, 116, 32, 103, 111, 101, 115, 32, 111, 110, 32, 98, 101, 104, 105, 110, 100, 32, 105, 116, 115, 32, 116, 101, 114, 109]), (.attr (.loc 41) 0)]] [], .ret (.loc 38)])
noncomputable def f_law_dip : List Nat × List CS := ([43, 44],
  [.asg 0 (.sub (.loc 43) (.cint 1)), .seti (.loc 43) (.cint 1) (.bin .Add (.loc 0) (.cint 1)), .iff (.cmp .Lt (.loc 0) (.bi .len [(.sub (.loc 43) (.cint 0))])) [.ret (.bin .Mod (.sub (.sub (.loc 43) (.cint 0)) (.loc 0)) (.loc 44))] [], .ret (.bin .Mod (.bin .Mod (.bin .Add (.bin .Add (.bin .Mult (.bin .Mult (.cint 7) (.loc 0)) (.loc 0)) (.bin .Mult (.cint 5) (.loc 0))) (.bi .len [(.sub (.loc 43) (.cint 0))])) (.cint 107)) (.loc 44))])
noncomputable def f_law_figures : List Nat × List CS := ([43],
  [.asg 47 (.sub (.glo 48) (.call 45 [(.loc 43), (.cint 12)])), .asgT [49, 16] (.tup [(.call 45 [(.loc 43), (.cint 9)]), (.call 45 [(.loc 43), (.cint 3)])]), .iff (.cmp .Eq (.loc 47) (.cint 1)) [.ret (.tup [(.bi .str [(.loc 49)]), (.loc 49)])] [], .asg 18 (.bin .Add (.bi .str [(.bin .Add (.cint 1) (.loc 49))]) (.bin .Mult (.sub (.tup [(.cstr [48]), (.cstr [57]), (.cstr [53])]) (.loc 16)) (.bin .Sub (.loc 47) (.cint 1)))), .ret (.tup [(.loc 18), (.ite (.cmp .Lt (.loc 47) (.cint 10)) (.bi .int [(.loc 18)]) .cnone)])])
noncomputable def f_law_term : List Nat × List CS := ([43, 50, 2, 51],
  [.asg 53 (.ite (.cmp .Gt (.loc 50) (.cint 0)) (.call 45 [(.loc 43), (.cint 5)]) (.call 45 [(.loc 43), (.cint 2)])), .iff (.bop true [(.cmp .Eq (.loc 53) (.cint 0)), (.cmp .Lt (.bi .len [(.loc 51)]) (.cint 4))]) [.asgT [18, 22] (.call 46 [(.loc 43)]), .exp (.mapp (.loc 51) (.tup [(.loc 22), (.loc 2)])), .ret (.tup [(.bin .Add (.cstr [118, 97, 114]) (.loc 18))])] [], .iff (.cmp .Lt (.loc 53) (.cint 2)) [.ret (.sub (.tup [(.tup [(.cstr [97])]), (.tup [(.cstr [118, 97, 114])]), (.tup [(.cstr [118, 97, 114, 48, 49])]), (.tup [(.cstr [118, 97, 114, 45, 49])]), (.tup [(.cstr [118, 97, 114, 105, 97, 98, 108, 101])]), (.tup [(.cstr [118, 97, 114, 50, 120])])]) (.call 45 [(.loc 43), (.cint 6)]))] [], .iff (.cmp .Lt (.loc 53) (.cint 4)) [.ret (.tup [(.cstr [108, 97, 109]), (.call 52 [(.loc 43), (.bin .Sub (.loc 50) (.cint 1)), (.bin .Add (.loc 2) (.cint 1)), (.loc 51)])])] [], .asg 39 (.call 52 [(.loc 43), (.bin .Sub (.loc 50) (.cint 1)), (.loc 2), (.loc 51)]), .ret (.tup [(.cstr [97, 112, 112]), (.loc 39), (.call 52 [(.loc 43), (.bin .Sub (.loc 50) (.cint 1)), (.loc 2), (.loc 51)])])])
noncomputable def f_law_late : List Nat × List CS := ([56, 26, 14],
  [.asg 38 (.lst []), .forr [22, 2] true (.loc 56) [.iff (.cmp .Is (.loc 22) .cnone) [.ret (.tup [(.cstr [108, 105, 109, 105, 116]), .cnone])] [], .asg 58 (.ite (.cmp .GtE (.loc 22) (.bin .Add (.loc 14) (.loc 2))) (.bin .Add (.loc 22) (.loc 26)) (.loc 22)), .iff (.bop true [(.cmp .GtE (.loc 22) (.bin .Add (.loc 14) (.loc 2))), (.cmp .Lt (.loc 58) (.loc 2))]) [.ret (.tup [(.cstr [116, 101, 114, 109]), .cnone])] [], .iff (.cmp .Gt (.loc 58) (.cint 999999999)) [.ret (.tup [(.cstr [108, 105, 109, 105, 116]), .cnone])] [], .exp (.mapp (.loc 38) (.loc 58))], .ret (.tup [(.cstr [116, 111, 108, 100]), (.loc 38)])])
noncomputable def f_law_indexed : List Nat × List CS := ([20, 38, 59],
  [.iff (.bop true [(.cmp .Eq (.bi .len [(.loc 20)]) (.cint 1)), (.cmp .Eq (.slice (.sub (.loc 20) (.cint 0)) .none (some (.cint 3))) (.cstr [118, 97, 114])), (.mdig (.slice (.sub (.loc 20) (.cint 0)) (some (.cint 3)) .none)), (.bop false [(.cmp .NotEq (.sub (.sub (.loc 20) (.cint 0)) (.cint 3)) (.cstr [48])), (.cmp .Eq (.sub (.loc 20) (.cint 0)) (.cstr [118, 97, 114, 48]))])]) [.exp (.mapp (.loc 38) (.cint 0)), .ret (.tup [(.bin .Add (.cstr [118, 97, 114]) (.bi .str [(.sub (.loc 59) (.bin .Sub (.bi .len [(.loc 38)]) (.cint 1)))]))])] [], .ret (.bin .Add (.tup [(.sub (.loc 20) (.cint 0))]) (.bi .tuple [(.comp (.call 60 [(.loc 61), (.loc 38), (.loc 59)]) [61] false [38, 59] (.slice (.loc 20) (some (.cint 1)) .none) .none)]))])
noncomputable def f_law_is_read : List Nat × List CS := ([43],
  [.asgT [18, 22] (.call 46 [(.loc 43)]), .asg 44 (.call 45 [(.loc 43), (.cint 4)]), .asg 49 (.mjoin (.cstr []) (.comp (.bin .Add (.bin .Add (.cstr [92]) (.sub (.cstr [97, 98, 99]) (.loc 63))) (.cstr [46])) [63] false [] (.bi .range [(.loc 44)]) .none)), .tryy [.asg 10 (.call 40 [(.bin .Add (.bin .Add (.loc 49) (.cstr [121])) (.loc 18))])] 5 64 (.bop true [(.cmp .Eq (.attr (.loc 64) 0) (.bi .len [(.loc 49)])), (.bop false [(.cmp .Is (.loc 22) .cnone), (.cmp .Gt (.bin .Add (.loc 22) (.loc 44)) (.cint 999999999))])]), .asg 65 (.ite (.cmp .Is (.loc 22) .cnone) (.tup []) (.tup [(.bin .Add (.cstr [118, 97, 114]) (.bi .str [(.bin .Add (.loc 22) (.loc 44))]))])), .forr [63] false (.bi .range [(.loc 44)]) [.asg 65 (.tup [(.cstr [108, 97, 109]), (.loc 65)])], .ret (.bop true [(.cmp .IsNot (.loc 22) .cnone), (.cmp .Eq (.loc 10) (.loc 65))])])
noncomputable def f_law : List Nat × List CS := ([66],
  [.asgT [43, 56] (.tup [(.lst [(.bi .list [(.slice (.loc 66) .none (some (.cint 40)))]), (.cint 0)]), (.lst [])]), .asg 20 (.call 52 [(.loc 43), (.cint 3), (.cint 0), (.loc 56)]), .asgT [26, 14] (.tup [(.sub (.tup [(.cint 0), (.cint 1), (.cint 7), (.cint 999999990), (.neg (.cint 1)), (.neg (.cint 3))]) (.call 45 [(.loc 43), (.cint 6)])), (.call 45 [(.loc 43), (.cint 3)])]), .asgT [68, 59] (.call 57 [(.loc 56), (.loc 26), (.loc 14)]), .asg 10 (.heard 195 [20, 26, 14] (.call 29 [(.loc 20), (.loc 26), (.loc 14)])), .iff (.bop false [(.cmp .NotEq (.sub (.loc 10) (.cint 0)) (.loc 68)), (.bop true [(.cmp .Eq (.loc 68) (.cstr [116, 111, 108, 100])), (.cmp .NotEq (.sub (.loc 10) (.cint 1)) (.call 60 [(.loc 20), (.lst []), (.loc 59)]))])]) [.ret (.cbool false)] [], .asg 69 (.cmp .In .cnone (.comp (.loc 22) [22, 2] true [] (.loc 56) .none)), .asg 65 (.cmpNil .Eq (.comp (.loc 70) [70] false [] (.loc 56) (some (.bop false [(.cmp .Is (.sub (.loc 70) (.cint 0)) .cnone), (.cmp .GtE (.sub (.loc 70) (.cint 0)) (.sub (.loc 70) (.cint 1)))])))), .ret (.bop true [(.cmp .Eq (.heard 200 [20] (.call 32 [(.loc 20)])) (.ite (.loc 69) (.tup [(.cstr [108, 105, 109, 105, 116]), .cnone]) (.tup [(.cstr [116, 111, 108, 100]), (.loc 65)]))), (.call 62 [(.loc 43)])])])

end Mine
end
/-! L3: the program's functions, level by level -/
section
set_option autoImplicit false
namespace Mine
open PySem

noncomputable def lkT {α : Type} : List (Nat × α) → Nat → Option α
  | [], _ => none
  | (x, d) :: r, f => match x == f with
    | true => some d
    | false => lkT r f
theorem lkT_all {α : Type} {P : Nat → α → Prop} {f : Nat} {d : α} : ∀ {l : List (Nat × α)}, (∀ x ∈ l, P x.1 x.2) → lkT l f = some d → P f d
  | [], _, e => by cases e
  | (x, y) :: r, h, e => by
    unfold lkT at e
    by_cases q : x = f
    · subst q
      rw [beq_self_eq_true] at e
      cases e
      exact h _ (List.mem_cons_self ..)
    · rw [beq_false_of_ne q] at e
      exact lkT_all (fun z hz => h z (List.mem_cons_of_mem _ hz)) e
noncomputable def fnL : List (Nat × (List Nat × List CS)) := [(12, f_is_row_of), (15, f_figures_behind), (19, f_number_by), (21, f_index_of), (23, f_variable), (25, f_below), (27, f_moved_within), (29, f_shifted), (31, f_is_closed_below), (32, f_is_closed), (40, f_of_names), (45, f_law_dip), (46, f_law_figures), (52, f_law_term), (57, f_law_late), (60, f_law_indexed), (62, f_law_is_read)]
noncomputable def mtL : List (Nat × (List Nat × List CS)) := [(13, r_sign), (33, r_want), (34, r_name), (36, r_leaf), (37, r_term)]
noncomputable def fnTab (f : Nat) : Option (List Nat × List CS) := lkT fnL f
noncomputable def mtTab (f : Nat) : Option (List Nat × List CS) := lkT mtL f
noncomputable def excTab (c : Nat) (l : List PV) : Option PX := match l with
  | [] => none
  | _ :: r => match r with
    | [] => (match c == 3 || c == 4 with
      | true => some ⟨c, none⟩
      | false => none)
    | y :: q => match q with
      | [] => (match c == 5 with
        | true => onInt y fun i => some ⟨5, some i⟩
        | false => none)
      | _ :: _ => none
theorem excTab_inv {c : Nat} {l : List PV} {x : PX} (h : excTab c l = some x) : ((c = 3 ∨ c = 4) ∧ x = ⟨c, none⟩ ∧ ∃ a, l = [a]) ∨ (c = 5 ∧ ∃ a i, x = ⟨5, some i⟩ ∧ l = [a, .int i]) := by
  match l, h with
  | [], h => cases h
  | [a], h =>
    have h : (match c == 3 || c == 4 with
      | true => some (⟨c, none⟩ : PX)
      | false => none) = some x := h
    cases q : (c == 3 || c == 4)
    · rw [q] at h; cases h
    · rw [q] at h
      cases h
      exact .inl ⟨by simpa using q, rfl, a, rfl⟩
  | [a, y], h =>
    have h : (match c == 5 with
        | true => onInt y fun i => some (⟨5, some i⟩ : PX)
        | false => none) = some x := h
    cases q : c == 5
    · rw [q] at h; cases h
    · rw [q] at h
      cases y <;> cases h
      exact .inr ⟨beq_iff_eq.mp q, a, _, rfl, rfl⟩
  | _ :: _ :: _ :: _, h => cases h
noncomputable def runFn (Φ : Sig) (f : List Nat × List CS) (args : List PV) (σ : Store) : Option (R PV) := match args.length == f.1.length with
  | true => (EXs Φ f.2 (f.1.zip args) σ).map resOf
  | false => none
theorem runFn_inv {Φ : Sig} {f : List Nat × List CS} {args : List PV} {σ : Store} {r : R PV} (h : runFn Φ f args σ = some r) : args.length = f.1.length ∧ ∃ rs, EXs Φ f.2 (f.1.zip args) σ = some rs ∧ resOf rs = r := by
  unfold runFn at h
  cases q : args.length == f.1.length
  · rw [q] at h; cases h
  · rw [q] at h
    exact ⟨beq_iff_eq.mp q, Option.map_eq_some_iff.mp h⟩
noncomputable def onD {α β : Type} (o : Option α) (f : α → Option β) : Option β := match o with
  | some d => f d
  | none => none
noncomputable def fnOf (Φ : Sig) (f : Nat) (args : List PV) (σ : Store) : Option (R PV) := match f == 6 with
  | true => (runFn Φ r_init (.ref σ.length :: args) (σ ++ [.inst 6 []])).bind (newOf σ.length)
  | false => onD (fnTab f) fun d => runFn Φ d args σ
noncomputable def mtOf (Φ : Sig) (c m j : Nat) (args : List PV) (σ : Store) : Option (R PV) := onD (mtTab m) fun d => runFn Φ d (.ref j :: args) σ
noncomputable def low1 (k : Nat) (b : Bool) : Bool := match k with
  | 0 => false
  | _ + 1 => b
noncomputable def low2 (k : Nat) (b : Bool) : Bool := match k with
  | 0 => false
  | k + 1 => low1 k b
noncomputable def sigOf (glo : Nat → Option PV) (k : Nat) (fn : Nat → List PV → Store → Option (R PV)) (meth : Nat → Nat → Nat → List PV → Store → Option (R PV)) : Sig :=
  { q := false, top := false, kn := fun f => low1 k (f == 6 || (fnTab f).isSome), km := fun c m => low1 k (c == 6 && (mtTab m).isSome), glo := glo, fn := fn, meth := meth, kx := fun c => low2 k (c == 3 || c == 4 || c == 5), exc := excTab }
noncomputable def levFM (glo : Nat → Option PV) : Nat → (Nat → List PV → Store → Option (R PV)) × (Nat → Nat → Nat → List PV → Store → Option (R PV))
  | 0 => (fun _ _ _ => none, fun _ _ _ _ _ => none)
  | k + 1 => (fnOf (sigOf glo k (levFM glo k).1 (levFM glo k).2), mtOf (sigOf glo k (levFM glo k).1 (levFM glo k).2))
/-- what the functions do, to a depth of k calls -/
noncomputable def lev (glo : Nat → Option PV) (k : Nat) : Sig := sigOf glo k (levFM glo k).1 (levFM glo k).2
noncomputable def Sig.law (Φ : Sig) : Sig := { Φ with top := true }
noncomputable def gloT : Nat → Option PV
  | 17 => some (.str [48, 49, 50, 51, 52, 53, 54, 55, 56, 57])
  | 24 => some (.int 999999999)
  | 35 => some (.str [97, 98, 99, 100, 101, 102, 103, 104, 105, 106, 107, 108, 109, 110, 111, 112, 113, 114, 115, 116, 117, 118, 119, 120, 121, 122, 65, 66, 67, 68, 69, 70, 71, 72, 73, 74, 75, 76, 77, 78, 79, 80, 81, 82, 83, 84, 85, 86, 87, 88, 89, 90])
  | 42 => some (.int 40)
  | 48 => some (.tup [.int 1, .int 1, .int 2, .int 3, .int 8, .int 9, .int 9, .int 9, .int 10, .int 10, .int 12, .int 4310])
  | _ => none
end Mine
end
/-! M2: how a heap bears plain values; what an evaluation leaves as it was -/
section
set_option autoImplicit false
namespace Mine
open PySem PySem.W PyProof.Rows

structure LO where
  a : Addr
  d : Addr
/-- the store's places, and the places that no value names -/
structure Lo where
  l : List LO
  hid : List Addr
noncomputable def Lo.add (L : Lo) (T : List LO) : Lo := ⟨L.l ++ T, L.hid⟩
noncomputable def Lo.nil : Lo := ⟨[], []⟩
theorem Lo.l_append (L : Lo) (T : List LO) : (L.add T).l = L.l ++ T := rfl
theorem Lo.hid_append (L : Lo) (T : List LO) : (L.add T).hid = L.hid := rfl
theorem Lo.append_nil (L : Lo) : L.add ([] : List LO) = L := by
  show Lo.mk (L.l ++ []) L.hid = L
  rw [List.append_nil]
theorem Lo.append_assoc (L : Lo) (S T : List LO) : (L.add S).add T = L.add (S ++ T) := by
  show Lo.mk (L.l ++ S ++ T) L.hid = Lo.mk (L.l ++ (S ++ T)) L.hid
  rw [List.append_assoc]
noncomputable def ownT (T : List LO) : List Addr := T.flatMap fun p => [p.a, p.d]
noncomputable def own (L : Lo) : List Addr := L.hid ++ ownT L.l

theorem own_append (L : Lo) (T : List LO) : own (L.add T) = own L ++ ownT T := by simp [own, ownT, Lo.l_append, Lo.hid_append]


/-- an object as it was, a dict's slots apart -/
noncomputable def Slt (h h' : Heap) (b : Addr) : Prop := ∀ o, h.get? b = some o → ∃ sl, h'.get? b = some { o with slots := sl } ∧ ((∀ es n, o.data ≠ .dict es n) → sl = o.slots)

theorem Slt.refl (h : Heap) (b : Addr) : Slt h h b := fun o e => ⟨o.slots, e, fun _ => rfl⟩
theorem Slt.of_eq {h h' : Heap} {b : Addr} (e : h'.get? b = h.get? b) : Slt h h' b := fun o q => ⟨o.slots, e.trans q, fun _ => rfl⟩
theorem Slt.of_some {h h' : Heap} {b : Addr} (e : ∀ o, h.get? b = some o → h'.get? b = some o) : Slt h h' b := fun o q => ⟨o.slots, e o q, fun _ => rfl⟩
theorem Slt.trans {h h₁ h₂ : Heap} {b : Addr} (x : Slt h h₁ b) (y : Slt h₁ h₂ b) : Slt h h₂ b := fun o e => by
  obtain ⟨sl, e₁, k₁⟩ := x o e
  obtain ⟨sl', e₂, k₂⟩ := y _ e₁
  exact ⟨sl', e₂, fun hd => (k₂ hd).trans (k₁ hd)⟩
theorem Slt.exact {h h' : Heap} {b : Addr} {o : Obj} (x : Slt h h' b) (e : h.get? b = some o) (hd : ∀ es n, o.data ≠ .dict es n) : h'.get? b = some o := by
  obtain ⟨sl, e₁, k₁⟩ := x o e
  obtain rfl := k₁ hd
  exact e₁
theorem Slt.tup {h h' : Heap} {a : Addr} {vs : Array Value} (k : Slt h h' a) (x : IsTup h a vs) : IsTup h' a vs := by
  obtain ⟨o, ho, hc, n, hd⟩ := x
  obtain ⟨sl, e, _⟩ := k o ho
  exact ⟨_, e, hc, n, hd⟩
theorem Slt.list {h h' : Heap} {a : Addr} {vs : Array Value} (k : Slt h h' a) (x : h.IsList a vs) : h'.IsList a vs := by
  obtain ⟨o, ho, hc, n, hd⟩ := x
  obtain ⟨sl, e, _⟩ := k o ho
  exact ⟨_, e, hc, n, hd⟩
theorem Slt.cell {h h' : Heap} {a : Addr} {v : Option Value} (k : Slt h h' a) (x : h.IsCell a v) : h'.IsCell a v := by
  obtain ⟨o, ho, hd⟩ := x
  obtain ⟨sl, e, _⟩ := k o ho
  exact ⟨_, e, hd⟩
theorem Slt.ns {h h' : Heap} {a : Addr} {m : Str → Option Value} (k : Slt h h' a) (x : h.Ns a m) : h'.Ns a m := by
  obtain ⟨o, es, ep, ho, hd, r⟩ := x
  obtain ⟨sl, e, _⟩ := k o ho
  exact ⟨_, es, ep, e, hd, r⟩

noncomputable def textFaultA : Addr := 69
noncomputable def spotStr : Str := Str.ofString "spot"
noncomputable def rngObj (n : Int) (t u w : Tok) : Obj := { cls := .type "range", dict := none, data := .fields #[.int 0 t, .int n u, .int 1 w], slots := #[] }
/-- a caught TextFault with its place -/
noncomputable def IsExn (h : Heap) (e d : Addr) (i : Int) : Prop := ∃ vs od es n t, h.get? e = some { cls := .ref textFaultA, dict := some d, data := .fields vs } ∧ h.get? d = some od ∧ od.cls = .type "dict" ∧ od.data = .dict (List.toArray es) n ∧ getL spotStr es = some (some (.int i t))

mutual
/-- q: a suite behind except is walked, where a caught exception may be bound -/
noncomputable def RelV (q : Bool) (L : Lo) (h : Heap) : Value → PV → Prop
  | v, .none => v = .none
  | v, .bool b => v = .bool b
  | v, .int i => ∃ t, v = .int i t
  | v, .str l => ∃ t, v = .str ⟨l.toArray⟩ t
  | v, .tup l => ∃ a vs, v = .ref a ∧ a ∉ own L ∧ IsTup h a vs ∧ RelVs q L h vs.toList l
  | v, .lst l => ∃ a vs, v = .ref a ∧ a ∉ own L ∧ h.IsList a vs ∧ RelVs q L h vs.toList l
  | v, .rng n => ∃ a t u w, v = .ref a ∧ a ∉ own L ∧ h.get? a = some (rngObj n t u w)
  | v, .ref k => ∃ p, L.l[k]? = some p ∧ v = .ref p.a
  | v, .exn i => q = true ∧ ∃ e d, v = .ref e ∧ e ∉ own L ∧ d ∉ own L ∧ IsExn h e d i
noncomputable def RelVs (q : Bool) (L : Lo) (h : Heap) : List Value → List PV → Prop
  | [], [] => True
  | v :: vs, p :: ps => RelV q L h v p ∧ RelVs q L h vs ps
  | [], _ :: _ => False
  | _ :: _, [] => False
end
theorem RelVs.length {q : Bool} {L : Lo} {h : Heap} : ∀ {vs : List Value} {ps : List PV}, RelVs q L h vs ps → vs.length = ps.length
  | [], [], _ => rfl
  | _ :: _, _ :: _, x => by
    simp only [RelVs] at x
    simp [RelVs.length x.2]
  | [], _ :: _, x => by simp [RelVs] at x
  | _ :: _, [], x => by simp [RelVs] at x
theorem RelVs.get {q : Bool} {L : Lo} {h : Heap} : ∀ {vs : List Value} {ps : List PV}, RelVs q L h vs ps → ∀ {i : Nat} {p : PV}, ps[i]? = some p → ∃ v, vs[i]? = some v ∧ RelV q L h v p
  | [], [], _, _, _, e => by simp at e
  | v :: _, p :: _, x, 0, _, e => by
    simp only [RelVs] at x
    simp only [List.getElem?_cons_zero, Option.some.injEq] at e
    subst e
    exact ⟨v, by simp, x.1⟩
  | _ :: vs, _ :: ps, x, i + 1, _, e => by
    simp only [RelVs] at x
    simp only [List.getElem?_cons_succ] at e ⊢
    exact RelVs.get x.2 e
  | [], _ :: _, x, _, _, _ => by simp [RelVs] at x
  | _ :: _, [], x, _, _, _ => by simp [RelVs] at x
theorem RelVs.append {q : Bool} {L : Lo} {h : Heap} : ∀ {vs : List Value} {ps : List PV} {us : List Value} {qs : List PV}, RelVs q L h vs ps → RelVs q L h us qs → RelVs q L h (vs ++ us) (ps ++ qs)
  | [], [], _, _, _, y => y
  | _ :: _, _ :: _, _, _, x, y => by
    simp only [RelVs] at x
    simp only [List.cons_append, RelVs]
    exact ⟨x.1, RelVs.append x.2 y⟩
  | [], _ :: _, _, _, x, _ => by simp [RelVs] at x
  | _ :: _, [], _, _, x, _ => by simp [RelVs] at x
theorem RelVs.set {q : Bool} {L : Lo} {h : Heap} : ∀ {vs : List Value} {ps : List PV}, RelVs q L h vs ps → ∀ {i : Nat} {v : Value} {p : PV}, RelV q L h v p → RelVs q L h (vs.set i v) (ps.set i p)
  | [], [], _, _, _, _, _ => by simp [RelVs]
  | _ :: _, _ :: _, x, 0, _, _, y => by
    simp only [RelVs] at x
    simp only [List.set_cons_zero, RelVs]
    exact ⟨y, x.2⟩
  | _ :: _, _ :: _, x, _ + 1, _, _, y => by
    simp only [RelVs] at x
    simp only [List.set_cons_succ, RelVs]
    exact ⟨x.1, RelVs.set x.2 y⟩
  | [], _ :: _, x, _, _, _, _ => by simp [RelVs] at x
  | _ :: _, [], x, _, _, _, _ => by simp [RelVs] at x
theorem RelVs.take {q : Bool} {L : Lo} {h : Heap} : ∀ {vs : List Value} {ps : List PV}, RelVs q L h vs ps → ∀ (n : Nat), RelVs q L h (vs.take n) (ps.take n)
  | [], [], _, _ => by simp [RelVs]
  | _ :: _, _ :: _, _, 0 => by simp [RelVs]
  | _ :: _, _ :: _, x, n + 1 => by
    simp only [RelVs] at x
    simp only [List.take_succ_cons, RelVs]
    exact ⟨x.1, RelVs.take x.2 n⟩
  | [], _ :: _, x, _ => by simp [RelVs] at x
  | _ :: _, [], x, _ => by simp [RelVs] at x
theorem RelVs.drop {q : Bool} {L : Lo} {h : Heap} : ∀ {vs : List Value} {ps : List PV}, RelVs q L h vs ps → ∀ (n : Nat), RelVs q L h (vs.drop n) (ps.drop n)
  | [], [], _, _ => by simp [RelVs]
  | _ :: _, _ :: _, x, 0 => by simpa [RelVs] using x
  | _ :: _, _ :: _, x, n + 1 => by
    simp only [RelVs] at x
    simp only [List.drop_succ_cons]
    exact RelVs.drop x.2 n
  | [], _ :: _, x, _ => by simp [RelVs] at x
  | _ :: _, [], x, _ => by simp [RelVs] at x

/-- the objects that an evaluation may turn: the store's, and the frame's -/
structure Aft (fa : List Addr) (L : Lo) (h : Heap) (L' : Lo) (h' : Heap) : Prop where
  pre : ∃ T : List LO, L' = L.add T ∧ ∀ a ∈ ownT T, h.get? a = none
  kept : ∀ b, b ∉ ownT L.l → b ∉ fa → Slt h h' b
theorem Aft.keeps {fa : List Addr} {L L' : Lo} {h h' : Heap} (x : Aft fa L h L' h') : ∀ b, b ∉ own L → b ∉ fa → Slt h h' b := fun b hb hf => x.kept b (fun z => hb (List.mem_append_right _ z)) hf
theorem Aft.refl (fa : List Addr) (L : Lo) (h : Heap) : Aft fa L h L h := ⟨⟨[], L.append_nil.symm, fun _ q => by simp [ownT] at q⟩, fun b _ _ => .refl h b⟩

section
variable {L L' : Lo} {h h' : Heap}
/-- what keeps a value: its own objects stay -/
theorem own_pre {T : List LO} {a : Addr} (hn : a ∉ own L) (hT : ∀ a ∈ ownT T, h.get? a = none) {o : Obj} (ho : h.get? a = some o) : a ∉ own (L.add T) := by
  rw [own_append, List.mem_append]
  rintro (q | q)
  · exact hn q
  · rw [hT a q] at ho; cases ho
end
theorem own_off {L L' : Lo} {h : Heap} {a : Addr} (hn : a ∉ own L) (hT : ∀ a ∈ own L', a ∈ own L ∨ h.get? a = none) {o : Obj} (ho : h.get? a = some o) : a ∉ own L' := fun q => by
  rcases hT a q with q | q
  · exact hn q
  · rw [ho] at q; cases q
mutual
theorem RelV.move {q : Bool} {L L' : Lo} {h h' : Heap} (hT : ∀ a ∈ own L', a ∈ own L ∨ h.get? a = none) (hP : ∀ (i : Nat) (p : LO), L.l[i]? = some p → L'.l[i]? = some p) (k : ∀ b o, h.get? b = some o → (∃ x n, o.data = .seq x n) ∨ (∃ n t u w, o = rngObj n t u w) → b ∉ own L → Slt h h' b)
    (kq : q = true → ∀ b, b ∉ own L → Slt h h' b) :
    ∀ {v : Value} {p : PV}, RelV q L h v p → RelV q L' h' v p
  | _, .none, x => x
  | _, .bool _, x => x
  | _, .int _, x => x
  | _, .str _, x => x
  | _, .tup l, x => by
    simp only [RelV] at x ⊢
    obtain ⟨a, vs, rfl, ha, ht, hr⟩ := x
    have ht' := ht
    obtain ⟨o, ho, hc, n, hd⟩ := ht'
    exact ⟨a, vs, rfl, own_off ha hT ho, (k a o ho (.inl ⟨_, _, hd⟩) ha).tup ht, RelVs.move hT hP k kq hr⟩
  | _, .lst l, x => by
    simp only [RelV] at x ⊢
    obtain ⟨a, vs, rfl, ha, ht, hr⟩ := x
    have ht' := ht
    obtain ⟨o, ho, hc, n, hd⟩ := ht'
    exact ⟨a, vs, rfl, own_off ha hT ho, (k a o ho (.inl ⟨_, _, hd⟩) ha).list ht, RelVs.move hT hP k kq hr⟩
  | _, .rng n, x => by
    simp only [RelV] at x ⊢
    obtain ⟨a, t, u, w, rfl, ha, ho⟩ := x
    exact ⟨a, t, u, w, rfl, own_off ha hT ho, (k a _ ho (.inr ⟨_, _, _, _, rfl⟩) ha).exact ho (fun _ _ q => by cases q)⟩
  | _, .ref j, x => by
    simp only [RelV] at x ⊢
    obtain ⟨p, hp, rfl⟩ := x
    exact ⟨p, hP _ _ hp, rfl⟩
  | _, .exn i, x => by
    simp only [RelV] at x ⊢
    obtain ⟨hq, e, d, rfl, he, hd, vs, od, es, n, t, h1, h2, h3, h4, h5⟩ := x
    refine ⟨hq, e, d, rfl, own_off he hT h1, own_off hd hT h2, ?_⟩
    obtain ⟨sl, e2, _⟩ := kq hq d hd od h2
    exact ⟨vs, _, es, n, t, (kq hq e he).exact h1 (fun _ _ q => by cases q), e2, h3, h4, h5⟩
theorem RelVs.move {q : Bool} {L L' : Lo} {h h' : Heap} (hT : ∀ a ∈ own L', a ∈ own L ∨ h.get? a = none) (hP : ∀ (i : Nat) (p : LO), L.l[i]? = some p → L'.l[i]? = some p) (k : ∀ b o, h.get? b = some o → (∃ x n, o.data = .seq x n) ∨ (∃ n t u w, o = rngObj n t u w) → b ∉ own L → Slt h h' b)
    (kq : q = true → ∀ b, b ∉ own L → Slt h h' b) :
    ∀ {vs : List Value} {ps : List PV}, RelVs q L h vs ps → RelVs q L' h' vs ps
  | [], [], _ => by simp [RelVs]
  | _ :: _, _ :: _, x => by
    simp only [RelVs] at x ⊢
    exact ⟨RelV.move hT hP k kq x.1, RelVs.move hT hP k kq x.2⟩
  | [], _ :: _, x => by simp [RelVs] at x
  | _ :: _, [], x => by simp [RelVs] at x
end
theorem own_grow {L : Lo} {h : Heap} {T : List LO} (hT : ∀ a ∈ ownT T, h.get? a = none) : ∀ a ∈ own (L.add T), a ∈ own L ∨ h.get? a = none := fun a q => by
  rw [own_append, List.mem_append] at q
  exact q.imp id (hT a)
theorem own_preT {L : Lo} {h : Heap} {T : List LO} {a : Addr} (hn : a ∉ ownT L.l) (hT : ∀ a ∈ ownT T, h.get? a = none) {o : Obj} (ho : h.get? a = some o) : a ∉ ownT (L.add T).l := by
  rw [Lo.l_append, show ownT (L.l ++ T) = ownT L.l ++ ownT T by simp [ownT], List.mem_append]
  rintro (q | q)
  · exact hn q
  · rw [hT a q] at ho; cases ho
theorem pre_grow {L : Lo} {T : List LO} : ∀ (i : Nat) (p : LO), L.l[i]? = some p → (L.add T).l[i]? = some p := fun i p e => by
  rw [Lo.l_append, List.getElem?_append_left (List.getElem?_eq_some_iff.mp e).1]; exact e
theorem RelV.keep {q : Bool} {L : Lo} {h h' : Heap} {T : List LO} (hT : ∀ a ∈ ownT T, h.get? a = none) (k : ∀ b o, h.get? b = some o → (∃ x n, o.data = .seq x n) ∨ (∃ n t u w, o = rngObj n t u w) → b ∉ own L → Slt h h' b)
    (kq : q = true → ∀ b, b ∉ own L → Slt h h' b) {v : Value} {p : PV} (r : RelV q L h v p) : RelV q (L.add T) h' v p := RelV.move (own_grow hT) pre_grow k kq r
theorem RelVs.keep {q : Bool} {L : Lo} {h h' : Heap} {T : List LO} (hT : ∀ a ∈ ownT T, h.get? a = none) (k : ∀ b o, h.get? b = some o → (∃ x n, o.data = .seq x n) ∨ (∃ n t u w, o = rngObj n t u w) → b ∉ own L → Slt h h' b)
    (kq : q = true → ∀ b, b ∉ own L → Slt h h' b) {v : List Value} {p : List PV} (r : RelVs q L h v p) : RelVs q (L.add T) h' v p := RelVs.move (own_grow hT) pre_grow k kq r
mutual
theorem RelV.quiet {q : Bool} {L : Lo} {h : Heap} : ∀ {v : Value} {p : PV}, RelV q L h v p → RelV true L h v p
  | _, .none, x => x
  | _, .bool _, x => x
  | _, .int _, x => x
  | _, .str _, x => x
  | _, .tup l, x => by
    simp only [RelV] at x ⊢
    obtain ⟨a, vs, e, ha, ht, hr⟩ := x
    exact ⟨a, vs, e, ha, ht, RelVs.quiet hr⟩
  | _, .lst l, x => by
    simp only [RelV] at x ⊢
    obtain ⟨a, vs, e, ha, ht, hr⟩ := x
    exact ⟨a, vs, e, ha, ht, RelVs.quiet hr⟩
  | _, .rng n, x => x
  | _, .ref j, x => x
  | _, .exn i, x => by
    simp only [RelV] at x ⊢
    exact ⟨trivial, x.2⟩
theorem RelVs.quiet {q : Bool} {L : Lo} {h : Heap} : ∀ {vs : List Value} {ps : List PV}, RelVs q L h vs ps → RelVs true L h vs ps
  | [], [], _ => by simp [RelVs]
  | _ :: _, _ :: _, x => by
    simp only [RelVs] at x ⊢
    exact ⟨RelV.quiet x.1, RelVs.quiet x.2⟩
  | [], _ :: _, x => by simp [RelVs] at x
  | _ :: _, [], x => by simp [RelVs] at x
end

/-- a frame's places: its dict and its cells -/
noncomputable def FaOk (h : Heap) (fa : List Addr) : Prop := ∀ b ∈ fa, ∀ o, h.get? b = some o → (∃ es n, o.data = .dict es n) ∨ ∃ v, o.data = .cell v
theorem FaOk.nil (h : Heap) : FaOk h [] := fun _ q => by cases q
theorem Aft.rel {q : Bool} {fa : List Addr} {L L' : Lo} {h h' : Heap} (x : Aft fa L h L' h') (hf : FaOk h fa) (hq : q = true → fa = []) {v : Value} {p : PV} (r : RelV q L h v p) : RelV q L' h' v p := by
  have k := x.keeps
  obtain ⟨⟨T, rfl, hT⟩, _⟩ := x
  refine RelV.keep hT (fun b o ho hk hb => k b hb fun hm => ?_) (fun e b hb => k b hb (by rw [hq e]; exact fun z => by cases z)) r
  rcases hf b hm o ho with ⟨es, n, z⟩ | ⟨v, z⟩
  · rcases hk with ⟨_, _, y⟩ | ⟨_, _, _, _, rfl⟩ <;> first | (rw [z] at y; cases y; done) | (cases z; done)
  · rcases hk with ⟨_, _, y⟩ | ⟨_, _, _, _, rfl⟩ <;> first | (rw [z] at y; cases y; done) | (cases z; done)
theorem Aft.rels {q : Bool} {fa : List Addr} {L L' : Lo} {h h' : Heap} (x : Aft fa L h L' h') (hf : FaOk h fa) (hq : q = true → fa = []) {vs : List Value} {ps : List PV} (r : RelVs q L h vs ps) : RelVs q L' h' vs ps := by
  have k := x.keeps
  obtain ⟨⟨T, rfl, hT⟩, _⟩ := x
  refine RelVs.keep hT (fun b o ho hk hb => k b hb fun hm => ?_) (fun e b hb => k b hb (by rw [hq e]; exact fun z => by cases z)) r
  rcases hf b hm o ho with ⟨es, n, z⟩ | ⟨v, z⟩
  · rcases hk with ⟨_, _, y⟩ | ⟨_, _, _, _, rfl⟩ <;> first | (rw [z] at y; cases y; done) | (cases z; done)
  · rcases hk with ⟨_, _, y⟩ | ⟨_, _, _, _, rfl⟩ <;> first | (rw [z] at y; cases y; done) | (cases z; done)
end Mine
end
/-! M3: the store's layout, a frame's names, the state between two steps -/
section
set_option autoImplicit false
namespace Mine
open PySem PySem.W PyProof.Rows

/-- the world that a text runs in -/
structure Wd where
  tab : Addr
  lc : Addr
  prog : Program
  w : World
  b0 : Heap
  nm : Nat → Str
  cls : Nat → Addr
  mg : Str → Option Value
  mb : Str → Option Value

noncomputable def KA (h h' : Heap) : Prop := ∀ b o, h.get? b = some o → h'.get? b = some o
theorem KA.refl (h : Heap) : KA h h := fun _ _ e => e
theorem KA.trans {h h₁ h₂ : Heap} (x : KA h h₁) (y : KA h₁ h₂) : KA h h₂ := fun b o e => y b o (x b o e)
theorem KA.push (h : Heap) (o : Obj) : KA h (h.push o) := fun _ _ e => Heap.get?_push_of_some _ e
theorem KA.slt {h h' : Heap} (x : KA h h') (b : Addr) : Slt h h' b := .of_some (x b)
theorem KA.aft {h h' : Heap} (x : KA h h') (fa : List Addr) (L : Lo) : Aft fa L h L h' := ⟨⟨[], L.append_nil.symm, fun _ q => by simp [ownT] at q⟩, fun b _ _ => x.slt b⟩
theorem fresh_none (h : Heap) : h.get? h.objs.size = none := by
  cases e : h.get? h.objs.size with
  | none => rfl
  | some o => exact absurd (Heap.lt_size e) (Nat.lt_irrefl _)

/-- a record's entries bear its fields -/
noncomputable def Ents (W : Wd) (q : Bool) (L : Lo) (h : Heap) : List DictEntry → List (Nat × PV) → Prop
  | [], [] => True
  | e :: es, (x, p) :: l => (∃ t, e.key = .str (W.nm x) t) ∧ RelV q L h e.val p ∧ Ents W q L h es l
  | [], _ :: _ => False
  | _ :: _, [] => False

noncomputable def LayO (W : Wd) (q : Bool) (L : Lo) (h : Heap) (p : LO) : PO → Prop
  | .lst l => p.d = p.a ∧ ∃ vs, h.PlainList p.a vs ∧ RelVs q L h vs.toList l
  | .inst c l => p.a ≠ p.d ∧ h.get? p.a = some (instObj (W.cls c) p.d) ∧ ∃ es n, h.get? p.d = some (dictOf es n) ∧ es.length ≤ 100 ∧ Ents W q L h es l
  | .tab l => p.d = p.a ∧ p.a = W.tab ∧ ∃ ps, h.get? p.a = some (tabObj ps) ∧ TriplesOk ps.toList ∧ ∀ pos : Pos, pos.line ∉ l → codeAmong pos ps.toList = none

structure Lay (W : Wd) (q : Bool) (L : Lo) (σ : Store) (h : Heap) : Prop where
  len : L.l.length = σ.length
  apart : ∀ (i j : Nat) (p r : LO), L.l[i]? = some p → L.l[j]? = some r → i ≠ j → p.a ≠ r.a ∧ p.a ≠ r.d ∧ p.d ≠ r.a ∧ p.d ≠ r.d
  objs : ∀ (i : Nat) (p : LO) (o : PO), L.l[i]? = some p → σ[i]? = some o → LayO W q L h p o
  hidden : ∀ a ∈ L.hid, (∃ o, h.get? a = some o) ∧ ∀ (i : Nat) (p : LO), L.l[i]? = some p → p.a ≠ a ∧ p.d ≠ a

theorem Ents.keep {W : Wd} {q : Bool} {L L' : Lo} {h h' : Heap} (k : ∀ {v : Value} {p : PV}, RelV q L h v p → RelV q L' h' v p) : ∀ {es : List DictEntry} {l : List (Nat × PV)}, Ents W q L h es l → Ents W q L' h' es l
  | [], [], _ => by simp [Ents]
  | _ :: _, (_, _) :: _, x => by
    simp only [Ents] at x ⊢
    exact ⟨x.1, k x.2.1, Ents.keep k x.2.2⟩
  | [], _ :: _, x => by simp [Ents] at x
  | _ :: _, [], x => by simp [Ents] at x

theorem mem_own {L : Lo} {i : Nat} {p : LO} (e : L.l[i]? = some p) : p.a ∈ own L ∧ p.d ∈ own L := by
  have hm : p ∈ L.l := List.mem_of_getElem? e
  constructor <;> exact List.mem_append_right _ (List.mem_flatMap.mpr ⟨p, hm, by simp⟩)
theorem mem_ownT {L : Lo} {i : Nat} {p : LO} (e : L.l[i]? = some p) : p.a ∈ ownT L.l ∧ p.d ∈ ownT L.l := by
  have hm : p ∈ L.l := List.mem_of_getElem? e
  constructor <;> exact List.mem_flatMap.mpr ⟨p, hm, by simp⟩
theorem own_mem {L : List LO} {a : Addr} (h : a ∈ ownT L) : ∃ (i : Nat) (p : LO), L[i]? = some p ∧ (a = p.a ∨ a = p.d) := by
  obtain ⟨p, hp, ha⟩ := List.mem_flatMap.mp h
  obtain ⟨i, hi, e⟩ := List.getElem_of_mem hp
  refine ⟨i, p, by rw [List.getElem?_eq_getElem hi, e], ?_⟩
  simpa using ha
theorem LayO.live {W : Wd} {q : Bool} {L : Lo} {h : Heap} {p : LO} {o : PO} (x : LayO W q L h p o) : (∃ oa, h.get? p.a = some oa) ∧ ∃ od, h.get? p.d = some od := by
  cases o with
  | lst l =>
    obtain ⟨e, vs, ⟨n, ho⟩, _⟩ := x
    exact ⟨⟨_, ho⟩, _, e ▸ ho⟩
  | inst c l =>
    obtain ⟨_, h1, es, n, h2, _⟩ := x
    exact ⟨⟨_, h1⟩, _, h2⟩
  | tab l =>
    obtain ⟨e, _, ps, h1, _⟩ := x
    exact ⟨⟨_, h1⟩, _, e ▸ h1⟩
theorem Lay.live {W : Wd} {q : Bool} {L : Lo} {σ : Store} {h : Heap} (x : Lay W q L σ h) {a : Addr} (ha : a ∈ own L) : ∃ o, h.get? a = some o := by
  rcases List.mem_append.mp ha with ha | ha
  · exact (x.hidden a ha).1
  obtain ⟨i, p, e, z⟩ := own_mem ha
  have hi : i < L.l.length := (List.getElem?_eq_some_iff.mp e).1
  rw [x.len] at hi
  obtain ⟨y1, y2⟩ := (x.objs i p σ[i] e (List.getElem?_eq_getElem hi)).live
  rcases z with rfl | rfl
  · exact y1
  · exact y2
theorem LayO.keep {W : Wd} {q : Bool} {L L' : Lo} {h h' : Heap} {p : LO} {o : PO} (x : LayO W q L h p o) (k : ∀ {v : Value} {p : PV}, RelV q L h v p → RelV q L' h' v p)
    (ks : ∀ {vs : List Value} {ps : List PV}, RelVs q L h vs ps → RelVs q L' h' vs ps) (ka : ∀ o, h.get? p.a = some o → h'.get? p.a = some o) (kd : ∀ o, h.get? p.d = some o → h'.get? p.d = some o) : LayO W q L' h' p o := by
  cases o with
  | lst l =>
    obtain ⟨e, vs, hl, r⟩ := x
    obtain ⟨n, ho⟩ := hl
    exact ⟨e, vs, ⟨n, ka _ ho⟩, ks r⟩
  | inst c l =>
    obtain ⟨e, h1, es, n, h2, hn, r⟩ := x
    exact ⟨e, ka _ h1, es, n, kd _ h2, hn, r.keep k⟩
  | tab l =>
    obtain ⟨e, e2, ps, h1, r⟩ := x
    exact ⟨e, e2, ps, ka _ h1, r⟩

/-- where a name's value lies -/
noncomputable def NameAt (env : Env) (h : Heap) (x : Str) (v : Value) : Prop :=
  (env.kindOf x = some .local ∧ ∃ m, h.Ns env.locals m ∧ m x = some v) ∨
  ((env.kindOf x = some .cell ∨ env.kindOf x = some .free) ∧ ∃ c, env.cells.lookup x = some c ∧ h.IsCell c (some v))
noncomputable def faOf (env : Env) : List Addr := env.locals :: (env.cells.filter fun p => env.cells.lookup p.1 == some p.2).map (·.2)
theorem cell_mem {env : Env} {x : Str} {c : Addr} (hc : env.cells.lookup x = some c) : c ∈ faOf env :=
  List.mem_cons_of_mem _ (List.mem_map.mpr ⟨_, List.mem_filter.mpr ⟨mem_of_lookup hc, by simp [hc]⟩, rfl⟩)
theorem faOf_cell {env : Env} {b : Addr} (hb : b ∈ (env.cells.filter fun p => env.cells.lookup p.1 == some p.2).map (·.2)) : ∃ y, env.cells.lookup y = some b := by
  obtain ⟨⟨n, c⟩, hm, rfl⟩ := List.mem_map.mp hb
  exact ⟨n, by simpa using (List.mem_filter.mp hm).2⟩

structure EnvRel (W : Wd) (q : Bool) (env : Env) (ρ : Loc) (L : Lo) (h : Heap) : Prop where
  kind : env.scope.kind = .function
  globals : env.globals = mainGlobals
  builtins : env.builtins = builtinsNs
  ns : ∃ m, h.Ns env.locals m
  names : ∀ x pv, lk ρ x = some pv → ∃ v, NameAt env h (W.nm x) v ∧ RelV q L h v pv
  cells : ∀ y c, env.cells.lookup y = some c → ∃ v, h.IsCell c v
  apart : ∀ y z c, env.cells.lookup y = some c → env.cells.lookup z = some c → y = z
  off : ∀ b ∈ faOf env, b ∉ own L
  low : ∀ b ∈ faOf env, ∃ o, h.get? b = some o ∧ ((∃ es n, o.data = .dict es n) ∨ ∃ v, o.data = .cell v)
  fresh : ∀ b ∈ faOf env, W.b0.get? b = none
  have_ : ∀ y, env.kindOf y = some .cell → ∃ c, env.cells.lookup y = some c

theorem NameAt.keep {env : Env} {h h' : Heap} {x : Str} {v : Value} (k : ∀ b ∈ faOf env, Slt h h' b) (n : NameAt env h x v) : NameAt env h' x v := by
  rcases n with ⟨hk, m, hn, hm⟩ | ⟨hk, c, hc, hv⟩
  · exact .inl ⟨hk, m, (k _ (List.mem_cons_self ..)).ns hn, hm⟩
  · refine .inr ⟨hk, c, hc, (k c ?_).cell hv⟩
    exact cell_mem hc

/-- the frames on the stack: each one's dict lies there, is no store's, no base's -/
noncomputable def FrOk (b0 : Heap) (L : Lo) (h : Heap) (fs : List Env) : Prop :=
  ∀ env ∈ fs, env.scope.kind ≠ .module ∧ ∃ F o, env.frame = some F ∧ b0.get? F = none ∧ F ∉ own L ∧ h.get? F = some o ∧ ∃ es n, o.data = .dict es n
theorem FrOk.keep {b0 : Heap} {L : Lo} {T : List LO} {h h' : Heap} {fs : List Env} (x : FrOk b0 L h fs) (hT : ∀ a ∈ ownT T, h.get? a = none) (k : ∀ F o, h.get? F = some o → (∃ es n, o.data = .dict es n) → F ∉ own L → ∃ o', h'.get? F = some o' ∧ ∃ es n, o'.data = .dict es n) : FrOk b0 (L.add T) h' fs := by
  intro env he
  obtain ⟨hk, F, o, h1, h2, h3, h4, h5⟩ := x env he
  obtain ⟨o', e', d'⟩ := k F o h4 h5 h3
  exact ⟨hk, F, o', h1, h2, own_pre h3 hT h4, e', d'⟩
theorem FrOk.fun {b0 : Heap} {L : Lo} {h : Heap} : ∀ {fs : List Env}, FrOk b0 L h fs → h.FunFrames b0 fs
  | [], _ => trivial
  | env :: r, x => by
    obtain ⟨hk, F, o, h1, h2, h3, h4, es, n, h5⟩ := x env (List.mem_cons_self ..)
    exact ⟨hk, ⟨F, o, h1, h2, h4, fun vs e => by rw [h5] at e; cases e⟩, FrOk.fun fun e he => x e (List.mem_cons_of_mem _ he)⟩

/-- the state between two steps, the frame at hand apart -/
structure St (W : Wd) (q : Bool) (fs : List Env) (L : Lo) (σ : Store) (h : Heap) : Prop where
  base : W.b0.StaysIn h
  offb : ∀ a ∈ own L, W.b0.get? a = none
  lay : Lay W q L σ h
  fr : FrOk W.b0 L h fs

theorem FaOk.ofEnv {W : Wd} {q : Bool} {env : Env} {ρ : Loc} {L : Lo} {h : Heap} (x : EnvRel W q env ρ L h) : FaOk h (faOf env) := by
  intro b hb o ho
  obtain ⟨o', ho', z⟩ := x.low b hb
  rw [ho] at ho'; cases ho'
  exact z

section
variable {W : Wd} {q : Bool} {env : Env} {fs : List Env} {ρ : Loc} {L : Lo} {σ : Store} {h h' : Heap}
theorem KA.rel (k : KA h h') {v : Value} {p : PV} (r : RelV q L h v p) : RelV q L h' v p := (k.aft [] L).rel (.nil h) (fun _ => rfl) r
theorem KA.rels (k : KA h h') {vs : List Value} {ps : List PV} (r : RelVs q L h vs ps) : RelVs q L h' vs ps := (k.aft [] L).rels (.nil h) (fun _ => rfl) r
theorem Lay.ka (x : Lay W q L σ h) (k : KA h h') : Lay W q L σ h' :=
  ⟨x.len, x.apart, fun i p o e e' => (x.objs i p o e e').keep k.rel k.rels (k _) (k _), fun a ha => ⟨let ⟨o, e⟩ := (x.hidden a ha).1; ⟨o, k a o e⟩, (x.hidden a ha).2⟩⟩
theorem EnvRel.ka (x : EnvRel W q env ρ L h) (k : KA h h') : EnvRel W q env ρ L h' where
  kind := x.kind
  globals := x.globals
  builtins := x.builtins
  ns := let ⟨m, hm⟩ := x.ns; ⟨m, (k.slt _).ns hm⟩
  names := fun y pv e => let ⟨v, a, b⟩ := x.names y pv e; ⟨v, a.keep fun b _ => k.slt b, k.rel b⟩
  cells := fun y c e => let ⟨v, hv⟩ := x.cells y c e; ⟨v, (k.slt _).cell hv⟩
  apart := x.apart
  off := x.off
  low := fun b hb => let ⟨o, ho, z⟩ := x.low b hb; ⟨o, k b o ho, z⟩
  fresh := x.fresh
  have_ := x.have_
theorem FrOk.ka {b0 : Heap} (x : FrOk b0 L h fs) (k : KA h h') : FrOk b0 L h' fs := by
  have := x.keep (T := []) (h' := h') (fun _ q => by simp [ownT] at q) fun F o e d _ => ⟨o, k F o e, d⟩
  rwa [Lo.append_nil] at this
/-- everything stays: the state is the state -/
theorem St.ka (x : St W q fs L σ h) (k : KA h h') : St W q fs L σ h' :=
  ⟨fun b o e => k b o (x.base b o e), x.offb, x.lay.ka k, x.fr.ka k⟩
/-- an expression's turn keeps the frame -/
theorem EnvRel.aft {L' : Lo} (x : EnvRel W q env ρ L h) (k : Aft [] L h L' h') : EnvRel W q env ρ L' h' where
  kind := x.kind
  globals := x.globals
  builtins := x.builtins
  ns := let ⟨m, hm⟩ := x.ns; ⟨m, (k.keeps _ (x.off _ (List.mem_cons_self ..)) (fun z => by cases z)).ns hm⟩
  names := fun y pv e => let ⟨v, a, b⟩ := x.names y pv e; ⟨v, a.keep fun b hb => k.keeps b (x.off b hb) (fun z => by cases z), k.rel (.nil h) (fun _ => rfl) b⟩
  cells := fun y c e => let ⟨v, hv⟩ := x.cells y c e; ⟨v, (k.keeps c (x.off c (cell_mem e)) (fun z => by cases z)).cell hv⟩
  apart := x.apart
  off := fun b hb => by
    obtain ⟨⟨T, rfl, hT⟩, _⟩ := k
    obtain ⟨o, ho, _⟩ := x.low b hb
    exact own_pre (x.off b hb) hT ho
  low := fun b hb => by
    obtain ⟨o, ho, z⟩ := x.low b hb
    obtain ⟨sl, e, _⟩ := k.keeps b (x.off b hb) (fun z => by cases z) o ho
    exact ⟨_, e, z⟩
  fresh := x.fresh
  have_ := x.have_
theorem FrOk.aft {b0 : Heap} {L' : Lo} (x : FrOk b0 L h fs) (k : Aft [] L h L' h') : FrOk b0 L' h' fs := by
  have kk := k.keeps
  obtain ⟨⟨T, rfl, hT⟩, _⟩ := k
  exact x.keep hT fun F o e d hF => by
    obtain ⟨sl, e', _⟩ := kk F hF (fun z => by cases z) o e
    exact ⟨_, e', d⟩
end
theorem Aft.trans {W : Wd} {q : Bool} {σ₁ : Store} {fa : List Addr} {L L₁ L₂ : Lo} {h h₁ h₂ : Heap} (x : Aft fa L h L₁ h₁) (y : Aft fa L₁ h₁ L₂ h₂) (l : Lay W q L₁ σ₁ h₁) (hfa : ∀ b ∈ fa, ∃ o, h₁.get? b = some o) : Aft fa L h L₂ h₂ := by
  obtain ⟨⟨T, rfl, hT⟩, k⟩ := x
  obtain ⟨⟨T', rfl, hT'⟩, k'⟩ := y
  refine ⟨⟨T ++ T', by rw [Lo.append_assoc], fun a ha => ?_⟩, fun b hb hf o e => ?_⟩
  · rw [show ownT (T ++ T') = ownT T ++ ownT T' by simp [ownT], List.mem_append] at ha
    rcases ha with ha | ha
    · exact hT a ha
    · have h1 := hT' a ha
      cases e : h.get? a with
      | none => rfl
      | some o =>
        exfalso
        by_cases ho : a ∈ own (L.add T)
        · obtain ⟨o', e'⟩ := l.live ho
          rw [h1] at e'; cases e'
        · rw [own_append, List.mem_append, not_or] at ho
          by_cases hf : a ∈ fa
          · obtain ⟨o', e'⟩ := hfa a hf
            rw [h1] at e'; cases e'
          · obtain ⟨sl, e', _⟩ := k a (fun z => ho.1 (List.mem_append_right _ z)) hf o e
            rw [h1] at e'; cases e'
  · exact ((k b hb hf).trans (k' b (own_preT hb hT e) hf)) o e
end Mine
end
/-! M4: an exception in flight, and how a frame notes it -/
section
set_option autoImplicit false
namespace Mine
open PySem PySem.W PyProof.Rows

/-- an exception of the text's own, made since h0; m: some frame has noted it -/
structure ExcAt (W : Wd) (h0 : Heap) (L : Lo) (h : Heap) (e : Addr) (x : PX) (m : Bool) : Prop where
  new : h0.get? e = none
  offb : W.b0.get? e = none
  off : e ∉ own L
  obj : ∃ vs d, h.get? e = some { cls := .ref (W.cls x.cls), dict := some d, data := .fields vs } ∧ 1 < vs.size ∧
    ((m = false ∧ vs[1]? = some .none) ∨ ∃ T ts oT, vs[1]? = some (.ref T) ∧ T ≠ e ∧ h0.get? T = none ∧ W.b0.get? T = none ∧ T ∉ own L ∧ h.get? T = some oT ∧ oT.cls = .type "traceback" ∧ oT.data = .fields ts ∧ 3 < ts.size) ∧
    h0.get? d = none ∧ d ∉ own L ∧ W.b0.get? d = none ∧
    ∀ i, x.spot = some i → W.cls x.cls = textFaultA ∧ ∃ od es n t, h.get? d = some od ∧ od.cls = .type "dict" ∧ od.data = .dict (List.toArray es) n ∧ getL spotStr es = some (some (.int i t))

/-- what the noting of e may turn: e, its traceback's head, the frames' slots -/
structure Nt (fs : List Env) (e : Addr) (h h' : Heap) : Prop where
  keep : ∀ b o, h.get? b = some o → b ≠ e → (∀ oe vs, h.get? e = some oe → oe.data = .fields vs → vs[1]? ≠ some (.ref b)) → b ∉ fs.filterMap (·.frame) → h'.get? b = some o
  frame : ∀ b o, h.get? b = some o → b ≠ e → (∀ oe vs, h.get? e = some oe → oe.data = .fields vs → vs[1]? ≠ some (.ref b)) → ∃ sl, h'.get? b = some { o with slots := sl } 

theorem FrOk.notFields {b0 : Heap} {L : Lo} {h : Heap} {fs : List Env} (fr : FrOk b0 L h fs) {b : Addr} (hb : b ∈ fs.filterMap (·.frame)) : (∃ o, h.get? b = some o ∧ ∃ es n, o.data = .dict es n) ∧ b0.get? b = none ∧ b ∉ own L := by
  obtain ⟨env, he, hF⟩ := List.mem_filterMap.mp hb
  obtain ⟨hk, F, o, h1, h2, h3, h4, h5⟩ := fr env he
  rw [h1] at hF
  obtain rfl := Option.some.inj hF
  exact ⟨⟨o, h4, h5⟩, h2, h3⟩

section
variable {M : Model} {A : Around} {E : Value → Shared → Prop} {s : Shared}
theorem frameOf_at {base : Heap} {env e0 : Env} {rest : List Env} {F : Addr} {Q : Value → Shared → Prop} (hfr : A.frames = some (e0 :: rest)) (he : e0.frame = env.frame) (hl : s.heap.FunFrames base (e0 :: rest))
    (hf : env.frame = some F) (h : ∀ h', Heap.SlotsOnly ((e0 :: rest).filterMap (·.frame)) s.heap h' → Q (.ref F) { s with heap := h' }) : wpAny M A (PySem.frameOf env) Q E s := by
  unfold PySem.frameOf
  refine wpAny_bind (wpAny_frameEnvs hfr ?_)
  have hdw : ((e0 :: rest).dropWhile fun x => x.frame != env.frame) = e0 :: rest := by simp [List.dropWhile, he]
  rw [hdw]
  unfold frameObject
  refine wpAny_bind (wpAny_bind (wpAny_readyFrames_fun hl fun h₁ hs₁ => wpAny_pure ?_))
  rw [he, hf]
  exact wpAny_pure (h h₁ hs₁)
end

theorem Obj.mapFields_is {c : Value} {d : Option Addr} {vs : Array Value} (f : Array Value → Array Value) : Obj.mapFields f { cls := c, dict := d, data := .fields vs } = { cls := c, dict := d, data := .fields (f vs) } := rfl

section
variable {M : Model} {A : Around} {E : Value → Shared → Prop} {s : Shared} {W : Wd}
/-- the new entry is laid ahead of the head -/
theorem entry_ok {env e0 : Env} {rest : List Env} {F : Addr} {h0 : Heap} {L : Lo} {e : Addr} {x : PX} {m : Bool} {head : Value} {hadNext : Bool} {Q : Unit → Shared → Prop}
    (hA : A.frames = some (e0 :: rest)) (he : e0.frame = env.frame) (hF : env.frame = some F) (fr : FrOk W.b0 L s.heap (e0 :: rest)) (hb : W.b0.StaysIn s.heap)
    (hz : ∀ b o, h0.get? b = some o → ∃ o', s.heap.get? b = some o') (hl : ∀ a ∈ own L, ∃ o, s.heap.get? a = some o) (X : ExcAt W h0 L s.heap e x m)
    (h : ∀ h', Nt (e0 :: rest) e s.heap h' → ExcAt W h0 L h' e x true → Q () { s with heap := h' }) :
    wpAny M A (do let a ← PySem.frameOf env; let pl ← entryPlaceOf F hadNext; let b ← EntryCells.newEntry head a .none (rawInt F) .none pl; setField (.ref e) 1 b) Q E s := by
  obtain ⟨x1, x2, x3, vs, d, ho, hsz, htb, hd1, hd2, hd3, hsp⟩ := X
  have hene : e ∉ (e0 :: rest).filterMap (·.frame) := fun hm => by
    obtain ⟨⟨o, q, es, n, w⟩, _⟩ := fr.notFields hm
    rw [ho] at q; cases q; cases w
  refine wpAny_bind (frameOf_at hA he fr.fun hF fun h₁ hs₁ => ?_)
  refine wpAny_bind (wpAny_entryPlaceOf fun pl hpl => ?_)
  unfold EntryCells.newEntry newFields
  refine wpAny_bind (wpAny_newObj_type ?_ (hpl.sizeOk5 _ _ _ _ _))
  have he₁ : h₁.get? e = some _ := (hs₁.2.1 e hene).trans ho
  have he₂ := Heap.get?_push_of_some (h := h₁) { cls := .type "traceback", dict := none, data := .fields ([head, .ref F, .none, rawInt F, .none] ++ (if pl.isEmpty then List.replicate 6 Value.none else pl)).toArray } he₁
  refine wpAny_setField he₂ rfl hsz ?_
  have hT0 : s.heap.get? h₁.objs.size = none := by rw [hs₁.1]; exact fresh_none _
  have hTe : h₁.objs.size ≠ e := fun q => by rw [q, ho] at hT0; cases hT0
  have keep : ∀ b o, b ≠ e → h₁.get? b = some o →
      ((h₁.push { cls := .type "traceback", dict := none, data := .fields ([head, .ref F, .none, rawInt F, .none] ++ (if pl.isEmpty then List.replicate 6 Value.none else pl)).toArray }).update e (Obj.mapFields (·.setIfInBounds 1 (Value.ref h₁.objs.size)))).get? b = some o := fun b o hbe hb => by
    rw [Heap.get?_update_other _ _ (Ne.symm hbe)]
    exact Heap.get?_push_of_some _ hb
  have frm : ∀ b o, s.heap.get? b = some o → b ≠ e → ∃ sl, ((h₁.push { cls := .type "traceback", dict := none, data := .fields ([head, .ref F, .none, rawInt F, .none] ++ (if pl.isEmpty then List.replicate 6 Value.none else pl)).toArray }).update e (Obj.mapFields (·.setIfInBounds 1 (Value.ref h₁.objs.size)))).get? b = some { o with slots := sl } := fun b o hbo hbe => by
    obtain ⟨sl, q⟩ := hs₁.2.2 b o hbo
    exact ⟨sl, keep b _ hbe q⟩
  refine h _ ⟨fun b o hbo hbe _ hbf => ?_, fun b o hbo hbe _ => frm b o hbo hbe⟩ ⟨x1, x2, x3, ?_⟩
  · have q := (hs₁.2.1 b hbf).trans hbo
    exact keep b o hbe q
  · refine ⟨_, d, (Heap.get?_update_self _ he₂ (Obj.isFreed_of_fields (Obj.data_mapFields rfl _))).trans (by rw [Obj.mapFields_is]), ?_, .inr ⟨h₁.objs.size, ([head, .ref F, .none, rawInt F, .none] ++ (if pl.isEmpty then List.replicate 6 Value.none else pl)).toArray, { cls := .type "traceback", dict := none, data := .fields ([head, .ref F, .none, rawInt F, .none] ++ (if pl.isEmpty then List.replicate 6 Value.none else pl)).toArray }, ?_, hTe, ?_, ?_, ?_, ?_, rfl, rfl, ?_⟩, hd1, hd2, hd3, ?_⟩
    · simpa using hsz
    · simp [hsz]
    · cases q : h0.get? h₁.objs.size with
      | none => rfl
      | some o => obtain ⟨o', q'⟩ := hz _ _ q; rw [hT0] at q'; cases q'
    · cases q : W.b0.get? h₁.objs.size with
      | none => rfl
      | some o => have q' := hb _ _ q; rw [hT0] at q'; cases q'
    · intro q
      obtain ⟨o', q'⟩ := hl _ q
      rw [hT0] at q'; cases q'
    · rw [Heap.get?_update_other _ _ (Ne.symm hTe)]
      exact Heap.get?_push_size h₁ rfl
    · simp only [List.size_toArray, List.length_append, List.length_cons, List.length_nil]; (clear hTe hene hd2 htb hsz x3; lia)
    · intro i hi
      obtain ⟨hc, od', es, n, t, g1, g2, g3, g4⟩ := hsp i hi
      refine ⟨hc, ?_⟩
      have q : d ≠ e := fun q => by rw [q, ho] at g1; cases g1; cases g3
      obtain ⟨sl, q'⟩ := frm d od' g1 q
      exact ⟨_, es, n, t, q', g2, g3, g4⟩
end

theorem Nt.trans {fs : List Env} {e : Addr} {h h₁ h₂ : Heap} (x : Nt fs e h h₁) (y : Nt fs e h₁ h₂) (hs : ∀ oe vs, h.get? e = some oe → oe.data = .fields vs → h₁.get? e = some oe) (hex : ∃ oe vs, h.get? e = some oe ∧ oe.data = .fields vs) : Nt fs e h h₂ := by
  obtain ⟨oe, vs, e1, e2⟩ := hex
  have e3 := hs oe vs e1 e2
  refine ⟨fun b o hb hne hT hf => y.keep b o (x.keep b o hb hne hT hf) hne (fun oe' vs' q1 q2 => ?_) hf, fun b o hb hne hT => ?_⟩
  · rw [e3] at q1; cases q1
    rw [e2] at q2; cases q2
    exact hT oe vs e1 e2
  · obtain ⟨sl, q⟩ := x.frame b o hb hne hT
    obtain ⟨sl', q'⟩ := y.frame b _ q hne (fun oe' vs' q1 q2 => by
      rw [e3] at q1; cases q1
      rw [e2] at q2; cases q2
      exact hT oe vs e1 e2)
    exact ⟨sl', q'⟩
theorem Nt.refl (fs : List Env) (e : Addr) (h : Heap) : Nt fs e h h := ⟨fun _ _ hb _ _ _ => hb, fun _ o hb _ _ => ⟨o.slots, hb⟩⟩

section
variable {M : Model} {A : Around} {E : Value → Shared → Prop} {s : Shared} {W : Wd}
/-- the head of the traceback is turned at its fourth place -/
theorem touch_ok {fs : List Env} {h0 : Heap} {L : Lo} {e T : Addr} {x : PX} {m : Bool} {v : Value} {oe : Obj} {vs : Array Value} {Q : Unit → Shared → Prop} (X : ExcAt W h0 L s.heap e x m) (ho : s.heap.get? e = some oe) (hd : oe.data = .fields vs) (hv : vs[1]? = some (.ref T))
    (h : ∀ h', Nt fs e s.heap h' → ExcAt W h0 L h' e x m → h'.get? e = s.heap.get? e → Q () { s with heap := h' }) : wpAny M A (setField (.ref T) 3 v) Q E s := by
  obtain ⟨x1, x2, x3, vs', d, ho', hsz, htb, hd1, hd2, hd3, hsp⟩ := X
  rw [ho'] at ho
  obtain rfl := Option.some.inj ho
  obtain rfl : vs' = vs := by cases hd; rfl
  rcases htb with ⟨_, q⟩ | ⟨T', ts, oT, q, t1, t2, t3, t4, t5, t6, t7, t8⟩
  · rw [hv] at q; cases q
  rw [hv] at q
  obtain rfl : T = T' := by injection q with q; injection q
  refine wpAny_setField t5 t7 t8 ?_
  have oth : ∀ b, b ≠ T → (s.heap.update T (Obj.mapFields (·.setIfInBounds 3 v))).get? b = s.heap.get? b := fun b hb => Heap.get?_update_other _ _ (Ne.symm hb)
  have hT' : (s.heap.update T (Obj.mapFields (·.setIfInBounds 3 v))).get? T = some (Obj.mapFields (·.setIfInBounds 3 v) oT) := Heap.get?_update_self _ t5 (Obj.isFreed_of_fields (Obj.data_mapFields t7 _))
  have nT : ∀ b, (∀ oe vs, s.heap.get? e = some oe → oe.data = .fields vs → vs[1]? ≠ some (.ref b)) → b ≠ T := fun b hb z => hb _ _ ho' rfl (z ▸ hv)
  refine h _ ⟨fun b o hb _ hT _ => (oth b (nT b hT)).trans hb, fun b o hb _ hT => ⟨o.slots, (oth b (nT b hT)).trans hb⟩⟩ ⟨x1, x2, x3, vs', d, (oth e (Ne.symm t1)).trans ho', hsz, .inr ⟨T, _, _, hv, t1, t2, t3, t4, hT', (Obj.cls_mapFields _ _).trans t6, Obj.data_mapFields t7 _, by simpa using t8⟩, hd1, hd2, hd3, fun i hi => ?_⟩ (oth e (Ne.symm t1))
  · obtain ⟨hc, od', es, n, t, g1, g2, g3, g4⟩ := hsp i hi
    refine ⟨hc, od', es, n, t, (oth d fun z => ?_).trans g1, g2, g3, g4⟩
    rw [z, t5] at g1; cases g1
    rw [t7] at g3; cases g3
theorem ExcAt.tb {h0 : Heap} {L : Lo} {h : Heap} {e : Addr} {x : PX} {m : Bool} (X : ExcAt W h0 L h e x m) : ∃ oe vs v, h.get? e = some oe ∧ oe.data = .fields vs ∧ vs[1]? = some v ∧ ((m = false ∧ v = .none) ∨ ∃ T, v = .ref T) := by
  obtain ⟨x1, x2, x3, vs, d, ho, hsz, htb, _⟩ := X
  rcases htb with ⟨q, q'⟩ | ⟨T, ts, oT, q, _⟩
  · exact ⟨_, vs, .none, ho, rfl, q', .inl ⟨q, rfl⟩⟩
  · exact ⟨_, vs, .ref T, ho, rfl, q, .inr ⟨T, rfl⟩⟩
theorem flight_ok {fs : List Env} {h0 : Heap} {L : Lo} {e : Addr} {x : PX} {m : Bool} {fr : Option Addr} {Q : Unit → Shared → Prop} (X : ExcAt W h0 L s.heap e x m)
    (h : ∀ h', Nt fs e s.heap h' → ExcAt W h0 L h' e x m → Q () { s with heap := h' }) : wpAny M A (setFlight (.ref e) fr) Q E s := by
  obtain ⟨oe, vs, v, ho, hd, hv, z⟩ := X.tb
  unfold setFlight
  refine wpAny_bind (wpAny_field ho hd hv ?_)
  rcases z with ⟨_, rfl⟩ | ⟨T, rfl⟩
  · rw [if_neg (by simp)]
    exact wpAny_pure (h s.heap (.refl ..) X)
  · rw [if_pos (by simp)]
    exact touch_ok X ho hd hv fun h' n X' _ => h h' n X'
theorem note_ok {env e0 : Env} {rest : List Env} {F : Addr} {h0 : Heap} {L : Lo} {e : Addr} {x : PX} {m : Bool} {Q : Unit → Shared → Prop}
    (hA : A.frames = some (e0 :: rest)) (he : e0.frame = env.frame) (hF : env.frame = some F) (fr : FrOk W.b0 L s.heap (e0 :: rest)) (hb : W.b0.StaysIn s.heap)
    (hz : ∀ b o, h0.get? b = some o → ∃ o', s.heap.get? b = some o') (hl : ∀ a ∈ own L, ∃ o, s.heap.get? a = some o) (X : ExcAt W h0 L s.heap e x m)
    (h : ∀ h', Nt (e0 :: rest) e s.heap h' → ExcAt W h0 L h' e x true → Q () { s with heap := h' }) : wpAny M A (noteFrame (.ref e) env) Q E s := by
  obtain ⟨oe, vs, v, ho, hd, hv, z⟩ := X.tb
  unfold noteFrame
  rw [hF]
  refine wpAny_bind (wpAny_field ho hd hv ?_)
  rcases z with ⟨_, rfl⟩ | ⟨T, rfl⟩
  · have e1 : (Value.none != Value.none) = false := by decide
    simp only [e1, Bool.false_eq_true, if_false]
    exact entry_ok hA he hF fr hb hz hl X h
  · have e1 : (Value.ref T != Value.none) = true := by simp
    simp only [e1, if_true]
    have X0 := X
    obtain ⟨x1, x2, x3, vs', d, ho', hsz, htb, hd1, hd2, hd3, hsp⟩ := X0
    rw [ho'] at ho
    obtain rfl := Option.some.inj ho
    obtain rfl : vs' = vs := by cases hd; rfl
    rcases htb with ⟨_, q⟩ | ⟨T', ts, oT, q, t1, t2, t3, t4, t5, t6, t7, t8⟩
    · rw [hv] at q; cases q
    rw [hv] at q
    obtain rfl : T = T' := by injection q with q; injection q
    refine wpAny_bind (wpAny_field t5 t7 (Array.getElem?_eq_getElem t8) ?_)
    split
    · exact wpAny_pure (h s.heap (.refl ..) ⟨x1, x2, x3, vs', d, ho', hsz, .inr ⟨T, ts, oT, hv, t1, t2, t3, t4, t5, t6, t7, t8⟩, hd1, hd2, hd3, hsp⟩)
    · refine wpAny_bind (touch_ok (fs := e0 :: rest) X ho' rfl hv fun h₁ n₁ X₁ e₁ => ?_)
      have nF : ∀ b, (∃ o, s.heap.get? b = some o ∧ ∃ es n, o.data = .dict es n) → b ≠ e ∧ ∀ oe vs, s.heap.get? e = some oe → oe.data = .fields vs → vs[1]? ≠ some (.ref b) := fun b ⟨o, hb, es, n, hdd⟩ => by
        refine ⟨fun z => ?_, fun oe vs q1 q2 q3 => ?_⟩
        · rw [z, ho'] at hb; cases hb; cases hdd
        · rw [ho'] at q1; cases q1
          cases q2
          rw [hv] at q3
          obtain rfl : T = b := by injection q3 with q; injection q
          rw [t5] at hb; cases hb
          rw [t7] at hdd; cases hdd
      have nB : ∀ b o, (∀ a, W.b0.get? a = some o → True) → s.heap.get? b = some o → b ≠ e → b ≠ T → h₁.get? b = some o ∨ b ∈ (e0 :: rest).filterMap (·.frame) := fun b o _ hb h1 h2 => by
        by_cases hf : b ∈ (e0 :: rest).filterMap (·.frame)
        · exact .inr hf
        · refine .inl (n₁.keep b o hb h1 (fun oe vs q1 q2 q3 => ?_) hf)
          rw [ho'] at q1; cases q1
          cases q2
          rw [hv] at q3
          exact h2 (by injection q3 with q; injection q with q; exact q.symm)
      have ex : ∀ b o, s.heap.get? b = some o → ∃ o', h₁.get? b = some o' := fun b o hb => by
        by_cases h1 : b = e
        · exact ⟨_, h1 ▸ e₁.trans ho'⟩
        · by_cases h2 : b = T
          · obtain ⟨y1, y2, y3, vs2, d2, yo, _, ytb, _⟩ := X₁
            rw [e₁, ho'] at yo; cases yo
            rcases ytb with ⟨_, q⟩ | ⟨T2, _, oT2, q, _, _, _, _, w, _⟩
            · rw [hv] at q; cases q
            · rw [hv] at q
              obtain rfl : T = T2 := by injection q with q; injection q
              exact ⟨_, h2 ▸ w⟩
          · obtain ⟨sl, q⟩ := n₁.frame b o hb h1 (fun oe vs q1 q2 q3 => by
              rw [ho'] at q1; cases q1
              cases q2
              rw [hv] at q3
              exact h2 (by injection q3 with q; injection q with q; exact q.symm))
            exact ⟨_, q⟩
      refine entry_ok (s := { s with heap := h₁ }) hA he hF ?_ ?_ ?_ ?_ X₁ fun h' n' X' => h h' (n₁.trans n' (fun oe vs q1 _ => e₁.trans q1) ⟨_, _, ho', rfl⟩) X'
      · have := fr.keep (T := []) (h' := h₁) (fun _ q => by simp [ownT] at q) fun F o q1 q2 q3 => by
          obtain ⟨a, b⟩ := nF F ⟨o, q1, q2⟩
          obtain ⟨sl, q⟩ := n₁.frame F o q1 a b
          exact ⟨_, q, q2⟩
        rwa [Lo.append_nil] at this
      · intro b o hbo
        have q := hb b o hbo
        have h1 : b ≠ e := fun z => by rw [z, x2] at hbo; cases hbo
        have h2 : b ≠ T := fun z => by rw [z, t3] at hbo; cases hbo
        rcases nB b o (fun _ _ => trivial) q h1 h2 with r | r
        · exact r
        · rw [(fr.notFields r).2.1] at hbo; cases hbo
      · intro b o hbo
        obtain ⟨o', q⟩ := hz b o hbo
        exact ex b o' q
      · intro a ha
        obtain ⟨o, q⟩ := hl a ha
        exact ex a o q
end
end Mine
end
/-! M5: the operators and built-ins, each upon values that plain values tell -/
section
set_option autoImplicit false
namespace Mine
open PySem PySem.W PyProof.Rows

/-- what a step that keeps all hands on -/
abbrev Kp (q : Bool) (L : Lo) (s : Shared) (p : PV) (Q : Value → Shared → Prop) : Prop := ∀ v h' tk, KA s.heap h' → RelV q L h' v p → Q v { s with heap := h', toks := tk }

theorem strAppend (x y : List Nat) : (⟨x.toArray⟩ : Str) ++ ⟨y.toArray⟩ = ⟨(x ++ y).toArray⟩ := by
  apply Str.ext'
  simp [Str.cps_append]
theorem strLen (x : List Nat) : (⟨x.toArray⟩ : Str).length = x.length := by simp [Str.length]
theorem own_fresh {W : Wd} {q : Bool} {L : Lo} {σ : Store} {h : Heap} (l : Lay W q L σ h) : h.objs.size ∉ own L := fun m => by
  obtain ⟨o, e⟩ := l.live m
  rw [fresh_none] at e; cases e

theorem foldlAppend (c : Nat) : ∀ (n : Nat) (acc : Array Nat), (List.replicate n #[c]).foldl (· ++ ·) acc = acc ++ (List.replicate n c).toArray
  | 0, acc => by simp
  | n + 1, acc => by
    rw [List.replicate_succ, List.foldl_cons, foldlAppend c n]
    apply Array.ext'
    simp [List.replicate_succ]
theorem mulText (c : Nat) {y : Int} (hy : 0 ≤ y) : Txt.mul ⟨[c].toArray⟩ y = ⟨(List.replicate y.toNat c).toArray⟩ := by
  unfold Txt.mul
  split
  · have : y.toNat = 0 := by (clear hy; lia)
    rw [this]; rfl
  · split
    · rename_i h1 h2
      have h3 : y = 1 := by simpa [Str.length] using h2
      subst h3; rfl
    · rw [foldlAppend]
      simp

section
variable {α β : Type} {v : PV} {r : α}
theorem onBool_inv {v : PV} {f : Bool → Option α} (h : onBool v f = some r) : ∃ x, v = .bool x ∧ f x = some r := by
  cases v <;> first | exact ⟨_, rfl, h⟩ | cases h
theorem onInt_inv {f : Int → Option α} (h : onInt v f = some r) : ∃ x, v = .int x ∧ f x = some r := by
  cases v <;> first | exact ⟨_, rfl, h⟩ | cases h
theorem onStr_inv {f : List Nat → Option α} (h : onStr v f = some r) : ∃ x, v = .str x ∧ f x = some r := by
  cases v <;> first | exact ⟨_, rfl, h⟩ | cases h
theorem onTup_inv {f : List PV → Option α} (h : onTup v f = some r) : ∃ x, v = .tup x ∧ f x = some r := by
  cases v <;> first | exact ⟨_, rfl, h⟩ | cases h
theorem onLst_inv {f : List PV → Option α} (h : onLst v f = some r) : ∃ x, v = .lst x ∧ f x = some r := by
  cases v <;> first | exact ⟨_, rfl, h⟩ | cases h
theorem onNo_inv {o : Option α} (h : onNo v o = some r) : v = .none ∧ o = some r := by
  cases v <;> first | exact ⟨rfl, h⟩ | cases h
theorem onOne_inv {l : List β} {f : β → Option α} (h : onOne l f = some r) : ∃ x, l = [x] ∧ f x = some r := by
  rcases l with _ | ⟨x, _ | ⟨y, l⟩⟩
  · cases h
  · exact ⟨x, rfl, h⟩
  · cases h
theorem inLst_inv {σ : Store} {k : Nat} {f : List PV → Option α} (h : inLst σ k f = some r) : ∃ l, σ[k]? = some (.lst l) ∧ f l = some r := by
  unfold inLst at h
  generalize σ[k]? = o at h ⊢
  rcases o with _ | (l | _ | _)
  · cases h
  · exact ⟨l, rfl, h⟩
  · cases h
  · cases h
theorem if_inv {c : Prop} [Decidable c] {o : Option α} (h : (if c then o else none) = some r) : c ∧ o = some r := by
  by_cases z : c
  · rw [if_pos z] at h
    exact ⟨z, h⟩
  · rw [if_neg z] at h
    cases h
end
section
variable {q : Bool} {L : Lo} {h : Heap} {vs : List Value} {a b : PV}
theorem rels_one (x : RelVs q L h vs [a]) : ∃ v, vs = [v] ∧ RelV q L h v a := by
  rcases vs with _ | ⟨v, _ | ⟨u, vs⟩⟩
  · simp [RelVs] at x
  · exact ⟨v, rfl, by simpa only [RelVs, and_true] using x⟩
  · simp [RelVs] at x
theorem rels_two (x : RelVs q L h vs [a, b]) : ∃ v u, vs = [v, u] ∧ RelV q L h v a ∧ RelV q L h u b := by
  rcases vs with _ | ⟨v, vs⟩
  · simp [RelVs] at x
  · rw [RelVs] at x
    obtain ⟨u, rfl, hu⟩ := rels_one x.2
    exact ⟨v, u, rfl, x.1, hu⟩
end
theorem eqvs_all {f : PV → PV → Option Bool} : ∀ {as bs : List PV} {r : Bool}, eqvs f as bs = some r → ∃ e : Nat → Bool, (∀ j a b, as[j]? = some a → bs[j]? = some b → f a b = some (e j)) ∧ r = ((List.range (min as.length bs.length)).all e && as.length == bs.length)
  | [], [], r, h => by
    simp only [eqvs, Option.some.injEq] at h
    subst h
    exact ⟨fun _ => true, by simp, by simp⟩
  | [], b :: bs, r, h => by
    simp only [eqvs, Option.some.injEq] at h
    subst h
    exact ⟨fun _ => true, by simp, by simp⟩
  | a :: as, [], r, h => by
    simp only [eqvs, Option.some.injEq] at h
    subst h
    exact ⟨fun _ => true, by simp, by simp⟩
  | a :: as, b :: bs, r, h => by
    simp only [eqvs] at h
    split at h
    · cases h
    · rename_i e0 h0
      split at h
      · cases h
      · rename_i es hs
        cases h
        obtain ⟨e, h1, h2⟩ := eqvs_all hs
        refine ⟨fun j => match j with | 0 => e0 | j + 1 => e j, fun j x y hx hy => ?_, ?_⟩
        · cases j with
          | zero =>
            simp only [List.getElem?_cons_zero, Option.some.injEq] at hx hy
            subst hx hy
            exact h0
          | succ j =>
            simp only [List.getElem?_cons_succ] at hx hy
            exact h1 j x y hx hy
        · rw [h2]
          simp only [List.length_cons, Nat.succ_min_succ, Nat.add_min_add_right, List.range_succ_eq_map, List.all_cons, List.all_map, Bool.and_assoc]
          congr 1
          congr 1
          simp [Nat.succ_inj]
/-- one object is told by two plain values: they are equal, where that is known -/
theorem eqv_same : ∀ (n : Nat) {q : Bool} {L : Lo} {h : Heap} {v : Value} {a b : PV} {r : Bool}, RelV q L h v a → RelV q L h v b → eqvN n a b = some r → r = true := by
  intro n
  induction n with
  | zero => intro q L h v a b r _ _ e; cases e
  | succ n ih =>
    intro q L h v a b r ra rb e
    cases a with
    | none =>
      obtain ⟨_, e1⟩ := onNo_inv e
      cases e1; rfl
    | bool x =>
      obtain ⟨y, rfl, e1⟩ := onBool_inv e
      cases e1
      have h1 : v = .bool x := ra
      have h2 : v = .bool y := rb
      rw [h1] at h2; cases h2; simp
    | int x =>
      obtain ⟨y, rfl, e1⟩ := onInt_inv e
      cases e1
      obtain ⟨t, h1⟩ := ra
      obtain ⟨u, h2⟩ := rb
      rw [h1] at h2; cases h2; simp
    | str x =>
      obtain ⟨y, rfl, e1⟩ := onStr_inv e
      cases e1
      obtain ⟨t, h1⟩ := ra
      obtain ⟨u, h2⟩ := rb
      rw [h1] at h2
      injection h2 with h2 h3
      injection h2 with h2
      have := congrArg Array.toList h2
      simp only [List.toList_toArray] at this
      subst this; simp
    | tup x =>
      obtain ⟨y, rfl, e1⟩ := onTup_inv e
      simp only [RelV] at ra rb
      obtain ⟨t, vs, rfl, _, ht, hl⟩ := ra
      obtain ⟨u, ws, h2, _, hu, hl2⟩ := rb
      cases h2
      obtain ⟨o, ho, _, m, hd⟩ := ht
      obtain ⟨o', ho', _, m', hd'⟩ := hu
      rw [ho] at ho'; cases ho'
      rw [hd] at hd'; cases hd'
      obtain ⟨f, h1, rfl⟩ := eqvs_all e1
      have hlen := hl.length.symm.trans hl2.length
      rw [hlen, Nat.min_self, Bool.and_eq_true]
      refine ⟨List.all_eq_true.mpr fun j hj => ?_, by simp⟩
      rw [List.mem_range] at hj
      obtain ⟨va, e1, r1⟩ := hl.get (List.getElem?_eq_getElem (by rw [hlen]; exact hj))
      obtain ⟨vb, e2, r2⟩ := hl2.get (List.getElem?_eq_getElem hj)
      rw [e1] at e2; cases e2
      exact ih r1 r2 (h1 j _ _ (List.getElem?_eq_getElem (by rw [hlen]; exact hj)) (List.getElem?_eq_getElem hj))
    | _ => cases e
theorem strEq (x y : List Nat) : ((⟨x.toArray⟩ : Str) == ⟨y.toArray⟩) = (x == y) := by
  rw [Bool.eq_iff_iff]
  simp
open SeqAt in
theorem eqv_at : ∀ (n : Nat) {A : Around} {s : Shared} {q : Bool} {L : Lo} {va vb : Value} {a b : PV} {r : Bool}, RelV q L s.heap va a → RelV q L s.heap vb b → eqvN n a b = some r → A.units + n < cLine →
    RcAt A s va vb r ∧ EqAt A s va vb r ∧ RcNeAt A s va vb (!r) := by
  intro n
  induction n with
  | zero => intro A s q L va vb a b r _ _ e; cases e
  | succ n ih =>
    intro A s q L va vb a b r ra rb e hu
    have ra0 := ra
    have rb0 := rb
    have e0 := e
    cases a with
    | none =>
      obtain ⟨rfl, e1⟩ := onNo_inv e
      cases e1
      have h1 : va = .none := ra
      have h2 : vb = .none := rb
      subst h1 h2
      exact ⟨RcAt.none_none, EqAt.same _, RcNeAt.none_none⟩
    | bool x =>
      obtain ⟨y, rfl, e1⟩ := onBool_inv e
      cases e1
      have h1 : va = .bool _ := ra
      have h2 : vb = .bool _ := rb
      subst h1 h2
      exact ⟨RcAt.bool_bool _ _, EqAt.bool_bool _ _, RcNeAt.bool_bool _ _⟩
    | int x =>
      obtain ⟨y, rfl, e1⟩ := onInt_inv e
      cases e1
      obtain ⟨t, rfl⟩ := ra
      obtain ⟨u, rfl⟩ := rb
      exact ⟨RcAt.int_int _ _ _ _, EqAt.int_int _ _ _ _, RcNeAt.int_int _ _ _ _⟩
    | str x =>
      obtain ⟨y, rfl, e1⟩ := onStr_inv e
      cases e1
      obtain ⟨t, rfl⟩ := ra
      obtain ⟨u, rfl⟩ := rb
      rw [← strEq]
      exact ⟨RcAt.str_str _ _ _ _, EqAt.str_str _ _ _ _, RcNeAt.str_str _ _ _ _⟩
    | tup as =>
      obtain ⟨bs, rfl, e1⟩ := onTup_inv e
      simp only [RelV] at ra rb
      obtain ⟨t, vs, rfl, _, ht, hl⟩ := ra
      obtain ⟨u, ws, rfl, _, hw, hl2⟩ := rb
      obtain ⟨f, h1, h2⟩ := eqvs_all e1
      have l1 := hl.length
      have l2 := hl2.length
      have he : ∀ j (g1 : j < vs.size) (g2 : j < ws.size), EqAt A.in1 s vs[j] ws[j] (f j) := fun j g1 g2 => by
        have g1' : j < vs.toList.length := by simpa using g1
        have g2' : j < ws.toList.length := by simpa using g2
        obtain ⟨v1, e1, r1⟩ := hl.get (List.getElem?_eq_getElem (by rw [← l1]; exact g1'))
        obtain ⟨v2, e2, r2⟩ := hl2.get (List.getElem?_eq_getElem (by rw [← l2]; exact g2'))
        have q1 : vs[j] = v1 := by simpa [g1] using e1
        have q2 : ws[j] = v2 := by simpa [g2] using e2
        rw [q1, q2]
        exact (ih (A := A.in1) r1 r2 (h1 j _ _ (List.getElem?_eq_getElem (by rw [← l1]; exact g1')) (List.getElem?_eq_getElem (by rw [← l2]; exact g2'))) (by simp only [Around.in1_units]; (clear g2 g1; lia))).2.1
      have l1' : vs.size = as.length := by simpa using l1
      have l2' : ws.size = bs.length := by simpa using l2
      rw [← l1', ← l2'] at h2
      have rc : RcAt A s (.ref t) (.ref u) r := by
        rw [h2]
        exact RcAt.tuples ht hw (by exact Nat.lt_of_le_of_lt (Nat.le_add_right ..) hu) he
      refine ⟨rc, ?_, ?_⟩
      · by_cases htu : t = u
        · subst htu
          rw [eqv_same (n + 1) ra0 rb0 e0]
          exact EqAt.same _
        · exact EqAt.of_refs htu rc
      · rw [h2]
        exact RcNeAt.tuples ht hw (by omega) he
    | _ => cases e

section
variable {prog : Program} {w : World} {A : Around} {E : Value → Shared → Prop} {s : Shared} {W : Wd} {q : Bool} {L : Lo} {σ : Store} {Q : Value → Shared → Prop} {va vb : Value} {a b p : PV}

theorem mulOk_small {x y : Int} (hx : x.natAbs < IB) : IntMulOk x y := by
  unfold IB at hx
  mul_fits

theorem tupAdd_ok {t u : Addr} {vs ws : List Value} (ht : IsTup s.heap t vs.toArray) (hu : IsTup s.heap u ws.toArray) (hsz : vs.length + ws.length ≤ sizeLine)
    (h : ∀ r h', KA s.heap h' → IsTup h' r (vs ++ ws).toArray → (r = t ∨ r = u ∨ r = s.heap.objs.size) → Q (.ref r) { s with heap := h' }) : wpAny (model prog w) A (binaryOp .Add (.ref t) (.ref u)) Q E s := by
  obtain ⟨⟨c1, d1, x1, l1⟩, ho, hc, n, hd⟩ := id ht
  obtain ⟨⟨c2, d2, x2, l2⟩, ho2, hc2, n2, hd2⟩ := id hu
  simp only at hc hd hc2 hd2
  subst hc hd hc2 hd2
  by_cases hv : vs = []
  · refine concat_meets ⟨_, ho, rfl⟩ ⟨_, ho2, rfl⟩ noFill_tuple_add seq_tuple_add PySem.F.slot_tuple_add PySem.F.entry_tuple_add (PySem.F.args_tuple_add_2 _ _)
      (tuple_addW0 t u vs.toArray ws.toArray n n2 d1 d2 l1 l2 (by simp [hv])) ⟨ho, ho2, ?_⟩
    exact h u s.heap (.refl _) (by rw [hv, List.nil_append]; exact hu) (.inr (.inl rfl))
  · by_cases hw : ws = []
    · refine concat_meets ⟨_, ho, rfl⟩ ⟨_, ho2, rfl⟩ noFill_tuple_add seq_tuple_add PySem.F.slot_tuple_add PySem.F.entry_tuple_add (PySem.F.args_tuple_add_2 _ _)
        (tuple_addW1 t u vs.toArray ws.toArray n n2 d1 d2 l1 l2 (by simpa using hv) (by simp [hw])) ⟨ho, ho2, ?_⟩
      exact h t s.heap (.refl _) (by rw [hw, List.append_nil]; exact ht) (.inl rfl)
    · refine concat_meets ⟨_, ho, rfl⟩ ⟨_, ho2, rfl⟩ noFill_tuple_add seq_tuple_add PySem.F.slot_tuple_add PySem.F.entry_tuple_add (PySem.F.args_tuple_add_2 _ _)
        (tuple_addW2 t u vs.toArray ws.toArray n n2 d1 d2 l1 l2 (by simpa using hv) (by simpa using hw) (by rw [List.size_toArray, List.size_toArray]; exact hsz)) ⟨ho, ho2, ?_⟩
      refine h s.heap.objs.size _ (KA.push _ _) ⟨_, Heap.get?_push_size _ rfl, rfl, 0, ?_⟩ (.inr (.inr rfl))
      simp

theorem add_ok (hr : addop a b = some p) (lay : Lay W q L σ s.heap) (ra : RelV q L s.heap va a) (rb : RelV q L s.heap vb b) (h : Kp q L s p Q) : wpAny (model prog w) A (binaryOp .Add va vb) Q E s := by
  cases a with
  | int x =>
    obtain ⟨y, rfl, hr1⟩ := onInt_inv hr
    cases hr1
    obtain ⟨t, rfl⟩ := ra; obtain ⟨u, rfl⟩ := rb
    exact add_int (h _ s.heap _ (.refl _) ⟨_, rfl⟩)
  | str x =>
    obtain ⟨y, rfl, hr1⟩ := onStr_inv hr
    obtain ⟨hz, hr11⟩ := if_inv hr1
    cases hr11
    obtain ⟨t, rfl⟩ := ra; obtain ⟨u, rfl⟩ := rb
    refine add_str (fun t' tk => h _ s.heap tk (.refl _) ⟨t', ?_⟩) (by rw [strLen, strLen, sizeLine_eq]; unfold SZ at hz; exact Nat.le_trans hz (by decide))
    rw [strAppend]
  | tup x =>
    obtain ⟨y, rfl, hr1⟩ := onTup_inv hr
    obtain ⟨hz, hr11⟩ := if_inv hr1
    cases hr11
    simp only [RelV] at ra rb
    obtain ⟨t, vs, rfl, ho, ht, hl⟩ := ra
    obtain ⟨u, ws, rfl, ho2, hu, hl2⟩ := rb
    refine tupAdd_ok (vs := vs.toList) (ws := ws.toList) ht hu ?_ fun r h' k hr11 hr' => h _ h' _ k ?_
    · rw [hl.length, hl2.length, sizeLine_eq]; unfold SZ at hz; exact Nat.le_trans hz (by decide)
    · simp only [RelV]
      refine ⟨r, _, rfl, ?_, hr11, ?_⟩
      · rcases hr' with rfl | rfl | rfl
        · exact ho
        · exact ho2
        · exact own_fresh lay
      · exact (k.rels hl).append (k.rels hl2)
  | _ => cases hr
theorem mulStr_ok {c : Nat} {y : Int} {t u : Tok} (hz : 0 ≤ y ∧ y ≤ SZ) (h : Kp q L s (.str (List.replicate y.toNat c)) Q) : wpAny (model prog w) A (binaryOp .Mult (.str ⟨[c].toArray⟩ t) (.int y u)) Q E s := by
  unfold SZ at hz
  refine SB.mul ⟨?_, ?_, ?_⟩ (fun t' k => h _ s.heap k (.refl _) ⟨t', ?_⟩)
  · rw [decide_eq_false (by lia), decide_eq_false (by omega)]; rfl
  · intro h1 _
    rw [strLen]
    have : (2 ^ 63 - 1 : Int) / y ≥ 1 := by
      have := Int.le_ediv_of_mul_le (c := y) (a := 1) (b := 2 ^ 63 - 1) (by exact Int.not_lt.mp h1) (by (clear h1; lia))
      omega
    simp only [List.length_cons, List.length_nil]
    exact Int.not_lt_of_ge this
  · intro _ _
    rw [strLen]
    unfold Builtin.Str.tooLong
    simp only [List.length_cons, List.length_nil, sizeLine_eq]
    exact decide_eq_false (by omega)
  · rw [mulText c hz.1]
theorem mul_ok (hr : mulop a b = some p) (ra : RelV q L s.heap va a) (rb : RelV q L s.heap vb b) (h : Kp q L s p Q) : wpAny (model prog w) A (binaryOp .Mult va vb) Q E s := by
  cases a with
  | int x =>
    obtain ⟨y, rfl, hr1⟩ := onInt_inv hr
    obtain ⟨hz, hr11⟩ := if_inv hr1
    cases hr11
    obtain ⟨t, rfl⟩ := ra; obtain ⟨u, rfl⟩ := rb
    exact mul_int (h _ s.heap _ (.refl _) ⟨_, rfl⟩) (mulOk_small hz.1)
  | str l =>
    obtain ⟨c, rfl, hr1⟩ := onOne_inv hr
    obtain ⟨y, rfl, hr11⟩ := onInt_inv hr1
    obtain ⟨hz, hr111⟩ := if_inv hr11
    cases hr111
    obtain ⟨t, rfl⟩ := ra; obtain ⟨u, rfl⟩ := rb
    exact mulStr_ok hz h
  | _ => cases hr
theorem binop_ok {op : Operator} (hr : binop op a b = some p) (lay : Lay W q L σ s.heap) (ra : RelV q L s.heap va a) (rb : RelV q L s.heap vb b) (h : Kp q L s p Q) : wpAny (model prog w) A (binaryOp op va vb) Q E s := by
  cases op with
  | Add => exact add_ok hr lay ra rb h
  | Sub =>
    obtain ⟨x, rfl, hr1⟩ := onInt_inv hr
    obtain ⟨y, rfl, hr11⟩ := onInt_inv hr1
    cases hr11
    obtain ⟨t, rfl⟩ := ra; obtain ⟨u, rfl⟩ := rb
    exact sub_int (h _ s.heap _ (.refl _) ⟨_, rfl⟩)
  | Mult => exact mul_ok hr ra rb h
  | Mod =>
    obtain ⟨x, rfl, hr1⟩ := onInt_inv hr
    obtain ⟨y, rfl, hr11⟩ := onInt_inv hr1
    obtain ⟨hz, hr111⟩ := if_inv hr11
    cases hr111
    obtain ⟨t, rfl⟩ := ra; obtain ⟨u, rfl⟩ := rb
    exact mod_int' (by lia) (h _ s.heap _ (.refl _) ⟨_, rfl⟩)
  | _ => cases hr

theorem eq_ok {r : Bool} (hr : eqv a b = some r) (ra : RelV q L s.heap va a) (rb : RelV q L s.heap vb b) (hu : A.units + 40 < cLine) (h : Q (.bool r) s) : wpAny (model prog w) A (compareOp .Eq va vb) Q E s :=
  (eqv_at 40 ra rb hr hu).1 prog w E Q h
theorem ne_ok {r : Bool} (hr : eqv a b = some r) (ra : RelV q L s.heap va a) (rb : RelV q L s.heap vb b) (hu : A.units + 40 < cLine) (h : Q (.bool (!r)) s) : wpAny (model prog w) A (compareOp .NotEq va vb) Q E s :=
  (eqv_at 40 ra rb hr hu).2.2 prog w E Q h
noncomputable def isNone (v : Value) : Bool := match v with
  | .none => true
  | _ => false
theorem noneIn_any {A : Around} {q : Bool} {L : Lo} {s : Shared} : ∀ (l : List PV) {vs : List Value} {r : Bool}, RelVs q L s.heap vs l → noneIn l = some r → (∀ v ∈ vs, SeqAt.EqAt A s v .none (isNone v)) ∧ vs.any isNone = r := by
  intro l
  induction l with
  | nil =>
    intro vs r x h
    cases h
    cases vs with
    | nil => exact ⟨fun _ q => (by cases q), rfl⟩
    | cons => simp [RelVs] at x
  | cons a l ih =>
    intro vs r x h
    cases vs with
    | nil => simp [RelVs] at x
    | cons v vs =>
      rw [RelVs] at x
      cases a with
      | none =>
        obtain ⟨r', h', e⟩ := Option.map_eq_some_iff.mp (show (noneIn l).map (fun _ => true) = some r from h)
        subst e
        have h1 : v = .none := x.1
        subst h1
        obtain ⟨h2, _⟩ := ih x.2 h'
        refine ⟨fun v hv => ?_, by simp [isNone]⟩
        rcases List.mem_cons.mp hv with rfl | hv
        · exact SeqAt.EqAt.same _
        · exact h2 v hv
      | int i =>
        obtain ⟨⟨t, h1⟩, x2⟩ := x
        subst h1
        obtain ⟨h2, h3⟩ := ih x2 h
        refine ⟨fun v hv => ?_, by simp [isNone, h3]⟩
        rcases List.mem_cons.mp hv with rfl | hv
        · exact SeqAt.EqAt.int_none _ _
        · exact h2 v hv
      | _ => cases h
theorem int_two {r : Bool} {f : Int → Int → Bool} {P : Value → Value → Prop} (hr : (onInt a fun x => onInt b fun y => some (f x y)) = some r) (ra : RelV q L s.heap va a) (rb : RelV q L s.heap vb b) (h : ∀ x t y u, r = f x y → P (.int x t) (.int y u)) : P va vb := by
  obtain ⟨x, rfl, hr1⟩ := onInt_inv hr
  obtain ⟨y, rfl, hr11⟩ := onInt_inv hr1
  cases hr11
  obtain ⟨t, rfl⟩ := ra
  obtain ⟨u, rfl⟩ := rb
  exact h x t y u rfl
theorem is_two {r : Bool} {P : Value → Value → Prop} (hr : isop a b = some r) (ra : RelV q L s.heap va a) (rb : RelV q L s.heap vb b) (h0 : r = true → P .none .none) (h1 : ∀ x t, r = false → P (.int x t) .none) : P va vb := by
  cases a with
  | none =>
    obtain ⟨rfl, hr1⟩ := onNo_inv hr
    cases hr1
    have e1 : va = .none := ra
    have e2 : vb = .none := rb
    subst e1 e2
    exact h0 rfl
  | int x =>
    obtain ⟨rfl, hr1⟩ := onNo_inv hr
    cases hr1
    obtain ⟨t, rfl⟩ := ra
    have e2 : vb = .none := rb
    subst e2
    exact h1 x t rfl
  | _ => cases hr
theorem in_two {r : Bool} {P : Value → Value → Prop} (hr : inStr a b = some r) (ra : RelV q L s.heap va a) (rb : RelV q L s.heap vb b) (h : ∀ (c : Nat) (t : Tok) (y : List Nat) (u : Tok), r = y.contains c → P (.str ⟨[c].toArray⟩ t) (.str ⟨y.toArray⟩ u)) : P va vb := by
  obtain ⟨x, rfl, hr1⟩ := onStr_inv hr
  obtain ⟨y, rfl, hr11⟩ := onStr_inv hr1
  obtain ⟨c, rfl, hr111⟩ := onOne_inv hr11
  cases hr111
  obtain ⟨t, rfl⟩ := ra
  obtain ⟨u, rfl⟩ := rb
  exact h c t y u rfl
theorem txt_in (c : Nat) (y : List Nat) : Txt.contains ⟨y.toArray⟩ ⟨[c].toArray⟩ = y.contains c := by
  unfold Txt.contains
  rw [StrLaws.found_one]
  simp [List.contains_eq_mem]
theorem in_ok {r : Bool} (hr : inop a b = some r) (ra : RelV q L s.heap va a) (rb : RelV q L s.heap vb b) (h : Q (.bool r) s) : wpAny (model prog w) A (compareOp .In va vb) Q E s := by
  by_cases z : a = .none
  · subst z
    obtain ⟨l, rfl, hr1⟩ := onLst_inv hr
    have h1 : va = .none := ra
    subst h1
    simp only [RelV] at rb
    obtain ⟨u, ws, rfl, _, hw, hl⟩ := rb
    obtain ⟨h2, h3⟩ := noneIn_any (A := A.in1) l hl hr1
    refine SeqAt.in_listAt isNone hw (fun y hy => h2 y (by simpa using hy)) ?_
    rw [← Array.any_toList, h3]
    exact h
  · have hr : inStr a b = some r := by
      cases a <;> first | exact hr | exact absurd rfl z
    refine in_two (P := fun va vb => wpAny (model prog w) A (compareOp .In va vb) Q E s) hr ra rb fun c t y u e => SB.contains ?_
    rw [txt_in, ← e]
    exact h
theorem cmpop_ok {op : CmpOp} {r : Bool} (hr : cmpop op a b = some r) (ra : RelV q L s.heap va a) (rb : RelV q L s.heap vb b) (hu : A.units + 40 < cLine) (h : Q (.bool r) s) : wpAny (model prog w) A (compareOp op va vb) Q E s := by
  cases op with
  | Eq => exact eq_ok hr ra rb hu h
  | NotEq =>
    obtain ⟨r', e, rfl⟩ := Option.map_eq_some_iff.mp hr
    exact ne_ok e ra rb hu h
  | Lt => exact int_two (P := fun va vb => wpAny (model prog w) A (compareOp .Lt va vb) Q E s) hr ra rb fun x t y u e => lt_int (e ▸ h)
  | LtE => exact int_two (P := fun va vb => wpAny (model prog w) A (compareOp .LtE va vb) Q E s) hr ra rb fun x t y u e => le_int (e ▸ h)
  | Gt => exact int_two (P := fun va vb => wpAny (model prog w) A (compareOp .Gt va vb) Q E s) hr ra rb fun x t y u e => gt_int (e ▸ h)
  | GtE => exact int_two (P := fun va vb => wpAny (model prog w) A (compareOp .GtE va vb) Q E s) hr ra rb fun x t y u e => ge_int (e ▸ h)
  | Is => exact is_two (P := fun va vb => wpAny (model prog w) A (compareOp .Is va vb) Q E s) hr ra rb (fun e => is_none (by rw [e] at h; exact h)) (fun x t e => is_none (by rw [e] at h; exact h))
  | IsNot =>
    obtain ⟨r', e, rfl⟩ := Option.map_eq_some_iff.mp hr
    exact is_two (P := fun va vb => wpAny (model prog w) A (compareOp .IsNot va vb) Q E s) e ra rb (fun e => isNot_none (by rw [e] at h; exact h)) (fun x t e => isNot_none (by rw [e] at h; exact h))
  | In => exact in_ok hr ra rb h
  | NotIn =>
    obtain ⟨r', e, rfl⟩ := Option.map_eq_some_iff.mp hr
    refine in_two (P := fun va vb => wpAny (model prog w) A (compareOp .NotIn va vb) Q E s) e ra rb fun c t y u e => SB.notContains ?_
    rw [txt_in, ← e]
    exact h

theorem neg_ok (hr : negop a = some p) (ra : RelV q L s.heap va a) (h : Kp q L s p Q) : wpAny (model prog w) A (unaryOp .USub va) Q E s := by
  obtain ⟨x, rfl, hr1⟩ := onInt_inv hr
  cases hr1
  obtain ⟨t, rfl⟩ := ra
  exact neg_int (h _ s.heap _ (.refl _) ⟨_, rfl⟩)
theorem isNil_ok {r : Bool} (hr : isNil σ a = some r) (lay : Lay W q L σ s.heap) (ra : RelV q L s.heap va a) {b : Addr} (hb : s.heap.IsList b #[]) (hu : A.units + 40 < cLine) (h : Q (.bool r) s) : wpAny (model prog w) A (compareOp .Eq va (.ref b)) Q E s := by
  have key : ∀ t vs (l : List PV), s.heap.IsList t vs → RelVs q L s.heap vs.toList l → Q (.bool l.isEmpty) s → wpAny (model prog w) A (compareOp .Eq (.ref t) (.ref b)) Q E s := fun t vs l ht hl hq => by
    have l1 := hl.length
    have l1' : vs.size = l.length := by simpa using l1
    by_cases hz : vs.size = 0
    · refine SeqAt.RcAt.lists (e := fun _ => true) ht hb (by simpa using hz) (by exact Nat.lt_of_le_of_lt (Nat.le_add_right ..) hu) (fun j h1 _ => by (clear l1' l1 hu; lia)) prog w E Q ?_
      have : l = [] := List.length_eq_zero_iff.mp (by (clear l1 hu; lia))
      subst this
      have e : ((List.range vs.size).all fun _ => true) = true := by simp
      rw [e]
      exact hq
    · refine SeqAt.RcAt.lists_lengths ht hb (by simpa using hz) (by omega) prog w E Q ?_
      have : l.isEmpty = false := by
        cases l with
        | nil => rw [List.length_nil] at l1'; exact absurd l1' hz
        | cons => rfl
      rw [this] at hq
      exact hq
  cases a with
  | lst l =>
    cases hr
    simp only [RelV] at ra
    obtain ⟨t, vs, rfl, _, ht, hl⟩ := ra
    exact key t vs _ ht hl h
  | ref k =>
    obtain ⟨l, hk, hr1⟩ := inLst_inv hr
    cases hr1
    simp only [RelV] at ra
    obtain ⟨p, hp, rfl⟩ := ra
    obtain ⟨_, vs, ht, hl⟩ := lay.objs k p _ hp hk
    exact key p.a vs _ ht.isList hl h
  | _ => cases hr

theorem seqAt_some {l : List PV} {i : Int} (h : seqAt l i = some p) : 0 ≤ i ∧ l.length ≤ SZ ∧ l[i.toNat]? = some p := by
  unfold seqAt at h
  split at h
  · rename_i z; exact ⟨z.1, z.2, h⟩
  · cases h
theorem seqIndex_of {i : Int} {n : Nat} (h0 : 0 ≤ i) (h1 : i.toNat < n) : seqIndex? i n = some i.toNat := by
  unfold seqIndex?
  have e : ¬ i < 0 := by exact Int.not_lt_of_ge h0
  simp only [e, if_false]
  rw [if_pos]
  simp only [Bool.and_eq_true, decide_eq_true_eq]
  (clear e; lia)
theorem notSlice_sub {slice : Expr} (hns : ∀ l u st p, slice ≠ .Slice l u st p) (o i : Value) : subscripted slice false o i = operate [o, i] (getItem o i) := by
  cases slice <;> first | rfl | exact absurd rfl (hns _ _ _ _)
theorem sub_ok {value slice : Expr} (hns : ∀ l u st p, slice ≠ .Slice l u st p) (hr : subop σ a b = some p) (lay : Lay W q L σ s.heap) (ra : RelV q L s.heap va a) (rb : RelV q L s.heap vb b) (h : Kp q L s p Q) :
    wpAny (model prog w) A (subscriptTail value slice va vb) Q E s := by
  have hl : ∀ {t : Addr} {vs : Array Value} {l : List PV} {i : Int} {u : Tok}, s.heap.IsList t vs → RelVs q L s.heap vs.toList l → seqAt l i = some p → wpAny (model prog w) A (subscriptTail value slice (.ref t) (.int i u)) Q E s := fun {t vs l i u} ht hl hq => by
    obtain ⟨h0, hz, hx⟩ := seqAt_some hq
    obtain ⟨v, e, r⟩ := hl.get hx
    have hlt : i.toNat < l.length := (List.getElem?_eq_some_iff.mp hx).1
    unfold SZ at hz
    exact tail_any ht.typeIs PySem.F.slot_list_getitem.lookup (wpAny_getItem_list ht h0 (by (clear h0; lia)) (by simpa using e) (h v s.heap s.toks (.refl _) r)) (notSlice_sub hns _ _)
  obtain ⟨i, rfl, hr1⟩ := onInt_inv hr
  obtain ⟨u, rfl⟩ := rb
  cases a with
  | tup l =>
    simp only [RelV] at ra
    obtain ⟨t, vs, rfl, _, ht, hl'⟩ := ra
    obtain ⟨h0, hz, hx⟩ := seqAt_some hr1
    obtain ⟨v, e, r⟩ := hl'.get hx
    have hlt : i.toNat < l.length := (List.getElem?_eq_some_iff.mp hx).1
    have hlen : vs.size = l.length := by simpa using hl'.length
    unfold SZ at hz
    refine tail_any (T := "tuple") (let ⟨o, ho, hc, _⟩ := ht; ⟨o, ho, hc⟩) PySem.F.slot_tuple_getitem.lookup (getItem_tuple ht (by (clear hlen hlt hz; lia)) (by (clear hlen h0; lia)) (seqIndex_of h0 (by (clear hz h0; lia))) (by simpa using e) (h v s.heap s.toks (.refl _) r)) (notSlice_sub hns _ _)
  | lst l =>
    simp only [RelV] at ra
    obtain ⟨t, vs, rfl, _, ht, hl'⟩ := ra
    exact hl ht hl' hr1
  | str l =>
    obtain ⟨z, hr11⟩ := if_inv hr1
    obtain ⟨c, hc, rfl⟩ := Option.map_eq_some_iff.mp hr11
    obtain ⟨t, rfl⟩ := ra
    have hlt : i.toNat < l.length := (List.getElem?_eq_some_iff.mp hc).1
    have hz := z.2
    unfold SZ at hz
    refine tail_any (T := "str") rfl PySem.F.slot_str_getitem.lookup (getItem_str (c := c) ?_ ?_ (h _ s.heap _ (.refl _) ⟨_, rfl⟩)) (notSlice_sub hns _ _)
    · rw [decide_eq_false (by (clear hz hlt; lia)), decide_eq_false (by (clear z; lia))]; rfl
    · rw [strLen, seqIndex_of z.1 hlt]
      simpa using hc
  | ref k =>
    obtain ⟨l, hk, hr2⟩ := inLst_inv hr1
    simp only [RelV] at ra
    obtain ⟨p', hp, rfl⟩ := ra
    obtain ⟨_, vs, ht, hl'⟩ := lay.objs k p' _ hp hk
    exact hl ht.isList hl' hr2
  | _ => cases hr1

/-- what an end of a slice is told by -/
noncomputable def RelO (q : Bool) (L : Lo) (h : Heap) (v : Value) : Option PV → Prop
  | .none => v = .none
  | some p => RelV q L h v p
theorem cutIdx {α : Type} (xs : Array α) (a b : Nat) : ((List.range (b - a)).map (a + ·)).filterMap (xs[·]?) = (xs.toList.take b).drop a := by
  rw [pick_run, List.drop_take]
theorem clip_cut {α : Type} (l : List α) (a b : Nat) : (l.take (min b l.length)).drop (min a l.length) = (l.take b).drop a := by
  apply List.ext_getElem?
  intro i
  simp only [List.getElem?_drop, List.getElem?_take]
  by_cases h1 : a ≤ l.length
  · rw [Nat.min_eq_left h1]
    by_cases h2 : a + i < b
    · by_cases h3 : a + i < l.length
      · rw [if_pos (by (clear h1; lia)), if_pos h2]
      · rw [if_neg (by omega), if_pos h2, List.getElem?_eq_none (by exact Nat.not_lt.mp h3)]
    · rw [if_neg (by omega), if_neg h2]
  · rw [Nat.min_eq_right (by lia)]
    rw [if_neg (by (clear h1; lia))]
    split
    · rw [List.getElem?_eq_none (by lia)]
    · rfl
theorem strIdx {n : Nat} {lo hi : Option Int} {a b : Nat} (ha : lo = some (a : Int) ∨ (lo = .none ∧ a = 0)) (hb : hi = some (b : Int) ∨ (hi = .none ∧ b = n)) :
    Builtin.Str.strSliceIndices lo hi 1 n = (List.range (min b n - min a n)).map (min a n + ·) := by
  rw [← sliceRange_one]
  unfold Builtin.Str.strSliceIndices
  simp only
  have z1 : (1 : Int) > 0 := by decide
  rw [if_pos z1, if_pos z1]
  congr 1
  · rcases ha with rfl | ⟨rfl, rfl⟩
    · simp only [z1, if_true]
      rw [if_neg (by (clear z1 hb; lia))]
      (clear z1 hb; lia)
    · simp
  · rcases hb with rfl | ⟨rfl, rfl⟩
    · simp only [z1, if_true]
      rw [if_neg (by (clear z1 ha; lia))]
      (clear z1 ha; lia)
    · simp
theorem bound_some {d : Nat} {o : Option PV} {r : Nat} (h : bound d o = some r) : (o = .none ∧ r = d) ∨ ∃ i : Int, o = some (.int i) ∧ 0 ≤ i ∧ i ≤ SZ ∧ r = i.toNat := by
  unfold bound at h
  split at h
  · cases h; exact .inl ⟨rfl, rfl⟩
  · split at h
    · rename_i i z
      cases h; exact .inr ⟨i, rfl, z.1, z.2, rfl⟩
    · cases h
  · cases h
theorem part_of {v : Value} {o : Option PV} {d r : Nat} (hv : RelO q L s.heap v o) (h : bound d o = some r) : ∃ p : Option (Int × Tok), partValue p = v ∧ (p.map (·.1) = some (r : Int) ∨ (p.map (·.1) = .none ∧ r = d)) := by
  rcases bound_some h with ⟨rfl, rfl⟩ | ⟨i, rfl, h0, _, rfl⟩
  · have : v = .none := hv
    subst this
    exact ⟨.none, rfl, .inr ⟨rfl, rfl⟩⟩
  · obtain ⟨t, rfl⟩ := hv
    exact ⟨some (i, t), rfl, .inl (by simp only [Option.map_some]; congr 1; lia)⟩
theorem slTextEq (l : List Nat) {x y : Nat} (h : min y l.length - min x l.length = l.length) : cut l x y = l := by
  unfold cut
  rw [← clip_cut]
  by_cases hz : l.length = 0
  · have : l = [] := List.length_eq_zero_iff.mp hz
    subst this; simp
  · rw [show min x l.length = 0 by (clear hz; omega), show min y l.length = l.length by omega]
    simp
theorem slStr_ok {value : Expr} {lo hi : Option Expr} {pos : Pos} {vl vu : Value} {ol ou : Option PV} {sl : Addr} {l : List Nat} {t : Tok} (hr : slStr l (bound 0 ol) (bound l.length ou) = some p) (hz : l.length ≤ SZ)
    (hl : RelO q L s.heap vl ol) (hu : RelO q L s.heap vu ou) (hs : s.heap.IsSliceOf sl vl vu .none) (h : Kp q L s p Q) : wpAny (model prog w) A (subscriptTail value (.Slice lo hi none pos) (.str ⟨l.toArray⟩ t) (.ref sl)) Q E s := by
  obtain ⟨x, hx, hr⟩ := Option.bind_eq_some_iff.mp hr
  obtain ⟨y, hy, rfl⟩ := Option.map_eq_some_iff.mp hr
  obtain ⟨pl, rfl, h1⟩ := part_of hl hx
  obtain ⟨pu, rfl, h2⟩ := part_of hu hy
  have key := strIdx (n := l.length) h1 h2
  have h0 : (((Option.none : Option (Int × Tok)).map (·.1)).getD 1 == 0) = false := rfl
  refine tail_any (ops := [.ref sl, .str ⟨l.toArray⟩ t]) (T := "str") rfl PySem.F.slot_str_getitem.lookup (wpAny_getItem_str_slice (st := none) hs h0 ?_) rfl
  unfold sliceMade slicePicked
  rw [strLen]
  simp only [Option.map_none, Option.getD_none, key]
  by_cases hc : ((List.range (min y l.length - min x l.length)).map (min x l.length + ·)).length = l.length
  · rw [if_pos (by simpa using hc)]
    refine h _ s.heap s.toks (.refl _) ⟨t, ?_⟩
    rw [slTextEq l (by simpa using hc)]
  · rw [if_neg (by simpa using hc)]
    have e : (List.filterMap (fun i => (⟨l.toArray⟩ : Str).cps[i]?) (List.map (fun i => min x l.length + i) (List.range (min y l.length - min x l.length)))) = cut l x y := by
      rw [cutIdx]
      exact clip_cut l x y
    rw [e]
    refine ⟨?_, h _ s.heap _ (.refl _) ⟨_, rfl⟩⟩
    rw [strLen, sizeLine_eq]
    refine Nat.le_trans ?_ (Nat.le_trans hz (by decide))
    unfold cut
    rw [List.length_drop, List.length_take]
    exact Nat.le_trans (Nat.sub_le ..) (Nat.min_le_right ..)
theorem slice_ok {value : Expr} {lo hi : Option Expr} {pos : Pos} {vl vu : Value} {ol ou : Option PV} {sl : Addr} (hr : sliceop a ol ou = some p) (lay : Lay W q L σ s.heap) (ra : RelV q L s.heap va a)
    (hl : RelO q L s.heap vl ol) (hu : RelO q L s.heap vu ou) (hs : s.heap.IsSliceOf sl vl vu .none) (h : Kp q L s p Q) : wpAny (model prog w) A (subscriptTail value (.Slice lo hi none pos) va (.ref sl)) Q E s := by
  cases a with
  | str l =>
    obtain ⟨hz, hr1⟩ := if_inv hr
    obtain ⟨t, rfl⟩ := ra
    exact slStr_ok hr1 hz hl hu hs h
  | tup l =>
    obtain ⟨hz, hr1⟩ := if_inv hr
    cases ou with
    | some _ => cases hr1
    | none =>
      obtain ⟨x, rfl, hr2⟩ := Option.bind_eq_some_iff.mp hr1
      obtain ⟨i, rfl, hr3⟩ := onInt_inv hr2
      obtain ⟨hi, hr4⟩ := if_inv hr3
      cases hr4
      have e : i = ((i.toNat : Nat) : Int) := by (clear hz; lia)
      obtain ⟨u, rfl⟩ := hl
      have : vu = .none := hu
      subst this
      simp only [RelV] at ra
      obtain ⟨t, vs, rfl, ho, ht, hrl⟩ := ra
      have hlen : vs.size = l.length := by simpa using hrl.length
      unfold SZ at hz
      rw [e] at hs
      refine tail_any (ops := [.ref sl, .ref t]) (T := "tuple") (let ⟨o, ho, hc, _⟩ := ht; ⟨o, ho, hc⟩) PySem.F.slot_tuple_getitem.lookup (getItem_tuple_from ht hs (by omega) (by omega) ?_ (by rw [sizeLine_eq]; (clear ho e hi; lia))) rfl
      refine h _ _ s.toks (KA.push _ _) ?_
      simp only [RelV]
      refine ⟨_, _, rfl, own_fresh lay, ⟨_, Heap.get?_push_size _ rfl, rfl, 0, rfl⟩, ?_⟩
      exact (KA.push _ _).rels (hrl.drop _)
  | lst l =>
    obtain ⟨hz, hr1⟩ := if_inv hr
    cases ol with
    | some _ => cases hr1
    | none =>
      obtain ⟨x, rfl, hr2⟩ := Option.bind_eq_some_iff.mp hr1
      obtain ⟨i, rfl, hr3⟩ := onInt_inv hr2
      obtain ⟨hi, hr4⟩ := if_inv hr3
      cases hr4
      obtain ⟨u, rfl⟩ := hu
      have : vl = .none := hl
      subst this
      simp only [RelV] at ra
      obtain ⟨t, vs, rfl, ho, ht, hrl⟩ := ra
      have hlen : vs.size = l.length := by simpa using hrl.length
      unfold SZ at hz
      refine tail_any (ops := [.ref sl, .ref t]) ht.typeIs PySem.F.slot_list_getitem.lookup (wpAny_getItem_list_slice ht hs .none (.int i u) .none (by simp) ?_ (by rw [sizeLine_eq]; (clear ho hi; lia))) rfl
      refine h _ _ s.toks (KA.push _ _) ?_
      have e2 : slicePick vs none (some i) none = (List.take i.toNat vs.toList).toArray := by
        have := slicePick_upto' vs i.toNat
        rwa [Int.toNat_of_nonneg hi.1] at this
      rw [e2]
      simp only [RelV]
      refine ⟨_, _, rfl, own_fresh lay, ⟨_, Heap.get?_push_size _ rfl, rfl, 0, rfl⟩, ?_⟩
      have := (KA.push s.heap { cls := .type "list", data := .seq (List.take i.toNat vs.toList).toArray }).rels (hrl.take i.toNat)
      simpa using this
  | _ => cases hr

theorem digs_str (i : Int) : (Str.ofString (toString i)) = ⟨(digs i).toArray⟩ := by
  unfold Str.ofString digs
  rw [cpsOfBytes_string]
theorem isDig_iff {c : Nat} : isDig c = true ↔ 48 ≤ c ∧ c ≤ 57 := by
  unfold isDig
  rw [Bool.and_eq_true, Nat.ble_eq, Nat.ble_eq]
theorem numText {l : List Nat} (h0 : l ≠ []) (h1 : l.length ≤ 18) (h2 : l.all isDig = true) : PySem.intText? ⟨l.toArray⟩ = some ((numOf l : Nat) : Int) := by
  have := intText_digits (x := ⟨l.toArray⟩) (fun c hc => isDig_iff.mp (List.all_eq_true.mp h2 c (by simpa using hc))) (by simpa using h0) (by rw [strLen]; exact Nat.le_trans h1 (by decide))
  simpa [numOf, NumText.digitsVal] using this
theorem log_small {i : Int} (h : i.natAbs < 1000000000000000000) : i.natAbs.log2 < 1920 := by
  by_cases z : i.natAbs = 0
  · rw [z]; decide
  · rw [Nat.log2_lt z]
    exact Nat.lt_of_lt_of_le h (Nat.le_of_lt (by decide +kernel))
theorem lenSeq_ok {t : Addr} {vs : Array Value} {l : List PV} (ht : s.heap.IsList t vs ∨ IsTup s.heap t vs) (hl : RelVs q L s.heap vs.toList l) (hz : l.length ≤ SZ) (h : Kp q L s (.int l.length) Q) :
    wpAny (model prog w) A (call (.builtin "len") [.ref t]) Q E s := by
  have hlen : vs.size = l.length := by simpa using hl.length
  unfold SZ at hz
  rcases ht with ht | ht
  · exact len_list ht (by omega) (h _ s.heap _ (.refl _) ⟨_, by rw [hlen]⟩)
  · exact PyProof.Rows.len_tuple ht (by omega) (h _ s.heap _ (.refl _) ⟨_, by rw [hlen]⟩)

noncomputable def biVal : Bi → Value
  | .len => .builtin "len"
  | .int => .type "int"
  | .str => .type "str"
  | .range => .type "range"
  | .max => .builtin "max"
  | .tuple => .type "tuple"
  | .list => .type "list"
theorem len_ok (hr : lenop σ a = some p) (lay : Lay W q L σ s.heap) (ra : RelV q L s.heap va a) (h : Kp q L s p Q) : wpAny (model prog w) A (call (.builtin "len") [va]) Q E s := by
  cases a with
  | str l =>
    obtain ⟨hz, hr1⟩ := if_inv hr
    cases hr1
    obtain ⟨t, rfl⟩ := ra
    exact len_str (by rw [strLen]; unfold SZ at hz; lia) (h _ s.heap _ (.refl _) ⟨_, by rw [strLen]⟩)
  | tup l =>
    obtain ⟨hz, hr1⟩ := if_inv hr
    cases hr1
    simp only [RelV] at ra
    obtain ⟨t, ws, rfl, _, ht, hl⟩ := ra
    exact lenSeq_ok (.inr ht) hl hz h
  | lst l =>
    obtain ⟨hz, hr1⟩ := if_inv hr
    cases hr1
    simp only [RelV] at ra
    obtain ⟨t, ws, rfl, _, ht, hl⟩ := ra
    exact lenSeq_ok (.inl ht) hl hz h
  | ref k =>
    obtain ⟨l, hk, hr1⟩ := inLst_inv hr
    obtain ⟨hz, hr11⟩ := if_inv hr1
    cases hr11
    simp only [RelV] at ra
    obtain ⟨p', hp, rfl⟩ := ra
    obtain ⟨_, ws, ht, hl⟩ := lay.objs k p' _ hp hk
    exact lenSeq_ok (.inl ht.isList) hl hz h
  | _ => cases hr
theorem bi_ok {b : Bi} {args : List PV} {vs : List Value} (hr : biop b args σ = some p) (lay : Lay W q L σ s.heap) (ra : RelVs q L s.heap vs args) (hh : b = .max → A.handled = none) (h : Kp q L s p Q) : wpAny (model prog w) A (call (biVal b) vs) Q E s := by
  cases b with
  | len =>
    obtain ⟨a, rfl, hr1⟩ := onOne_inv hr
    obtain ⟨v, rfl, r⟩ := rels_one ra
    exact len_ok hr1 lay r h
  | int =>
    obtain ⟨a, rfl, hr1⟩ := onOne_inv hr
    obtain ⟨l, rfl, hr11⟩ := onStr_inv hr1
    obtain ⟨hz, hr111⟩ := if_inv hr11
    cases hr111
    obtain ⟨v, rfl, t, rfl⟩ := rels_one ra
    exact KIN.call_text (numText hz.1 hz.2.1 hz.2.2) (by rw [strLen]; (clear hh; lia)) (h _ s.heap _ (.refl _) ⟨_, rfl⟩)
  | str =>
    obtain ⟨a, rfl, hr1⟩ := onOne_inv hr
    obtain ⟨i, rfl, hr11⟩ := onInt_inv hr1
    obtain ⟨hz, hr111⟩ := if_inv hr11
    cases hr111
    obtain ⟨v, rfl, t, rfl⟩ := rels_one ra
    exact P.str_of_int (log_small hz) (h _ s.heap _ (.refl _) ⟨_, by rw [← digs_str]⟩)
  | range =>
    obtain ⟨a, rfl, hr1⟩ := onOne_inv hr
    obtain ⟨i, rfl, hr11⟩ := onInt_inv hr1
    obtain ⟨hz, hr111⟩ := if_inv hr11
    cases hr111
    obtain ⟨v, rfl, t, rfl⟩ := rels_one ra
    refine call_range_1 (h _ _ _ (KA.push _ _) ?_)
    simp only [RelV]
    exact ⟨_, _, _, _, rfl, own_fresh lay, Heap.get?_push_size _ rfl⟩
  | max =>
    rcases args with _ | ⟨a, _ | ⟨b, _ | ⟨c, args⟩⟩⟩ <;> try (cases hr; done)
    obtain ⟨x, rfl, hr1⟩ := onInt_inv hr
    obtain ⟨y, rfl, hr11⟩ := onInt_inv hr1
    cases hr11
    obtain ⟨v, u, rfl, ⟨t, rfl⟩, ⟨t', rfl⟩⟩ := rels_two ra
    refine max_two_ints (hh rfl) fun h' tk k => h _ h' tk k ?_
    split <;> exact ⟨_, rfl⟩
  | tuple =>
    obtain ⟨a, rfl, hr1⟩ := onOne_inv hr
    obtain ⟨l, rfl, hr11⟩ := onLst_inv hr1
    obtain ⟨hz, hr111⟩ := if_inv hr11
    cases hr111
    obtain ⟨v, rfl, r⟩ := rels_one ra
    simp only [RelV] at r
    obtain ⟨t, ws, rfl, _, ht, hl⟩ := r
    have hlen := hl.length
    rw [Array.length_toList] at hlen
    unfold SZ at hz
    refine call_tuple_list ht (fun h' k => h _ _ s.toks (KA.trans k (KA.push _ _)) ?_) (by rw [sizeLine_eq]; (clear hh; lia))
    simp only [RelV]
    exact ⟨_, _, rfl, own_fresh (lay.ka k), ⟨_, Heap.get?_push_size _ rfl, rfl, 0, rfl⟩, (KA.trans k (KA.push _ _)).rels hl⟩
  | list =>
    obtain ⟨a, rfl, hr1⟩ := onOne_inv hr
    obtain ⟨l, rfl, hr11⟩ := onLst_inv hr1
    obtain ⟨hz, hr111⟩ := if_inv hr11
    cases hr111
    obtain ⟨v, rfl, r⟩ := rels_one ra
    simp only [RelV] at r
    obtain ⟨t, ws, rfl, _, ht, hl⟩ := r
    obtain ⟨o, ho, hc, n, hd⟩ := ht
    have hlen := hl.length
    rw [Array.length_toList] at hlen
    unfold SZ at hz
    refine call_list_seq t (.inl rfl) ho hc hd (fun h' c' k hD => h _ h' s.toks k ?_) (by rw [sizeLine_eq]; (clear hh; lia))
    simp only [RelV]
    exact ⟨_, _, rfl, own_fresh lay, ⟨_, hD, rfl, c', rfl⟩, KA.rels k hl⟩
end
end Mine
end
/-! M6: which term a little expression stands for; what it is to be sound; the plain steps -/
section
set_option autoImplicit false
set_option linter.unusedVariables false
set_option linter.unusedSimpArgs false
namespace Mine
open PySem PySem.W PyProof.Rows

noncomputable def biName : Bi → Str
  | .len => "len"
  | .int => "int"
  | .str => "str"
  | .range => "range"
  | .max => "max"
  | .tuple => "tuple"
  | .list => "list"

def ChkL (f : CE → Expr → Prop) : List CE → List Expr → Prop
  | [], es => es = []
  | c :: cs, es => ∃ e r, es = e :: r ∧ f c e ∧ ChkL f cs r
def ChkO (f : CE → Expr → Prop) : Option CE → Option Expr → Prop
  | .none, x => x = none
  | some c, x => ∃ e, x = some e ∧ f c e
noncomputable def notCall : Expr → Bool
  | .Call (.Name _ _) [] [] _ => false
  | _ => true
noncomputable def dbg : Str := "__debug__"
def NamesAt (nm : Nat → Str) (f : Str → Bool) : List Nat → List Expr → Prop
  | [], es => es = []
  | x :: xs, es => ∃ p r, es = .Name (nm x) p :: r ∧ f (nm x) = true ∧ NamesAt nm f xs r
/-- a loop's target -/
def ChkT (nm : Nat → Str) (kd : Str → Option NameKind) (xs : List Nat) (tt : Bool) (e : Expr) : Prop :=
  (∃ x p, xs = [x] ∧ tt = false ∧ e = .Name (nm x) p ∧ kd (nm x) = some .local) ∨ (∃ es p1 p2, tt = true ∧ e = .Tuple es p1 p2 ∧ NamesAt nm (fun id => kd id == some .local) xs es)
/-- the names' kinds within a comprehension -/
noncomputable def kdIn (kd : Str → Option NameKind) (sc : Scope) (x : Str) : Option NameKind := match sc.names.lookup x with
  | some .free => if kd x == some .cell then some .cell else some .free
  | r => r
noncomputable def freeOk (nm : Nat → Str) (kd : Str → Option NameKind) (fv : List Nat) (sc : Scope) : Bool :=
  sc.kind == .function && fv.all (fun x => sc.names.lookup (nm x) == some .free && kd (nm x) == some .cell) &&
  sc.names.all (fun y => match y.2 with
    | .local => sc.names.lookup y.1 == some .local
    | .free => fv.any (fun x => nm x == y.1) && sc.names.lookup y.1 == some .free
    | .globalImplicit => true
    | _ => false)

/-- the little expression stands for the term -/
def Chk (nm : Nat → Str) : Nat → (Str → Option NameKind) → CE → Expr → Prop
  | 0, _, _, _ => False
  | m + 1, kd, ce, e => match ce with
    | .loc x => ∃ p, e = .Name (nm x) p ∧ (nm x == dbg) = false
    | .glo x => ∃ p, e = .Name (nm x) p ∧ kd (nm x) = some .globalImplicit ∧ (nm x == dbg) = false
    | .cnone => ∃ a b, e = .Constant .none a b ∧ True
    | .cbool v => ∃ a b, e = .Constant (.bool v) a b ∧ True
    | .cint v => ∃ a b, e = .Constant (.int v) a b ∧ True
    | .cstr l => ∃ a b, e = .Constant (.str ⟨l.toArray⟩) a b ∧ True
    | .neg a => ∃ x p, e = .UnaryOp .USub x p ∧ Chk nm m kd a x
    | .not a => ∃ x p, e = .UnaryOp .Not x p ∧ Chk nm m kd a x
    | .bin op a b => ∃ l r p, e = .BinOp l op r p ∧ Chk nm m kd a l ∧ Chk nm m kd b r
    | .cmp op a b => ∃ l r p, e = .Compare l [op] [r] p ∧ Chk nm m kd a l ∧ Chk nm m kd b r
    | .cmpNil op a => ∃ l q p, e = .Compare l [op] [.List [] q] p ∧ Chk nm m kd a l
    | .bop c l => ∃ es p, e = .BoolOp (if c = true then .And else .Or) es p ∧ ChkL (Chk nm m kd) l es
    | .ite t b o => ∃ x y z p, e = .IfExp x y z p ∧ Chk nm m kd t x ∧ Chk nm m kd b y ∧ Chk nm m kd o z
    | .tup l => ∃ es a p, e = .Tuple es a p ∧ ChkL (Chk nm m kd) l es
    | .lst l => ∃ es p, e = .List es p ∧ ChkL (Chk nm m kd) l es
    | .sub a i => ∃ v x p, e = .Subscript v x p ∧ Chk nm m kd a v ∧ Chk nm m kd i x
    | .slice a lo hi => ∃ v l u q p, e = .Subscript v (.Slice l u none q) p ∧ Chk nm m kd a v ∧ ChkO (Chk nm m kd) lo l ∧ ChkO (Chk nm m kd) hi u
    | .call f args => ∃ p es q, e = .Call (.Name (nm f) p) es [] q ∧ kd (nm f) = some .globalImplicit ∧ (nm f == dbg) = false ∧ ChkL (Chk nm m kd) args es
    | .bi b args => ∃ p es q, e = .Call (.Name (biName b) p) es [] q ∧ kd (biName b) = some .globalImplicit ∧ (biName b == dbg) = false ∧ ChkL (Chk nm m kd) args es
    | .meth o f args => ∃ v ap es pos, e = .Call (.Attribute v (nm f) ap) es [] pos ∧ notCall v = true ∧ (ap.endLine == pos.line) = true ∧ es.length < 20 ∧ Chk nm m kd o v ∧ ChkL (Chk nm m kd) args es
    | .mdig o => ∃ v ap pos, e = .Call (.Attribute v ("isdigit" : Str) ap) [] [] pos ∧ notCall v = true ∧ (ap.endLine == pos.line) = true ∧ Chk nm m kd o v
    | .mjoin o x => ∃ v ap y pos, e = .Call (.Attribute v ("join" : Str) ap) [y] [] pos ∧ notCall v = true ∧ (ap.endLine == pos.line) = true ∧ Chk nm m kd o v ∧ Chk nm m kd x y
    | .mapp o x => ∃ v ap y pos, e = .Call (.Attribute v ("append" : Str) ap) [y] [] pos ∧ notCall v = true ∧ (ap.endLine == pos.line) = true ∧ Chk nm m kd o v ∧ Chk nm m kd x y
    | .mpop o => ∃ v ap pos, e = .Call (.Attribute v ("pop" : Str) ap) [] [] pos ∧ notCall v = true ∧ (ap.endLine == pos.line) = true ∧ Chk nm m kd o v
    | .attr o x => ∃ vi vp p, e = .Attribute (.Name vi vp) (nm x) p ∧ x < 3 ∧ Chk nm m kd o (.Name vi vp)
    | .fstr pre x => ∃ a b v d p, e = .JoinedStr [.Constant (.str ⟨pre.toArray⟩) a b, .FormattedValue v (-1) none d] p ∧ pre.length ≤ 1000 ∧ Chk nm m kd x v
    | .fstrs x post => ∃ v d a b p, e = .JoinedStr [.FormattedValue v (-1) none d, .Constant (.str ⟨post.toArray⟩) a b] p ∧ post.length ≤ 1000 ∧ Chk nm m kd x v
    | .comp elt xs tt fv it c => ∃ x tg iter ifs sc p, e = .ListComp x [⟨tg, iter, ifs, 0⟩] sc p ∧ Chk nm m kd it iter ∧ freeOk nm kd fv sc = true ∧ ChkT nm (kdIn kd sc) xs tt tg ∧ Chk nm m (kdIn kd sc) elt x ∧
          (match c with
            | .none => ifs = []
            | some c => ∃ t, ifs = [t] ∧ Chk nm m (kdIn kd sc) c t)
    | .heard i fv x => ∃ p b sc lp q, e = .Call (.Name ("_law_heard" : Str) p) [.Lambda ⟨[], [], none, [], [], none, []⟩ b sc lp] [] q ∧ lp.line = i ∧ kd ("_law_heard" : Str) = some .globalImplicit ∧ sc.isGenerator = false ∧ sc.isCoroutine = false ∧
          freeOk nm kd fv sc = true ∧ Chk nm m (fun y => sc.names.lookup y) x b
/-- the terms that the little ones stand for -/
def okE : Expr → Bool
  | .Name .. => true
  | .Constant .. => true
  | .UnaryOp .. => true
  | .BinOp .. => true
  | .Compare .. => true
  | .BoolOp .. => true
  | .IfExp .. => true
  | .Tuple .. => true
  | .List .. => true
  | .Subscript .. => true
  | .Call .. => true
  | .Attribute .. => true
  | .JoinedStr .. => true
  | .ListComp .. => true
  | _ => false
/-- neither a set's nor an operator's of truth -/
def easyC : CE → Bool
  | .not _ => false
  | .neg _ => false
  | .bop .. => false
  | .ite .. => false
  | .cmp .. => false
  | .cmpNil .. => false
  | _ => true
def easyE : Expr → Bool
  | .UnaryOp .. => false
  | .BoolOp .. => false
  | .IfExp .. => false
  | .Compare .. => false
  | _ => true
theorem Chk.ok {nm : Nat → Str} {m : Nat} {kd : Str → Option NameKind} {c : CE} {x : Expr} (h : Chk nm m kd c x) : okE x = true ∧ (easyC c = true → easyE x = true) := by
  cases m with
  | zero => exact h.elim
  | succ m =>
    cases c <;> first
      | (obtain ⟨_, rfl, _⟩ := h; exact ⟨rfl, fun _ => rfl⟩)
      | (obtain ⟨_, _, rfl, _⟩ := h; first | exact ⟨rfl, fun _ => rfl⟩ | exact ⟨rfl, fun z => (Bool.false_ne_true z).elim⟩)
      | (obtain ⟨_, _, _, rfl, _⟩ := h; first | exact ⟨rfl, fun _ => rfl⟩ | exact ⟨rfl, fun z => (Bool.false_ne_true z).elim⟩)
      | (obtain ⟨_, _, _, _, rfl, _⟩ := h; first | exact ⟨rfl, fun _ => rfl⟩ | exact ⟨rfl, fun z => (Bool.false_ne_true z).elim⟩)
      | (obtain ⟨_, _, _, _, _, rfl, _⟩ := h; exact ⟨rfl, fun _ => rfl⟩)
      | (obtain ⟨_, _, _, _, _, _, rfl, _⟩ := h; exact ⟨rfl, fun _ => rfl⟩)

/-- what stands around: the stack's frames, room for k more -/
structure Ar (A : Around) (env : Env) (fs : List Env) (k : Nat) : Prop where
  frames : A.frames = some fs
  top : ∃ e0 rest, fs = e0 :: rest ∧ e0.frame = env.frame
  frame : ∃ F, env.frame = some F
  depth : A.depth + k < recursionLimit
  units : A.units + 16 * k + 64 < cLine

structure At (W : Wd) (Φ : Sig) (k : Nat) (A : Around) (en : Env) (fs : List Env) (ρ : Loc) (L : Lo) (σ : Store) (s : Shared) : Prop where
  ar : Ar A en fs k
  hq : Φ.q = false → A.handled = none
  env : EnvRel W Φ.q en ρ L s.heap
  st : St W Φ.q fs L σ s.heap
  code_ : Φ.top = true → en.code = .ref W.lc

section
variable {α β γ : Type} {W : Wd} {q : Bool} {fs : List Env}
noncomputable def Post (W : Wd) (q : Bool) (fs : List Env) (Rel : Lo → Heap → β → α → Prop) (L : Lo) (s : Shared) (r : R α) (Q : β → Shared → Prop) (E : Value → Shared → Prop) : Prop := match r with
  | .ok a σ' => ∀ v L' h' tk, St W q fs L' σ' h' → Aft [] L s.heap L' h' → Rel L' h' v a → Q v { s with heap := h', toks := tk }
  | .exc x σ' => ∀ e L' h' tk, St W q fs L' σ' h' → Aft [] L s.heap L' h' → ExcAt W s.heap L' h' e x false → E (.ref e) { s with heap := h', toks := tk }
/-- the tree does what the evaluator says -/
noncomputable def Snd (W : Wd) (q : Bool) (fs : List Env) (A : Around) (t : Sem β) (m : Option (R α)) (Rel : Lo → Heap → β → α → Prop) (L : Lo) (s : Shared) : Prop :=
  ∀ r Q E, m = some r → Post W q fs Rel L s r Q E → wpAny (model W.prog W.w) A t Q E s

theorem ExcAt.back {h0 h1 : Heap} {L : Lo} {h : Heap} {e : Addr} {x : PX} {m : Bool} (X : ExcAt W h1 L h e x m) (k : ∀ a, h1.get? a = none → h0.get? a = none) : ExcAt W h0 L h e x m := by
  obtain ⟨x1, x2, x3, vs, d, ho, hsz, htb, hd1, hd2, hd3, hsp⟩ := X
  refine ⟨k e x1, x2, x3, vs, d, ho, hsz, ?_, k d hd1, hd2, hd3, hsp⟩
  rcases htb with q | ⟨T, ts, oT, q, t1, t2, t3⟩
  · exact .inl q
  · exact .inr ⟨T, ts, oT, q, t1, k T t2, t3⟩
theorem Aft.none_back {σ : Store} {L L' : Lo} {h h' : Heap} (x : Aft [] L h L' h') (l : Lay W q L' σ h') {a : Addr} (e : h'.get? a = none) : h.get? a = none := by
  cases z : h.get? a with
  | none => rfl
  | some o =>
    exfalso
    by_cases ho : a ∈ own L
    · obtain ⟨⟨T, rfl, _⟩, _⟩ := x
      obtain ⟨o', e'⟩ := l.live (by rw [own_append]; exact List.mem_append_left _ ho)
      rw [e] at e'; cases e'
    · obtain ⟨sl, e', _⟩ := x.keeps a ho (fun z => by cases z) o z
      rw [e] at e'; cases e'
theorem Aft.trans0 {σ₁ : Store} {L L₁ L₂ : Lo} {h h₁ h₂ : Heap} (x : Aft [] L h L₁ h₁) (y : Aft [] L₁ h₁ L₂ h₂) (l : Lay W q L₁ σ₁ h₁) : Aft [] L h L₂ h₂ := x.trans y l fun _ z => by cases z
theorem Post.next {Rel : Lo → Heap → β → α → Prop} {L L₁ : Lo} {σ₁ : Store} {s : Shared} {h₁ : Heap} {tk : Nat} {r : R α} {Q : β → Shared → Prop} {E : Value → Shared → Prop} (P : Post W q fs Rel L s r Q E) (st : St W q fs L₁ σ₁ h₁) (a : Aft [] L s.heap L₁ h₁) :
    Post W q fs Rel L₁ { s with heap := h₁, toks := tk } r Q E := by
  cases r with
  | ok v σ' => exact fun v L' h' tk' st' a' r' => P v L' h' tk' st' (a.trans0 a' st.lay) r'
  | exc x σ' => exact fun e L' h' tk' st' a' X => P e L' h' tk' st' (a.trans0 a' st.lay) (X.back fun _ z => a.none_back st.lay z)
theorem At.next {Φ : Sig} {k : Nat} {A : Around} {env : Env} {ρ : Loc} {L L₁ : Lo} {σ σ₁ : Store} {s : Shared} {h₁ : Heap} {tk : Nat} (x : At W Φ k A env fs ρ L σ s) (st : St W Φ.q fs L₁ σ₁ h₁) (a : Aft [] L s.heap L₁ h₁) : At W Φ k A env fs ρ L₁ σ₁ { s with heap := h₁, toks := tk } :=
  ⟨x.ar, x.hq, x.env.aft a, st, x.code_⟩

theorem bnd_ok {δ : Type} {Rel₁ : Lo → Heap → β → α → Prop} {Rel : Lo → Heap → δ → γ → Prop} {A : Around} {t : Sem β} {m : Option (R α)} {f : α → Store → Option (R γ)} {r : R γ} {L : Lo} {s : Shared} {K : β → Shared → Prop} {Q : δ → Shared → Prop} {E : Value → Shared → Prop}
    (hb : bnd m f = some r) (H : Snd W q fs A t m Rel₁ L s) (P : Post W q fs Rel L s r Q E)
    (hk : ∀ a σ₁ v L₁ h₁ tk, f a σ₁ = some r → St W q fs L₁ σ₁ h₁ → Aft [] L s.heap L₁ h₁ → Rel₁ L₁ h₁ v a → Post W q fs Rel L₁ { s with heap := h₁, toks := tk } r Q E → K v { s with heap := h₁, toks := tk }) : wpAny (model W.prog W.w) A t K E s := by
  unfold bnd at hb
  split at hb
  · cases hb
  · rename_i a σ₁
    exact H _ K E rfl fun v L₁ h₁ tk st af rel => hk a σ₁ v L₁ h₁ tk hb st af rel (P.next st af)
  · rename_i x σ₁
    cases hb
    exact H _ K E rfl P
theorem rok_some {o : Option α} {σ : Store} {r : R α} (h : rok o σ = some r) : ∃ a, o = some a ∧ r = .ok a σ := by
  unfold rok at h
  split at h
  · cases h
  · cases h; exact ⟨_, rfl, rfl⟩
/-- a step that keeps all ends as the evaluator ends -/
theorem Post.kp {L : Lo} {σ : Store} {s : Shared} {p : PV} {Q : Value → Shared → Prop} {E : Value → Shared → Prop} (st : St W q fs L σ s.heap) (P : Post W q fs (RelV q) L s (.ok p σ) Q E) : Kp q L s p Q :=
  fun v h' tk k r => P v L h' tk (st.ka k) (k.aft [] L) r
theorem Post.at {L : Lo} {σ : Store} {s : Shared} {p : PV} {v : Value} {tk : Nat} {Q : Value → Shared → Prop} {E : Value → Shared → Prop} (st : St W q fs L σ s.heap) (P : Post W q fs (RelV q) L s (.ok p σ) Q E) (r : RelV q L s.heap v p) : Q v { s with heap := s.heap, toks := tk } :=
  P v L s.heap tk st (.refl [] L s.heap) r
end

theorem kind_none {k : Option NameKind} (h : (k == some NameKind.globalImplicit) = true) : k = some .globalImplicit := by simpa using h
end Mine
end
/-! M7: the plain expressions are sound -/
section
set_option autoImplicit false
set_option linter.unusedVariables false
set_option linter.unusedSimpArgs false
namespace Mine
open PySem PySem.W PyProof.Rows

structure WOk (W : Wd) : Prop where
  inj : ∀ x y, W.nm x = W.nm y → x = y
  nodict : ∀ x, (W.nm x == ("__classdict__" : Str)) = false
  g : W.b0.Ns mainGlobals W.mg
  b : W.b0.Ns builtinsNs W.mb
  nolimit : W.b0.NoLimit
  bi : ∀ b : Bi, W.mg (biName b) = none ∧ W.mb (biName b) = some (biVal b)
  spot : W.nm spotName = spotStr

/-- the global tables that the evaluator is told of -/
noncomputable def GloOk (W : Wd) (Φ : Sig) : Prop := ∀ x p, Φ.glo x = some p → ∃ v, W.mg (W.nm x) = some v ∧ RelV false Lo.nil W.b0 v p

structure SE (W : Wd) (Φ : Sig) (k n : Nat) : Prop where
  e : ∀ {m A env fs ρ L σ s ce x}, Chk W.nm m env.kindOf ce x → At W Φ k A env fs ρ L σ s → Snd W Φ.q fs A (eval x env) (ev Φ n ce ρ σ) (RelV Φ.q) L s
  t : ∀ {m A env fs ρ L σ s ce x}, Chk W.nm m env.kindOf ce x → At W Φ k A env fs ρ L σ s → Snd W Φ.q fs A (isTrue x env (eval x env)) (evT Φ n ce ρ σ) (fun _ _ (b : Bool) (b' : Bool) => b = b') L s
  ts : ∀ {m A env fs ρ L σ s c l xs}, ChkL (Chk W.nm m env.kindOf) l xs → At W Φ k A env fs ρ L σ s → Snd W Φ.q fs A (allTrue (if c = true then .And else .Or) xs env) (evTs Φ n c l ρ σ) (fun _ _ (b : Bool) (b' : Bool) => b = b') L s
  b : ∀ {m A env fs ρ L σ s c l xs pos}, ChkL (Chk W.nm m env.kindOf) l xs → At W Φ k A env fs ρ L σ s → Snd W Φ.q fs A (boolOp pos (if c = true then .And else .Or) (evalEach xs env)) (evB Φ n c l ρ σ) (RelV Φ.q) L s
  es : ∀ {m A env fs ρ L σ s l xs pos}, ChkL (Chk W.nm m env.kindOf) l xs → At W Φ k A env fs ρ L σ s → Snd W Φ.q fs A (spliced (backTo pos (starEach xs env))) (evs Φ n l ρ σ) (RelVs Φ.q) L s
  o : ∀ {m A env fs ρ L σ s c x}, ChkO (Chk W.nm m env.kindOf) c x → At W Φ k A env fs ρ L σ s → Snd W Φ.q fs A (evalPart x env) (evO Φ n c ρ σ) (RelO Φ.q) L s

theorem relV_base {W : Wd} {q : Bool} {L : Lo} {h : Heap} (hb : W.b0.StaysIn h) (hL : ∀ a ∈ own L, W.b0.get? a = none) : ∀ {v : Value} {p : PV}, RelV false Lo.nil W.b0 v p → RelV q L h v p := by
  intro v p r
  have := RelV.move (q := false) (L := Lo.nil) (L' := L) (h := W.b0) (h' := h) (fun a ha => .inr (hL a ha)) (fun i p e => by simp [Lo.nil] at e) (fun b o ho _ _ => .of_some (hb b)) (fun z => by cases z) r
  cases q
  · exact this
  · exact this.quiet

section
variable {W : Wd} {Φ : Sig} {k n m : Nat} {A : Around} {env : Env} {fs : List Env} {ρ : Loc} {L : Lo} {σ : Store} {s : Shared} {x : Expr}

theorem ok_star {xs : List Expr} (h : okE x = true) : starEach (x :: xs) env = (false, eval x env) :: starEach xs env := by
  cases x <;> first | rfl | exact (Bool.false_ne_true h).elim
theorem chk_notStar {kd : Str → Option NameKind} {ce : CE} (h : Chk W.nm m kd ce x) : starEach [x] env = [(false, eval x env)] := ok_star h.ok.1
theorem chk_notSlice {kd : Str → Option NameKind} {ce : CE} (h : Chk W.nm m kd ce x) (l u st : Option Expr) (p : Pos) : x ≠ .Slice l u st p := by
  rintro rfl
  exact Bool.false_ne_true h.ok.1
theorem chk_marks {kd : Str → Option NameKind} {ce : CE} {op : CmpOp} (h : Chk W.nm m kd ce x) : behindInMarks op x = false := by
  have h := h.ok.1
  cases x <;> first | rfl | exact (Bool.false_ne_true h).elim

theorem name_ok (wok : WOk W) {i : Nat} {pv : PV} (a : At W Φ k A env fs ρ L σ s) (hl : lk ρ i = some pv) {Q : Value → Shared → Prop} {E : Value → Shared → Prop}
    (h : ∀ v, RelV Φ.q L s.heap v pv → Q v s) : wpAny (model W.prog W.w) A (loadName env (W.nm i)) Q E s := by
  obtain ⟨v, hn, r⟩ := a.env.names i pv hl
  rcases hn with ⟨hk, m', hm, hv⟩ | ⟨hk, c, hc, hv⟩
  · exact wpAny_loadName_local a.env.kind hk hm hv (h v r)
  · rcases hk with hk | hk
    · exact wpAny_loadName_cell a.env.kind hk hc hv (h v r)
    · exact wpAny_loadName_free a.env.kind hk hc hv (h v r) (wok.nodict i)
theorem glob_ok (wok : WOk W) {y : Str} {v : Value} (a : At W Φ k A env fs ρ L σ s) (hk : env.kindOf y = some .globalImplicit) (hv : W.mg y = some v) {Q : Value → Shared → Prop} {E : Value → Shared → Prop}
    (h : Q v s) : wpAny (model W.prog W.w) A (loadName env y) Q E s :=
  ks_loadName_global a.env.kind hk (Calls.loadGlobal_global (by rw [a.env.globals]; exact wok.g.keeps a.st.base) hv h)
theorem built_ok (wok : WOk W) {b : Bi} (a : At W Φ k A env fs ρ L σ s) (hk : env.kindOf (biName b) = some .globalImplicit) {Q : Value → Shared → Prop} {E : Value → Shared → Prop}
    (h : Q (biVal b) s) : wpAny (model W.prog W.w) A (loadName env (biName b)) Q E s :=
  ks_loadName_global a.env.kind hk (Calls.loadGlobal_builtin (by rw [a.env.globals]; exact wok.g.keeps a.st.base) (wok.bi b).1 (by rw [a.env.builtins]; exact wok.b.keeps a.st.base) (wok.bi b).2 h)

theorem se_loc (wok : WOk W) {i : Nat} (h : Chk W.nm (m + 1) env.kindOf (.loc i) x) (a : At W Φ k A env fs ρ L σ s) : Snd W Φ.q fs A (eval x env) (ev Φ (n + 1) (.loc i) ρ σ) (RelV Φ.q) L s := by
  intro r Q E hr P
  obtain ⟨pos, rfl, hd⟩ := h
  obtain ⟨p, hp, rfl⟩ := rok_some hr
  exact wpAny_Name (name_ok wok a hp fun v r => P.at a.st r) hd
theorem se_glo (wok : WOk W) (gok : GloOk W Φ) {i : Nat} (h : Chk W.nm (m + 1) env.kindOf (.glo i) x) (a : At W Φ k A env fs ρ L σ s) : Snd W Φ.q fs A (eval x env) (ev Φ (n + 1) (.glo i) ρ σ) (RelV Φ.q) L s := by
  intro r Q E hr P
  obtain ⟨pos, rfl, hk, hd⟩ := h
  obtain ⟨p, hp, rfl⟩ := rok_some hr
  obtain ⟨v, hv, r⟩ := gok i p hp
  exact wpAny_Name (glob_ok wok a hk hv (P.at a.st (relV_base a.st.base a.st.offb r))) hd
theorem se_cnone (h : Chk W.nm (m + 1) env.kindOf .cnone x) (a : At W Φ k A env fs ρ L σ s) : Snd W Φ.q fs A (eval x env) (ev Φ (n + 1) .cnone ρ σ) (RelV Φ.q) L s := by
  intro r Q E hr P
  obtain ⟨_, _, rfl, _⟩ := h
  cases hr
  exact wpAny_Constant_none (P.at a.st rfl)
theorem se_cbool {b : Bool} (h : Chk W.nm (m + 1) env.kindOf (.cbool b) x) (a : At W Φ k A env fs ρ L σ s) : Snd W Φ.q fs A (eval x env) (ev Φ (n + 1) (.cbool b) ρ σ) (RelV Φ.q) L s := by
  intro r Q E hr P
  obtain ⟨_, _, rfl, _⟩ := h
  cases hr
  exact wpAny_Constant_bool (P.at a.st rfl)
theorem se_cint {i : Int} (h : Chk W.nm (m + 1) env.kindOf (.cint i) x) (a : At W Φ k A env fs ρ L σ s) : Snd W Φ.q fs A (eval x env) (ev Φ (n + 1) (.cint i) ρ σ) (RelV Φ.q) L s := by
  intro r Q E hr P
  obtain ⟨_, _, rfl, _⟩ := h
  cases hr
  exact wpAny_Constant_int (P.at a.st ⟨_, rfl⟩)
theorem se_cstr {l : List Nat} (h : Chk W.nm (m + 1) env.kindOf (.cstr l) x) (a : At W Φ k A env fs ρ L σ s) : Snd W Φ.q fs A (eval x env) (ev Φ (n + 1) (.cstr l) ρ σ) (RelV Φ.q) L s := by
  intro r Q E hr P
  obtain ⟨_, _, rfl, _⟩ := h
  cases hr
  exact wpAny_Constant_str (P.at a.st ⟨_, rfl⟩)
theorem se_neg (ih : SE W Φ k n) {c : CE} (h : Chk W.nm (m + 1) env.kindOf (.neg c) x) (a : At W Φ k A env fs ρ L σ s) : Snd W Φ.q fs A (eval x env) (ev Φ (n + 1) (.neg c) ρ σ) (RelV Φ.q) L s := by
  intro r Q E hr P
  obtain ⟨y, pos, rfl, h⟩ := h
  refine wpAny_UnaryOp (bnd_ok hr (ih.e h a) P fun p σ₁ v L₁ h₁ tk hf st af rel P₁ => ?_)
  obtain ⟨p', hp, rfl⟩ := rok_some hf
  exact neg_ok hp rel (P₁.kp st)
theorem se_not (ih : SE W Φ k n) {c : CE} (h : Chk W.nm (m + 1) env.kindOf (.not c) x) (a : At W Φ k A env fs ρ L σ s) : Snd W Φ.q fs A (eval x env) (ev Φ (n + 1) (.not c) ρ σ) (RelV Φ.q) L s := by
  intro r Q E hr P
  obtain ⟨y, pos, rfl, h⟩ := h
  refine wpAny_UnaryOp (bnd_ok hr (ih.e h a) P fun p σ₁ v L₁ h₁ tk hf st af rel P₁ => ?_)
  obtain ⟨p', hp, rfl⟩ := rok_some hf
  obtain ⟨b, hb, rfl⟩ := Option.map_eq_some_iff.mp hp
  cases p <;> try (cases hb; done)
  cases hb
  have : v = .bool _ := rel
  subst this
  exact not_value (wpAny_truthy_bool (P₁.at st rfl))
theorem se_bin (ih : SE W Φ k n) {op : Operator} {c d : CE} (h : Chk W.nm (m + 1) env.kindOf (.bin op c d) x) (a : At W Φ k A env fs ρ L σ s) : Snd W Φ.q fs A (eval x env) (ev Φ (n + 1) (.bin op c d) ρ σ) (RelV Φ.q) L s := by
  intro r Q E hr P
  obtain ⟨l, rr, pos, rfl, h1, h2⟩ := h
  refine wpAny_BinOp (bnd_ok hr (ih.e h1 a) P fun p σ₁ v L₁ h₁ tk hf st af rel P₁ => ?_)
  refine bnd_ok hf (ih.e h2 (a.next st af)) P₁ fun p' σ₂ u L₂ h₂ tk₂ hf₂ st₂ af₂ rel₂ P₂ => ?_
  obtain ⟨pr, hp, rfl⟩ := rok_some hf₂
  exact binop_ok hp st₂.lay (af₂.rel (.nil _) (fun _ => rfl) rel) rel₂ (P₂.kp st₂)
theorem units_ok (a : Ar A env fs k) : A.units + 40 < cLine := by have := a.units; lia
theorem se_cmp (ih : SE W Φ k n) {op : CmpOp} {c d : CE} (h : Chk W.nm (m + 1) env.kindOf (.cmp op c d) x) (a : At W Φ k A env fs ρ L σ s) : Snd W Φ.q fs A (eval x env) (ev Φ (n + 1) (.cmp op c d) ρ σ) (RelV Φ.q) L s := by
  intro r Q E hr P
  obtain ⟨l, rr, pos, rfl, h1, h2⟩ := h
  · skip
    refine wpAny_Compare1 (bnd_ok hr (ih.e h1 a) P fun p σ₁ v L₁ h₁ tk hf st af rel P₁ => ?_) (chk_marks h2)
    refine bnd_ok hf (ih.e h2 (a.next st af)) P₁ fun p' σ₂ u L₂ h₂ tk₂ hf₂ st₂ af₂ rel₂ P₂ => ?_
    obtain ⟨pr, hp, rfl⟩ := rok_some hf₂
    obtain ⟨b, hb, rfl⟩ := Option.map_eq_some_iff.mp hp
    exact cmpop_ok hb (af₂.rel (.nil _) (fun _ => rfl) rel) rel₂ (units_ok a.ar) (P₂.at st₂ rfl)
theorem se_cmpNil (ih : SE W Φ k n) {op : CmpOp} {c : CE} (h : Chk W.nm (m + 1) env.kindOf (.cmpNil op c) x) (a : At W Φ k A env fs ρ L σ s) : Snd W Φ.q fs A (eval x env) (ev Φ (n + 1) (.cmpNil op c) ρ σ) (RelV Φ.q) L s := by
  intro r Q E hr P
  obtain ⟨l, lp, pos, rfl, h1⟩ := h
  · skip
    refine wpAny_Compare1 (bnd_ok hr (ih.e h1 a) P fun p σ₁ v L₁ h₁ tk hf st af rel P₁ => ?_) rfl
    obtain ⟨pr, hp, rfl⟩ := rok_some hf
    refine wpAny_List (wpAny_items_nil ⟨by simp, ?_⟩)
    cases op <;> try (cases hp; done)
    obtain ⟨b, hb, rfl⟩ := Option.map_eq_some_iff.mp hp
    have k1 : KA h₁ (h₁.push { cls := .type "list", data := .seq [].toArray }) := KA.push _ _
    refine isNil_ok (b := h₁.objs.size) hb (st.lay.ka k1) (k1.rel rel) ⟨_, Heap.get?_push_size _ rfl, rfl, 0, rfl⟩ (units_ok a.ar) ?_
    exact P₁ _ L₁ _ _ (st.ka k1) (k1.aft [] L₁) rfl
theorem se_ite (ih : SE W Φ k n) {t b o : CE} (h : Chk W.nm (m + 1) env.kindOf (.ite t b o) x) (a : At W Φ k A env fs ρ L σ s) : Snd W Φ.q fs A (eval x env) (ev Φ (n + 1) (.ite t b o) ρ σ) (RelV Φ.q) L s := by
  intro r Q E hr P
  obtain ⟨x1, x2, x3, pos, rfl, h1, h2, h3⟩ := h
  refine wpAny_IfExp (bnd_ok hr (ih.t h1 a) P fun p σ₁ v L₁ h₁ tk hf st af rel P₁ => ?_)
  have : v = p := rel
  subst this
  cases v
  · exact ih.e h3 (a.next st af) r Q E hf P₁
  · exact ih.e h2 (a.next st af) r Q E hf P₁
theorem se_tup (ih : SE W Φ k n) {l : List CE} (h : Chk W.nm (m + 1) env.kindOf (.tup l) x) (a : At W Φ k A env fs ρ L σ s) : Snd W Φ.q fs A (eval x env) (ev Φ (n + 1) (.tup l) ρ σ) (RelV Φ.q) L s := by
  intro r Q E hr P
  obtain ⟨es, p1, pos, rfl, h⟩ := h
  refine wpAny_Tuple (bnd_ok hr (ih.es h a) P fun ps σ₁ vs L₁ h₁ tk hf st af rel P₁ => ?_)
  split at hf
  · rename_i hz
    cases hf
    unfold SZ at hz
    refine ⟨by rw [rel.length, sizeLine_eq]; exact Nat.le_trans hz (by decide), ?_⟩
    have k1 : KA h₁ (h₁.push { cls := .type "tuple", data := .seq vs.toArray }) := KA.push _ _
    refine P₁ _ L₁ _ _ (st.ka k1) (k1.aft [] L₁) ?_
    simp only [RelV]
    exact ⟨_, _, rfl, own_fresh st.lay, ⟨_, Heap.get?_push_size _ rfl, rfl, 0, rfl⟩, k1.rels rel⟩
  · cases hf
theorem se_sub (ih : SE W Φ k n) {c d : CE} (h : Chk W.nm (m + 1) env.kindOf (.sub c d) x) (a : At W Φ k A env fs ρ L σ s) : Snd W Φ.q fs A (eval x env) (ev Φ (n + 1) (.sub c d) ρ σ) (RelV Φ.q) L s := by
  intro r Q E hr P
  obtain ⟨v0, x0, pos, rfl, h1, h2⟩ := h
  refine Subscript_ (bnd_ok hr (ih.e h1 a) P fun p σ₁ v L₁ h₁ tk hf st af rel P₁ => ?_)
  refine bnd_ok hf (ih.e h2 (a.next st af)) P₁ fun p' σ₂ u L₂ h₂ tk₂ hf₂ st₂ af₂ rel₂ P₂ => ?_
  obtain ⟨pr, hp, rfl⟩ := rok_some hf₂
  exact sub_ok (chk_notSlice h2) hp st₂.lay (af₂.rel (.nil _) (fun _ => rfl) rel) rel₂ (P₂.kp st₂)
theorem se_slice (ih : SE W Φ k n) {c : CE} {lo hi : Option CE} (h : Chk W.nm (m + 1) env.kindOf (.slice c lo hi) x) (a : At W Φ k A env fs ρ L σ s) : Snd W Φ.q fs A (eval x env) (ev Φ (n + 1) (.slice c lo hi) ρ σ) (RelV Φ.q) L s := by
  intro r Q E hr P
  obtain ⟨v, l, u, p0, pos, rfl, h1, h2, h3⟩ := h
  refine Subscript_ (bnd_ok hr (ih.e h1 a) P fun p σ₁ v L₁ h₁ tk hf st af rel P₁ => wpAny_Slice ?_)
  refine bnd_ok hf (ih.o h2 (a.next st af)) P₁ fun ol σ₂ vl L₂ h₂ tk₂ hf₂ st₂ af₂ rel₂ P₂ => ?_
  refine bnd_ok hf₂ (ih.o h3 ((a.next st af).next st₂ af₂)) P₂ fun ou σ₃ vu L₃ h₃ tk₃ hf₃ st₃ af₃ rel₃ P₃ => ?_
  obtain ⟨pr, hp, rfl⟩ := rok_some hf₃
  show wpAny _ _ (pure Value.none) _ _ _
  refine wpAny_pure ?_
  have k1 : KA h₃ (h₃.push { cls := .type "slice", data := .fields #[vl, vu, .none] }) := KA.push _ _
  have relO : ∀ {L L' : Lo} {h h' : Heap} {v : Value} {o : Option PV}, Aft [] L h L' h' → RelO Φ.q L h v o → RelO Φ.q L' h' v o := fun {L L' h h' v o} af r => by
    cases o with
    | none => exact r
    | some p => exact af.rel (.nil _) (fun _ => rfl) r
  refine slice_ok hp (st₃.lay.ka k1) (k1.rel (af₃.rel (.nil _) (fun _ => rfl) (af₂.rel (.nil _) (fun _ => rfl) rel))) (relO (k1.aft [] L₃) (relO af₃ rel₂)) (relO (k1.aft [] L₃) rel₃) ⟨_, Heap.get?_push_size _ rfl, rfl, rfl⟩ ?_
  exact (P₃.next (tk := tk₃) (st₃.ka k1) (k1.aft [] L₃)).kp (st₃.ka k1)

theorem st_ext {q : Bool} {h h' : Heap} {p : LO} {o : PO} (x : St W q fs L σ h) (k : KA h h') (h1 : h.get? p.a = none) (h2 : h.get? p.d = none) (lo : LayO W q (L.add [p]) h' p o) : St W q fs (L.add [p]) (σ ++ [o]) h' ∧ Aft [] L h (L.add [p]) h' := by
  have hT : ∀ a ∈ ownT [p], h.get? a = none := fun a ha => by
    obtain ⟨i, r, e, z⟩ := own_mem ha
    have : r = p := by
      cases i with
      | zero => simpa using e.symm
      | succ i => simp at e
    subst this
    rcases z with rfl | rfl <;> assumption
  have af : Aft [] L h (L.add [p]) h' := ⟨⟨[p], rfl, hT⟩, fun b _ _ => k.slt b⟩
  have rl : ∀ {v : Value} {p' : PV}, RelV q L h v p' → RelV q (L.add [p]) h' v p' := fun r => af.rel (.nil _) (fun _ => rfl) r
  have rls : ∀ {vs : List Value} {ps : List PV}, RelVs q L h vs ps → RelVs q (L.add [p]) h' vs ps := fun r => af.rels (.nil _) (fun _ => rfl) r
  refine ⟨⟨fun b o e => k b o (x.base b o e), fun a ha => ?_, ⟨by rw [Lo.l_append]; simp [x.lay.len], ?_, ?_, ?_⟩, x.fr.aft af⟩, af⟩
  · rw [own_append, List.mem_append] at ha
    rcases ha with ha | ha
    · exact x.offb a ha
    · cases e : W.b0.get? a with
      | none => rfl
      | some o' => have := x.base a o' e; rw [hT a ha] at this; cases this
  · have key : ∀ (i : Nat) (r : LO), L.l[i]? = some r → p.a ≠ r.a ∧ p.a ≠ r.d ∧ p.d ≠ r.a ∧ p.d ≠ r.d := fun i r e => by
      obtain ⟨o1, e1⟩ := x.lay.live (mem_own e).1
      obtain ⟨o2, e2⟩ := x.lay.live (mem_own e).2
      refine ⟨fun z => ?_, fun z => ?_, fun z => ?_, fun z => ?_⟩
      · rw [← z, h1] at e1; cases e1
      · rw [← z, h1] at e2; cases e2
      · rw [← z, h2] at e1; cases e1
      · rw [← z, h2] at e2; cases e2
    intro i j p' r e1 e2 hne
    rw [Lo.l_append, List.getElem?_append] at e1 e2
    by_cases hi : i < L.l.length
    · rw [if_pos hi] at e1
      by_cases hj : j < L.l.length
      · rw [if_pos hj] at e2
        exact x.lay.apart i j p' r e1 e2 hne
      · rw [if_neg hj] at e2
        have : r = p := by
          cases q : j - L.l.length with
          | zero => rw [q] at e2; simpa using e2.symm
          | succ => rw [q] at e2; simp at e2
        subst this
        obtain ⟨a, b, c, d⟩ := key i p' e1
        exact ⟨a.symm, c.symm, b.symm, d.symm⟩
    · rw [if_neg hi] at e1
      have : p' = p := by
        cases q : i - L.l.length with
        | zero => rw [q] at e1; simpa using e1.symm
        | succ => rw [q] at e1; simp at e1
      subst this
      by_cases hj : j < L.l.length
      · rw [if_pos hj] at e2
        exact key j r e2
      · exfalso
        rw [if_neg hj] at e2
        have q1 : i - L.l.length = 0 := by
          cases q : i - L.l.length with
          | zero => rfl
          | succ => rw [q] at e1; simp at e1
        have q2 : j - L.l.length = 0 := by
          cases q : j - L.l.length with
          | zero => rfl
          | succ => rw [q] at e2; simp at e2
        omega
  · intro i p' o' e1 e2
    rw [Lo.l_append, List.getElem?_append] at e1
    rw [List.getElem?_append] at e2
    by_cases hi : i < L.l.length
    · rw [if_pos hi] at e1
      rw [if_pos (by rw [← x.lay.len]; exact hi)] at e2
      exact (x.lay.objs i p' o' e1 e2).keep rl rls (k _) (k _)
    · rw [if_neg hi] at e1
      rw [if_neg (by rw [← x.lay.len]; exact hi)] at e2
      have q1 : i - L.l.length = 0 := by
        cases q : i - L.l.length with
        | zero => rfl
        | succ => rw [q] at e1; simp at e1
      rw [q1] at e1
      rw [← x.lay.len, q1] at e2
      simp only [List.getElem?_cons_zero, Option.some.injEq] at e1 e2
      subst e1 e2
      exact lo
  · intro a ha
    obtain ⟨⟨o', e'⟩, hh⟩ := x.lay.hidden a ha
    refine ⟨⟨o', k a o' e'⟩, fun i r e => ?_⟩
    rw [Lo.l_append, List.getElem?_append] at e
    split at e
    · exact hh i r e
    · have : r = p := by
        rename_i hi
        cases q : i - L.l.length with
        | zero => rw [q] at e; simpa using e.symm
        | succ => rw [q] at e; simp at e
      subst this
      exact ⟨fun z => (by rw [z, e'] at h1; cases h1), fun z => (by rw [z, e'] at h2; cases h2)⟩
theorem se_lst (ih : SE W Φ k n) {l : List CE} (h : Chk W.nm (m + 1) env.kindOf (.lst l) x) (a : At W Φ k A env fs ρ L σ s) : Snd W Φ.q fs A (eval x env) (ev Φ (n + 1) (.lst l) ρ σ) (RelV Φ.q) L s := by
  intro r Q E hr P
  obtain ⟨es, pos, rfl, h⟩ := h
  change (if Φ.q = true then .none else _) = some r at hr
  split at hr
  · cases hr
  refine wpAny_List (bnd_ok hr (ih.es h a) P fun ps σ₁ vs L₁ h₁ tk hf st af rel P₁ => ?_)
  split at hf
  · rename_i hz
    cases hf
    unfold SZ at hz
    refine ⟨by rw [rel.length, sizeLine_eq]; omega, ?_⟩
    have k1 : KA h₁ (h₁.push { cls := .type "list", data := .seq vs.toArray }) := KA.push _ _
    have n1 := fresh_none h₁
    obtain ⟨st', af'⟩ := st_ext (p := ⟨h₁.objs.size, h₁.objs.size⟩) (o := .lst ps) st k1 n1 n1 ⟨rfl, vs.toArray, ⟨0, Heap.get?_push_size _ rfl⟩, by
      have af0 : Aft [] L₁ h₁ (L₁.add [(⟨h₁.objs.size, h₁.objs.size⟩ : LO)]) (h₁.push { cls := .type "list", data := .seq vs.toArray }) := ⟨⟨_, rfl, fun a ha => by
        have : a = h₁.objs.size := by simpa [ownT] using ha
        rw [this]; exact n1⟩, fun b _ _ => k1.slt b⟩
      exact af0.rels (.nil _) (fun _ => rfl) rel⟩
    refine P₁ _ _ _ _ st' af' ?_
    simp only [RelV]
    exact ⟨⟨h₁.objs.size, h₁.objs.size⟩, by rw [← st.lay.len, Lo.l_append]; simp, rfl⟩
  · cases hf
theorem se_es (ih : SE W Φ k n) {l : List CE} {xs : List Expr} {pos : Pos} (h : ChkL (Chk W.nm m env.kindOf) l xs) (a : At W Φ k A env fs ρ L σ s) : Snd W Φ.q fs A (spliced (backTo pos (starEach xs env))) (evs Φ (n + 1) l ρ σ) (RelVs Φ.q) L s := by
  intro r Q E hr P
  cases l with
  | nil =>
    obtain rfl := h
    cases hr
    exact wpAny_items_nil (P _ L s.heap s.toks a.st (.refl _ _ _) (by simp [RelVs]))
  | cons c l =>
    obtain ⟨x, xs, rfl, h1, h2⟩ := h
    refine wpAny_items_cons (bnd_ok hr (ih.e h1 a) P fun p σ₁ v L₁ h₁ tk hf st af rel P₁ => ?_) (ok_star h1.ok.1)
    refine bnd_ok hf (ih.es h2 (a.next st af)) P₁ fun ps σ₂ vs L₂ h₂ tk₂ hf₂ st₂ af₂ rel₂ P₂ => ?_
    cases hf₂
    refine P₂ _ L₂ h₂ tk₂ st₂ (.refl _ _ _) ?_
    simp only [RelVs]
    exact ⟨af₂.rel (.nil _) (fun _ => rfl) rel, rel₂⟩
theorem se_o (ih : SE W Φ k n) {c : Option CE} {y : Option Expr} (h : ChkO (Chk W.nm m env.kindOf) c y) (a : At W Φ k A env fs ρ L σ s) : Snd W Φ.q fs A (evalPart y env) (evO Φ (n + 1) c ρ σ) (RelO Φ.q) L s := by
  intro r Q E hr P
  cases c with
  | none =>
    obtain rfl := h
    cases hr
    exact wpAny_pure (P _ L s.heap s.toks a.st (.refl _ _ _) rfl)
  | some c =>
    obtain ⟨y, rfl, h⟩ := h
    show wpAny _ _ (eval y env) _ _ _
    refine bnd_ok hr (ih.e h a) P fun p σ₁ v L₁ h₁ tk hf st af rel P₁ => ?_
    cases hf
    exact P₁ v L₁ h₁ tk st (.refl _ _ _) rel
theorem se_ts (ih : SE W Φ k n) {c : Bool} {l : List CE} {xs : List Expr} (h : ChkL (Chk W.nm m env.kindOf) l xs) (a : At W Φ k A env fs ρ L σ s) :
    Snd W Φ.q fs A (allTrue (if c = true then .And else .Or) xs env) (evTs Φ (n + 1) c l ρ σ) (fun _ _ (b : Bool) (b' : Bool) => b = b') L s := by
  intro r Q E hr P
  cases l with
  | nil =>
    obtain rfl := h
    cases hr
    cases c
    · exact wpAny_allTrue_Or_nil (P _ L s.heap s.toks a.st (.refl _ _ _) rfl)
    · exact wpAny_allTrue_And_nil (P _ L s.heap s.toks a.st (.refl _ _ _) rfl)
  | cons d l =>
    obtain ⟨x, xs, rfl, h1, h2⟩ := h
    cases c
    · refine wpAny_allTrue_Or_cons (bnd_ok hr (ih.t h1 a) P fun b σ₁ v L₁ h₁ tk hf st af rel P₁ => ?_)
      have : v = b := rel
      subst this
      cases v
      · have := ih.ts (c := false) h2 (a.next (tk := tk) st af)
        exact this r Q E hf P₁
      · cases hf
        exact P₁ _ L₁ h₁ tk st (.refl _ _ _) rfl
    · refine wpAny_allTrue_And_cons (bnd_ok hr (ih.t h1 a) P fun b σ₁ v L₁ h₁ tk hf st af rel P₁ => ?_)
      have : v = b := rel
      subst this
      cases v
      · cases hf
        exact P₁ _ L₁ h₁ tk st (.refl _ _ _) rfl
      · have := ih.ts (c := true) h2 (a.next (tk := tk) st af)
        exact this r Q E hf P₁
theorem truth_some {p : PV} {b : Bool} (h : truth p = some b) : p = .bool b := by
  cases p <;> cases h
  rfl
theorem se_b (ih : SE W Φ k n) {c : Bool} {l : List CE} {xs : List Expr} {pos : Pos} (h : ChkL (Chk W.nm m env.kindOf) l xs) (a : At W Φ k A env fs ρ L σ s) :
    Snd W Φ.q fs A (boolOp pos (if c = true then .And else .Or) (evalEach xs env)) (evB Φ (n + 1) c l ρ σ) (RelV Φ.q) L s := by
  intro r Q E hr P
  match l, h with
  | [], h => cases hr
  | [d], h =>
    obtain ⟨x, _, rfl, h1, rfl⟩ := h
    exact ih.e h1 a r Q E hr P
  | d :: d2 :: l, h =>
    obtain ⟨x, _, rfl, h1, h2⟩ := h
    have h3 := h2
    obtain ⟨x2, xs, rfl, _, _⟩ := h3
    show wpAny _ _ (do let v ← eval x env; standAt pos; let t ← holding [v] (truthy v); match (if c = true then BoolOp.And else .Or), t with | .And, false | .Or, true => pure v | _, _ => boolOp pos (if c = true then BoolOp.And else .Or) (evalEach (x2 :: xs) env)) _ _ _
    refine wpAny_bind (bnd_ok hr (ih.e h1 a) P fun p σ₁ v L₁ h₁ tk hf st af rel P₁ => ?_)
    refine wpAny_bind (wpAny_standAt ?_)
    split at hf
    · rename_i b hb
      obtain rfl := truth_some hb
      have : v = .bool b := rel
      subst this
      refine wpAny_bind (wpAny_holding (wpAny_truthy_bool ?_))
      have nx := ih.b (c := c) (pos := pos) (l := d2 :: l) (xs := x2 :: xs) h2 (a.next (tk := tk) st af)
      cases c <;> cases b
      · exact nx r Q E hf P₁
      · cases hf
        exact wpAny_pure (P₁ _ L₁ h₁ tk st (.refl _ _ _) rfl)
      · cases hf
        exact wpAny_pure (P₁ _ L₁ h₁ tk st (.refl _ _ _) rfl)
      · exact nx r Q E hf P₁
    · cases hf
theorem se_bop (ih : SE W Φ k n) {c : Bool} {l : List CE} (h : Chk W.nm (m + 1) env.kindOf (.bop c l) x) (a : At W Φ k A env fs ρ L σ s) : Snd W Φ.q fs A (eval x env) (ev Φ (n + 1) (.bop c l) ρ σ) (RelV Φ.q) L s := by
  intro r Q E hr P
  obtain ⟨es, pos, rfl, h⟩ := h
  exact ih.b (c := c) (pos := pos) h a r Q E hr P
theorem isTrue_easy {x : Expr} {env : Env} (h : easyE x = true) (whole : Sem Value) : isTrue x env whole = (do let v ← whole; standAt x.pos; holding [v] (truthy v)) := by
  cases x <;> first | rfl | (cases h; done)
theorem se_t (ih : SE W Φ k n) {c : CE} (h : Chk W.nm m env.kindOf c x) (a : At W Φ k A env fs ρ L σ s) : Snd W Φ.q fs A (isTrue x env (eval x env)) (evT Φ (n + 1) c ρ σ) (fun _ _ (b : Bool) (b' : Bool) => b = b') L s := by
  have other : (evT Φ (n + 1) c ρ σ = bnd (ev Φ n c ρ σ) fun v σ => rok (truth v) σ) → (∀ whole, isTrue x env whole = (do let v ← whole; standAt x.pos; holding [v] (truthy v))) → Snd W Φ.q fs A (isTrue x env (eval x env)) (evT Φ (n + 1) c ρ σ) (fun _ _ (b : Bool) (b' : Bool) => b = b') L s := fun he hi r Q E hr P => by
    rw [he] at hr
    refine wpAny_isTrue_value (bnd_ok hr (ih.e h a) P fun p σ₁ v L₁ h₁ tk hf st af rel P₁ => ?_) (hi _)
    obtain ⟨b, hb, rfl⟩ := rok_some hf
    obtain rfl := truth_some hb
    have : v = .bool b := rel
    subst this
    exact wpAny_truthy_bool (P₁ _ L₁ h₁ tk st (.refl _ _ _) rfl)
  cases m with
  | zero => exact h.elim
  | succ m =>
  have cmpCase : (∀ whole, isTrue x env whole = eval x env >>= fun c => holding [c] (truthy c)) → (evT Φ (n + 1) c ρ σ = bnd (ev Φ n c ρ σ) fun v σ => rok (truth v) σ) → Snd W Φ.q fs A (isTrue x env (eval x env)) (evT Φ (n + 1) c ρ σ) (fun _ _ (b : Bool) (b' : Bool) => b = b') L s := fun hi he r Q E hr P => by
    rw [he] at hr
    rw [hi]
    refine wpAny_bind (bnd_ok hr (ih.e h a) P fun p σ₁ v L₁ h₁ tk hf st af rel P₁ => ?_)
    obtain ⟨b, hb, rfl⟩ := rok_some hf
    obtain rfl := truth_some hb
    have : v = .bool b := rel
    subst this
    exact wpAny_holding (wpAny_truthy_bool (P₁ _ L₁ h₁ tk st (.refl _ _ _) rfl))
  cases c with
  | not d =>
    intro r Q E hr P
    obtain ⟨y, pos, rfl, h⟩ := h
    refine wpAny_isTrue_Not (bnd_ok hr (ih.t (m := m) h a) P fun p σ₁ v L₁ h₁ tk hf st af rel P₁ => ?_)
    cases hf
    exact P₁ _ L₁ h₁ tk st (.refl _ _ _) (by have : v = p := rel; rw [this])
  | bop b l =>
    intro r Q E hr P
    obtain ⟨es, pos, rfl, h⟩ := h
    exact wpAny_isTrue_BoolOp (ih.ts (c := b) h a r Q E hr P)
  | ite t b o =>
    intro r Q E hr P
    obtain ⟨x1, x2, x3, pos, rfl, h1, h2, h3⟩ := h
    rw [arm_isTrue_IfExp]
    refine wpAny_bind (bnd_ok hr (ih.t h1 a) P fun p σ₁ v L₁ h₁ tk hf st af rel P₁ => ?_)
    have : v = p := rel
    subst this
    cases v
    · exact ih.t h3 (a.next st af) r Q E hf P₁
    · exact ih.t h2 (a.next st af) r Q E hf P₁
  | cmp op c d =>
    obtain ⟨l, rr, pos, rfl, _, _⟩ := h
    refine cmpCase (fun whole => ?_) rfl
    rw [isTrue_Compare1, eval_Compare1]
    simp only [bind_assoc]
  | cmpNil op c =>
    obtain ⟨l, lp, pos, rfl, _⟩ := h
    refine cmpCase (fun whole => ?_) rfl
    rw [isTrue_Compare1, eval_Compare1]
    simp only [bind_assoc]
  | neg d =>
    obtain ⟨y, pos, rfl, h⟩ := h
    exact other rfl (fun _ => rfl)
  | _ => exact other rfl (isTrue_easy (h.ok.2 rfl))
end
end Mine
end
/-! M7b: a field of an exception's own dict is read -/
section
set_option autoImplicit false
set_option linter.unusedVariables false
set_option linter.unusedSimpArgs false
set_option maxRecDepth 100000
namespace Mine
open PySem PySem.W PySem.Calls PyProof.Rows
section
variable {prog : Program} {w : World} {A : Around} {E : Value → Shared → Prop} {s : Shared} {K : Frag} {x C : Addr} {ox : Obj} {od : Option Obj} {name : Str} {expr : Bool} {Q : Value → Shared → Prop}
theorem exn_check {M : Model} {nameV : Value} {Q : Unit → Shared → Prop} (X : K.In s.heap) (I : InstAt s.heap x ox C od) (hb : mroIn K C (.type "BaseException") = some true) (hq : Q () s) :
    wpAny M A (checkBuiltinCall "BaseException.__getattribute__" ⟨[.ref x, nameV], []⟩) Q E s := by
  have hk : builtinKind "BaseException.__getattribute__" = some .slot := by decide +kernel
  have hsplit : splitId "BaseException.__getattribute__" = some ("BaseException", "__getattribute__") := by decide +kernel
  have ha := F.args_bexc_ga (.ref x) nameV
  have L0 := I.type (M := M)
  have L1 := looks_mroIn (M := M) X hb
  have L2 : Looks M s.heap (isInstance (.ref x) (.type "BaseException")) true := L0.andThen L1
  simp only [checkBuiltinCall, hk, hsplit]
  refine wpAny_bind (L2.here ?_)
  repeat wp_step
  exact hq
theorem exn_get {v : Value} (X : K.In s.heap) (I : InstAt s.heap x ox C od) (hga : findIn K (.ref C) "__getattribute__" = some (some (.builtin "BaseException.__getattribute__"))) (hgt : findIn K (.ref C) "__getattr__" = some none) (hb : mroIn K C (.type "BaseException") = some true)
    (hf : findObj K C od name = some (.value v)) (hh : handedIn v = true) (h : Q v { s with toks := s.toks + 1 }) : wpAny (model prog w) A (getAttr (.ref x) name expr) Q E s := by
  have L0 := I.type (M := model prog w)
  have L1 := looks_findIn (M := model prog w) X hga
  have L2 := looks_findIn (M := model prog w) X hgt
  have L3 := looks_find (M := model prog w) X I hf
  have hx2 : (Value.builtin "BaseException.__getattribute__" == Value.builtin "object.__getattribute__") = false := by decide +kernel
  have hx1 : (onTheHeap (Value.ref C) && Value.builtin "BaseException.__getattribute__" == Value.builtin "object.__getattribute__") = false := by rw [hx2]; rfl
  have hx0 : (expr && onTheHeap (Value.builtin "BaseException.__getattribute__")) = false := by cases expr <;> rfl
  have f3 := PySem.F.attrBase_Exception.ga.bind (.ref x)
  obtain ⟨hp, g, d, t, os⟩ := s
  unfold getAttr getAttrBy
  refine wpAny_bind (wpAny_mkText (wpAny_holding (wpAny_bind (L0.at (wpAny_bind (L1.at ?_))))))
  dsimp only
  rw [hx1]
  simp only [Bool.false_eq_true, if_false]
  unfold getAttrByItsOwn hookBefore
  refine wpAny_bind ?_
  show wpAny _ _ (typeLookup (.ref C) "__getattr__") _ _ _
  refine L2.at ?_
  refine wpAny_bind (wpAny_attempt (wpAny_holding ?_))
  unfold callGetattribute
  rw [hx0]
  simp only [Bool.false_eq_true, if_false]
  unfold boundAndCalled
  rw [f3]
  refine wpAny_bind (wpAny_pure ?_)
  refine wpAny_call (codeAny_call_builtin PySem.F.attrBase_Exception.ga.plain F.entry_bexc_ga (exn_check (s := ⟨hp, g, d, t + 1, os⟩) X I hb ?_))
  unfold Builtin.«object.__getattribute__»
  refine wpAny_bind (wpAny_pure (wpAny_bind (wpAny_pure (wpAny_bind (L0.at (wpAny_bind (L3.at ?_)))))))
  refine wpAny_pure ?_
  show wpAny _ _ (handedOut v) _ _ _
  rw [handedOut_of hh]; exact wpAny_pure h
end
end Mine
end
/-! M8: calls, methods, fields -/
section
set_option autoImplicit false
set_option linter.unusedVariables false
set_option linter.unusedSimpArgs false
namespace Mine
open PySem PySem.W PyProof.Rows

structure WK (W : Wd) (K : Frag) : Prop extends WOk W where
  kin : K.In W.b0
  att : ∀ c x, c = 6 → x < 3 → plainGet K (W.cls c) (W.nm x) = true ∧ hasDictIn K (W.cls c) = true ∧ ∃ attr, findIn K (.ref (W.cls c)) (W.nm x) = some attr ∧ noGet K attr = true
  fault : findIn K (.ref textFaultA) "__getattribute__" = some (some (.builtin "BaseException.__getattribute__")) ∧ findIn K (.ref textFaultA) "__getattr__" = some none ∧ mroIn K textFaultA (.type "BaseException") = some true ∧
    hasDictIn K textFaultA = true ∧ ∃ attr, findIn K (.ref textFaultA) (W.nm spotName) = some attr ∧ noGet K attr = true

noncomputable def CallOk (W : Wd) (k : Nat) (f : Value) (args : List PV) (σ : Store) (r : R PV) : Prop :=
  ∀ A env fs s L vs Q E, Ar A env fs k → A.handled = none → St W false fs L σ s.heap → RelVs false L s.heap vs args → Post W false fs (RelV false) L s r Q E → wpAny (model W.prog W.w) A (call f vs) Q E s
structure SigOk (W : Wd) (K : Frag) (Φ : Sig) (k : Nat) : Prop where
  glo : GloOk W Φ
  kn : ∀ f, Φ.kn f = true → ∃ v, W.mg (W.nm f) = some v ∧ keepIn K v = true ∧ ∀ args σ r, Φ.fn f args σ = some r → CallOk W k v args σ r
  km : ∀ c m, Φ.km c m = true → ∃ f, findIn K (.ref (W.cls c)) (W.nm m) = some (some (.ref f)) ∧ isFn K (.ref f) = true ∧ keepIn K (.ref f) = true ∧ plainGet K (W.cls c) (W.nm m) = true ∧
    ∀ j args σ r, Φ.meth c m j args σ = some r → CallOk W k (.ref f) (.ref j :: args) σ r

section
variable {M : Model} {A : Around} {E : Value → Shared → Prop} {s : Shared}
theorem evalArgs_of {f : Value} {l : List (Bool × Sem Value)} {Q : Args → Shared → Prop} (hp : l.any (·.1) = false) (h : wpAny M A (spliced l) (fun vs s' => Q ⟨vs, []⟩ s') E s) : wpAny M A (evalArgs f true l []) Q E s := by
  cases l with
  | nil =>
    unfold evalArgs
    show wpAny M A (spliced [] >>= _) Q E s
    refine wpAny_bind (wpAny_mono h (fun vs s' h' => ?_) fun _ _ x => x)
    refine wpAny_holding ?_
    exact wpAny_bind (wpAny_pure (wpAny_bind (wpAny_pure (wpAny_pure h'))))
  | cons p r =>
    obtain ⟨b, x⟩ := p
    cases b
    · exact Calls.evalArgs_plain h
    · simp at hp
theorem base_of {o : Expr} {a : Str} {env : Env} {whole : Sem Value} (h : notCall o = true) : attributeBase o a env whole = whole := by
  cases o
  case Call f args kw pos =>
    cases f <;> try rfl
    cases args <;> try rfl
    cases kw
    · cases h
    · rfl
  all_goals rfl
end

section
variable {W : Wd} {K : Frag} {Φ : Sig} {k n m : Nat} {A : Around} {env : Env} {fs : List Env} {ρ : Loc} {L : Lo} {σ : Store} {s : Shared} {x : Expr}

theorem chkL_star {kd : Str → Option NameKind} {pos : Pos} : ∀ {l : List CE} {es : List Expr}, ChkL (Chk W.nm m kd) l es → (backTo pos (starEach es env)).any (·.1) = false
  | [], es, h => by
    obtain rfl := h
    rfl
  | c :: l, es, h => by
    obtain ⟨e, es, rfl, h1, h2⟩ := h
    rw [ok_star h1.ok.1]
    have := chkL_star (pos := pos) h2
    simpa [backTo] using this

/-- a call's arguments are told, then the call is made -/
theorem args_ok (ih : SE W Φ k n) {l : List CE} {es : List Expr} {pos : Pos} {f : Value} {first : List Value} {g : List PV → Store → Option (R PV)} {r : R PV} {Q : Value → Shared → Prop} {E : Value → Shared → Prop}
    (h : ChkL (Chk W.nm m env.kindOf) l es) (a : At W Φ k A env fs ρ L σ s) (hk : ∀ h, W.b0.StaysIn h → ∃ k, (k = Keeper.frame ∨ k = Keeper.machine ∨ k = Keeper.boundFrame) ∧ Looks (model W.prog W.w) h (keeperOf f) k)
    (hr : bnd (evs Φ n l ρ σ) g = some r) (P : Post W Φ.q fs (RelV Φ.q) L s r Q E)
    (hc : ∀ ps σ₁ vs L₁ h₁ tk, g ps σ₁ = some r → St W Φ.q fs L₁ σ₁ h₁ → Aft [] L s.heap L₁ h₁ → RelVs Φ.q L₁ h₁ vs ps → Post W Φ.q fs (RelV Φ.q) L₁ { s with heap := h₁, toks := tk } r Q E →
      wpAny (model W.prog W.w) A (call f (first ++ vs)) Q E { s with heap := h₁, toks := tk }) :
    wpAny (model W.prog W.w) A (callWith pos f first (backTo pos (starEach es env)) []) Q E s := by
  refine callWith_of (P := fun h => W.b0.StaysIn h) (by rw [chkL_star h]; rfl) hk ?_
  refine evalArgs_of (chkL_star h) (bnd_ok hr (ih.es h a) P fun ps σ₁ vs L₁ h₁ tk hf st af rel P₁ => ⟨st.base, hc ps σ₁ vs L₁ h₁ tk hf st af rel P₁⟩)

theorem keeps_bi (b : Bi) (M : Model) (h : Heap) : ∃ k, (k = Keeper.frame ∨ k = Keeper.machine ∨ k = Keeper.boundFrame) ∧ Looks M h (keeperOf (biVal b)) k :=
  ⟨.machine, .inr (.inl rfl), .of_pure (by cases b <;> rfl)⟩

theorem se_bi (wok : WOk W) (ih : SE W Φ k n) {b : Bi} {l : List CE} (h : Chk W.nm (m + 1) env.kindOf (.bi b l) x) (a : At W Φ k A env fs ρ L σ s) : Snd W Φ.q fs A (eval x env) (ev Φ (n + 1) (.bi b l) ρ σ) (RelV Φ.q) L s := by
  intro r Q E hr P
  obtain ⟨p, es, pos, rfl, hk, hd, hl⟩ := h
  · skip
    change @ite _ _ _ _ _ = some r at hr
    split at hr
    · cases hr
    rename_i hq
    rw [arm_eval_Call_Name']
    refine wpAny_bind (wpAny_Name (built_ok wok a hk ?_) hd)
    refine args_ok ih hl a (fun h _ => keeps_bi b _ h) hr P fun ps σ₁ vs L₁ h₁ tk hf st af rel P₁ => ?_
    obtain ⟨p', hp, rfl⟩ := rok_some hf
    refine bi_ok hp st.lay rel (fun e => a.hq ?_) (P₁.kp st)
    cases hqq : Φ.q with
    | false => rfl
    | true => exact absurd ⟨hqq, e⟩ hq

theorem q_false {b : Bool} (h : ¬ b = true) : b = false := by cases b <;> simp at h ⊢
theorem se_call (wk : WK W K) (so : SigOk W K Φ k) (ih : SE W Φ k n) {f : Nat} {l : List CE} (h : Chk W.nm (m + 1) env.kindOf (.call f l) x) (a : At W Φ k A env fs ρ L σ s) : Snd W Φ.q fs A (eval x env) (ev Φ (n + 1) (.call f l) ρ σ) (RelV Φ.q) L s := by
  intro r Q E hr P
  obtain ⟨p, es, pos, rfl, hk, hd, hl⟩ := h
  · skip
    change @ite _ _ _ _ _ = some r at hr
    split at hr
    · cases hr
    rename_i hq
    rw [not_or] at hq
    have hq' := q_false hq.1
    have hkn : Φ.kn f = true := by simpa using hq.2
    obtain ⟨v, hv, hkeep, hcall⟩ := so.kn f hkn
    rw [arm_eval_Call_Name']
    refine wpAny_bind (wpAny_Name (glob_ok wk.toWOk a hk hv ?_) hd)
    refine args_ok ih hl a (fun h hb => keeps_K hkeep h (wk.kin.keeps hb)) hr P fun ps σ₁ vs L₁ h₁ tk hf st af rel P₁ => ?_
    rw [hq'] at st rel P₁
    exact hcall ps σ₁ r hf A env fs _ L₁ vs Q E a.ar (a.hq hq') st rel P₁

/-- a record's entries, by name -/
theorem ents_keys {q : Bool} {L : Lo} {h : Heap} : ∀ {es : List DictEntry} {l : List (Nat × PV)}, Ents W q L h es l → es.any (·.refKey) = false
  | [], [], _ => rfl
  | e :: es, (x, p) :: l, H => by
    simp only [Ents] at H
    obtain ⟨⟨t, ht⟩, _, hr⟩ := H
    rw [List.any_cons, ents_keys hr]
    unfold DictEntry.refKey
    rw [ht]; rfl
  | [], _ :: _, H => by simp [Ents] at H
  | _ :: _, [], H => by simp [Ents] at H
theorem ents_get (wok : WOk W) {q : Bool} {L : Lo} {h : Heap} : ∀ {es : List DictEntry} {l : List (Nat × PV)}, Ents W q L h es l → ∀ x, (∀ p, lk l x = some p → ∃ v, getL (W.nm x) es = some (some v) ∧ RelV q L h v p) ∧ (lk l x = none → getL (W.nm x) es = some none)
  | [], [], _, x => ⟨fun p e => by simp [lk] at e, fun _ => rfl⟩
  | e :: es, (y, p) :: l, H, x => by
    have hk := ents_keys H
    simp only [Ents] at H
    obtain ⟨⟨t, ht⟩, hv, hr⟩ := H
    have ih := ents_get wok hr x
    have hk' := ents_keys hr
    by_cases e1 : y = x
    · subst e1
      refine ⟨fun p' e2 => ?_, fun e2 => ?_⟩
      · simp only [lk, if_true, Option.some.injEq] at e2
        subst e2
        refine ⟨e.val, ?_, hv⟩
        unfold getL
        rw [List.find?_cons_of_pos (by rw [ht]; simp [Value.isStr])]
      · simp [lk] at e2
    · have e3 : e.key.isStr (W.nm x) = false := by
        rw [ht]
        simp only [Value.isStr, beq_eq_false_iff_ne, ne_eq]
        exact fun z => e1 (wok.inj _ _ z)
      have e4 : getL (W.nm x) (e :: es) = getL (W.nm x) es := by
        unfold getL
        rw [List.find?_cons_of_neg (by rw [e3]; simp), hk, hk']
      rw [e4]
      simp only [lk, if_neg e1]
      exact ih
  | [], _ :: _, H, _ => by simp [Ents] at H
  | _ :: _, [], H, _ => by simp [Ents] at H
theorem rel_handed {q : Bool} {L : Lo} {h : Heap} {v : Value} {p : PV} (r : RelV q L h v p) : handedIn v = true := by
  cases p <;> simp only [RelV] at r
  case none => subst r; rfl
  case bool => subst r; rfl
  case int => obtain ⟨t, rfl⟩ := r; rfl
  case str => obtain ⟨t, rfl⟩ := r; rfl
  case tup => obtain ⟨a, vs, rfl, _⟩ := r; rfl
  case lst => obtain ⟨a, vs, rfl, _⟩ := r; rfl
  case rng => obtain ⟨a, t, u, w, rfl, _⟩ := r; rfl
  case ref => obtain ⟨p, _, rfl⟩ := r; rfl
  case exn => obtain ⟨_, e, d, rfl, _⟩ := r; rfl

theorem se_attr (wk : WK W K) (ih : SE W Φ k n) {c : CE} {y : Nat} (h : Chk W.nm (m + 1) env.kindOf (.attr c y) x) (a : At W Φ k A env fs ρ L σ s) : Snd W Φ.q fs A (eval x env) (ev Φ (n + 1) (.attr c y) ρ σ) (RelV Φ.q) L s := by
  intro r Q E hr P
  obtain ⟨vi, vp, pos, rfl, hy, hc⟩ := h
  · skip
    rw [arm_eval_Attribute]
    refine wpAny_bind ?_
    rw [base_of rfl]
    refine bnd_ok hr (ih.e hc a) P fun p σ₁ v L₁ h₁ tk hf st af rel P₁ => ?_
    refine wpAny_bind (wpAny_standAt (wpAny_bind (wpAny_holding ?_)))
    obtain ⟨p', hp, rfl⟩ := rok_some hf
    have fin : ∀ v', RelV Φ.q L₁ h₁ v' p' → wpAny (model W.prog W.w) A (letTemporaryGo (Expr.Name vi vp) v v' >>= fun _ => pure v') Q E { s with heap := h₁, toks := tk + 1 } := fun v' rv => by
      refine wpAny_bind (wpAny_pure (wpAny_pure ?_))
      exact P₁ v' L₁ h₁ (tk + 1) st (.refl _ _ _) rv
    unfold attrop at hp
    split at hp
    · rename_i j
      simp only [RelV] at rel
      obtain ⟨pl, hpl, rfl⟩ := rel
      split at hp
      · rename_i cc l hs
        split at hp
        case isFalse => cases hp
        rename_i hcc
        obtain ⟨_, ho, es, en, hd, _, hen⟩ := st.lay.objs j pl _ hpl hs
        obtain ⟨v', hg, rv⟩ := (ents_get wk.toWOk hen y).1 p' hp
        obtain ⟨h1, h2, attr, h3, h4⟩ := wk.att cc y hcc hy
        refine get_value (s := { s with heap := h₁, toks := tk }) (wk.kin.keeps st.base) (ox := instObj (W.cls cc) pl.d) (od := some (dictOf es en)) ⟨ho, rfl, rfl, hd⟩ (plainGet_of h1).1 (findObj_own h2 h3 h4 ?_) (rel_handed rv) (fin v' rv)
        rw [lookIn_dict]; exact hg
      · cases hp
    · rename_i i
      split at hp
      · rename_i hsp
        cases hp
        simp only [RelV] at rel
        obtain ⟨hq, e, d, rfl, he, hd, vs, od, es, en, t, g1, g2, g3, g4, g5⟩ := rel
        obtain ⟨f1, f2, f3, h2, attr, h3, h4⟩ := wk.fault
        rw [hsp]
        refine exn_get (s := { s with heap := h₁, toks := tk }) (wk.kin.keeps st.base) (ox := { cls := .ref textFaultA, dict := some d, data := .fields vs }) (od := some od) ⟨g1, rfl, rfl, g2⟩ f1 f2 f3 (findObj_own (v := .int i t) h2 h3 h4 ?_) rfl (fin _ ⟨t, rfl⟩)
        rw [wk.spot]
        unfold lookIn
        rw [g4]
        exact g5
      · cases hp
    · cases hp

theorem meth_walk {o : Expr} {name : Str} {apos pos : Pos} {args : List Expr} {Q : Value → Shared → Prop} {E : Value → Shared → Prop} {M : Model}
    (hb : notCall o = true) (hline : (apos.endLine == pos.line) = true) (hn : args.length < 20) (hp : (backTo pos (starEach args env)).any (·.1) = false)
    (h : wpAny M A (eval o env) (fun ov s₁ => ∀ pl, wpAny M A (getMethod ov name pl) (fun f s₂ => wpAny M A (callWith pos f.1 f.2 (backTo pos (starEach args env)) []) Q E s₂) E s₁) E s) :
    wpAny M A (eval (.Call (.Attribute o name apos) args [] pos) env) Q E s := by
  rw [arm_eval_Call]
  refine wpAny_bind ?_
  rw [base_of hb]
  refine wpAny_mono h (fun ov s₁ h₁ => ?_) fun _ _ e => e
  refine wpAny_bind (wpAny_standAt ?_)
  have hform : methodCallForm (args.length + ([] : List Keyword).length) (backTo pos (starEach args env)) (backToKw pos (keywordEach [] env)) = true := by
    unfold methodCallForm
    have h1 : (backTo pos (starEach args env)).all (fun x => !x.1) = true := by
      rw [List.all_eq_not_any_not]
      simpa using hp
    rw [h1]
    simp [backToKw, keywordEach]
    exact Nat.lt_of_lt_of_le hn (by decide)
  have hpos : methodCallPos true o env apos pos = pure pos := by unfold methodCallPos; simp [hline]
  unfold methodCall
  rw [hform]
  unfold calleeOf
  rw [if_pos rfl]
  refine wpAny_bind (wpAny_holding (wpAny_mono (h₁ _) (fun f s₂ h₂ => ?_) fun _ _ e => e))
  exact wpAny_bind (wpAny_of_eq hpos h₂)

theorem se_meth (wk : WK W K) (so : SigOk W K Φ k) (ih : SE W Φ k n) {c : CE} {y : Nat} {l : List CE} (h : Chk W.nm (m + 1) env.kindOf (.meth c y l) x) (a : At W Φ k A env fs ρ L σ s) : Snd W Φ.q fs A (eval x env) (ev Φ (n + 1) (.meth c y l) ρ σ) (RelV Φ.q) L s := by
  intro r Q E hr P
  obtain ⟨v, ap, es, pos, rfl, hb, hline, hn, hc, hl⟩ := h
  · skip
    change @ite _ _ _ _ _ = some r at hr
    split at hr
    · cases hr
    rename_i hq
    have hq' := q_false hq
    refine meth_walk hb (hline) hn (chkL_star hl) (bnd_ok hr (ih.e hc a) P fun p σ₁ v₁ L₁ h₁ tk hf st af rel P₁ pl => ?_)
    split at hf
    · rename_i j
      split at hf
      · rename_i cc at_ hs
        split at hf
        · cases hf
        rename_i hno
        rw [not_or] at hno
        have hkm : Φ.km cc y = true := by simpa using hno.2
        have hsl : lk at_ y = none := by
          cases z : lk at_ y with
          | none => rfl
          | some _ => exact absurd (by rw [z]; rfl) hno.1
        simp only [RelV] at rel
        obtain ⟨pl', hpl, rfl⟩ := rel
        obtain ⟨_, ho, ens, en, hd, _, hen⟩ := st.lay.objs j pl' _ hpl hs
        obtain ⟨f, f1, f2, f3, f4, f5⟩ := so.km cc y hkm
        have hg := (ents_get wk.toWOk hen y).2 hsl
        refine method_fn (s := { s with heap := h₁, toks := tk }) (wk.kin.keeps st.base) (ox := instObj (W.cls cc) pl'.d) (od := some (dictOf ens en)) ⟨ho, rfl, rfl, hd⟩ (plainGet_of f4).1 (plainGet_of f4).2 f1 (beq_iff_eq.mp f2) (by show (lookIn _ (dictOf ens en)).map _ = _; rw [lookIn_dict, hg]; rfl) ?_
        refine args_ok ih hl (a.next st af) (fun h hb => keeps_K f3 h (wk.kin.keeps hb)) hf P₁ fun ps σ₂ vs L₂ h₂ tk₂ hf₂ st₂ af₂ rel₂ P₂ => ?_
        rw [hq'] at st₂ rel₂ P₂
        refine f5 j ps σ₂ r hf₂ A env fs _ L₂ (.ref pl'.a :: vs) Q E a.ar (a.hq hq') st₂ ?_ P₂
        simp only [RelVs, RelV]
        refine ⟨⟨pl', ?_, rfl⟩, rel₂⟩
        obtain ⟨⟨T, rfl, _⟩, _⟩ := af₂
        rw [Lo.l_append, List.getElem?_append_left (List.getElem?_eq_some_iff.mp hpl).1]
        exact hpl
      · cases hf
    · cases hf

theorem ascii_digit {c : Nat} (h : c < 128) : Unicode.isDigit c = isDig c := by
  have : ∀ c : Fin 128, Unicode.isDigit c.val = isDig c.val := by decide +kernel
  exact this ⟨c, h⟩
theorem digit_txt {l : List Nat} (h : l.all (fun c => Nat.blt c 128) = true) : Txt.isdigit ⟨l.toArray⟩ = (!l.isEmpty && l.all isDig) := by
  unfold Txt.isdigit
  have e : (⟨l.toArray⟩ : Str).cps.all Unicode.isDigit = l.all isDig := by
    show l.toArray.all Unicode.isDigit = _
    rw [List.all_toArray]
    apply Bool.eq_iff_iff.mpr
    simp only [List.all_eq_true]
    exact ⟨fun z c hc => (ascii_digit (by simpa using List.all_eq_true.mp h c hc)) ▸ z c hc, fun z c hc => (ascii_digit (by simpa using List.all_eq_true.mp h c hc)).symm ▸ z c hc⟩
  rw [e]
  cases l <;> simp [Str.length]

theorem se_mdig (ih : SE W Φ k n) {c : CE} (h : Chk W.nm (m + 1) env.kindOf (.mdig c) x) (a : At W Φ k A env fs ρ L σ s) : Snd W Φ.q fs A (eval x env) (ev Φ (n + 1) (.mdig c) ρ σ) (RelV Φ.q) L s := by
  intro r Q E hr P
  obtain ⟨v, ap, pos, rfl, hb, hline, hc⟩ := h
  · skip
    refine Call_method0 (base_of hb) (hline) (bnd_ok hr (ih.e hc a) P fun p σ₁ v₁ L₁ h₁ tk hf st af rel P₁ => ?_)
    split at hf
    · rename_i l
      split at hf
      · rename_i hz
        cases hf
        obtain ⟨t, rfl⟩ := rel
        refine SB.isdigit ?_
        rw [digit_txt hz]
        exact P₁ _ L₁ h₁ tk st (.refl _ _ _) rfl
      · cases hf
    · cases hf

theorem upd_keep {h : Heap} {a : Addr} {f : Obj → Obj} : ∀ b o, b ≠ a → h.get? b = some o → (h.update a f).get? b = some o := fun b o hb e => by
  rw [Heap.get?_update_other _ _ (Ne.symm hb)]; exact e
/-- an owned object is turned -/
theorem st_upd {q : Bool} {h h' : Heap} {p : LO} {o o' : PO} {j : Nat} (x : St W q fs L σ h) (hp : L.l[j]? = some p) (k : ∀ b o, b ≠ p.a → b ≠ p.d → h.get? b = some o → h'.get? b = some o)
    (lo : (∀ {v : Value} {pv : PV}, RelV q L h v pv → RelV q L h' v pv) → (∀ {vs : List Value} {ps : List PV}, RelVs q L h vs ps → RelVs q L h' vs ps) → LayO W q L h' p o') : St W q fs L (σ.set j o') h' ∧ Aft [] L h L h' := by
  have hm := mem_own hp
  have hmT := mem_ownT hp
  have kk : ∀ b, b ∉ ownT L.l → Slt h h' b := fun b hb => .of_some fun o e => k b o (fun z => hb (z ▸ hmT.1)) (fun z => hb (z ▸ hmT.2)) e
  have af : Aft [] L h L h' := ⟨⟨[], L.append_nil.symm, fun _ z => by simp [ownT] at z⟩, fun b hb _ => kk b hb⟩
  have rl : ∀ {v : Value} {pv : PV}, RelV q L h v pv → RelV q L h' v pv := fun r => af.rel (.nil _) (fun _ => rfl) r
  have rls : ∀ {vs : List Value} {ps : List PV}, RelVs q L h vs ps → RelVs q L h' vs ps := fun r => af.rels (.nil _) (fun _ => rfl) r
  refine ⟨⟨fun b o e => k b o (fun z => ?_) (fun z => ?_) (x.base b o e), x.offb, ⟨?_, x.lay.apart, fun i pi oi e1 e2 => ?_, fun a ha => ?_⟩, ?_⟩, af⟩
  · rw [z, x.offb _ hm.1] at e; cases e
  · rw [z, x.offb _ hm.2] at e; cases e
  · rw [List.length_set]; exact x.lay.len
  · by_cases hij : i = j
    · subst hij
      rw [hp] at e1; cases e1
      rw [List.getElem?_set_self (by
        have := (List.getElem?_eq_some_iff.mp hp).1
        rw [x.lay.len] at this; exact this)] at e2
      cases e2
      exact lo rl rls
    · rw [List.getElem?_set_ne (Ne.symm hij)] at e2
      obtain ⟨a1, a2, a3, a4⟩ := x.lay.apart i j pi p e1 hp hij
      exact (x.lay.objs i pi oi e1 e2).keep rl rls (fun o => k _ o a1 a2) (fun o => k _ o a3 a4)
  · obtain ⟨⟨o', e'⟩, hh⟩ := x.lay.hidden a ha
    obtain ⟨h1, h2⟩ := hh j p hp
    exact ⟨⟨o', k a o' h1.symm h2.symm e'⟩, hh⟩
  · exact x.fr.aft af

theorem list_typeIs {l : Addr} {vs : Array Value} (hl : s.heap.PlainList l vs) : s.TypeIs (.ref l) "list" := let ⟨_, ho⟩ := hl; ⟨_, ho, rfl⟩

theorem join_empty : ∀ ss : List (List Nat), Txt.join ⟨([] : List Nat).toArray⟩ (ss.map fun s => (⟨s.toArray⟩ : Str)) = ⟨ss.flatten.toArray⟩ := by
  intro ss
  unfold Txt.join
  rw [StrLaws.glued_eq_join]
  have : ∀ ss : List (List Nat), Str.join ⟨([] : List Nat).toArray⟩ (ss.map fun s => (⟨s.toArray⟩ : Str)) = ⟨ss.flatten.toArray⟩ := by
    intro ss
    induction ss with
    | nil => rfl
    | cons s r ih =>
      cases r with
      | nil => simp [Str.join]
      | cons s' r' =>
        have e : ∀ (a b : Str) (r : List Str) (sep : Str), Str.join sep (a :: b :: r) = a ++ sep ++ Str.join sep (b :: r) := fun _ _ _ _ => rfl
        rw [List.map_cons, List.map_cons, e]
        rw [List.map_cons] at ih
        rw [ih, strAppend, strAppend]
        simp
  exact this ss
theorem strsOf_are {q : Bool} {h : Heap} : ∀ {l : List PV} {vs : List Value} {ss : List (List Nat)}, strsOf l = some ss → RelVs q L h vs l → StrsAre vs (ss.map fun s => (⟨s.toArray⟩ : Str))
  | [], [], ss, e, _ => by
    simp only [strsOf, Option.some.injEq] at e
    subst e
    exact .nil
  | p :: l, v :: vs, ss, e, r => by
    simp only [RelVs] at r
    cases p <;> simp only [strsOf] at e <;> try (cases e; done)
    obtain ⟨ss', e', rfl⟩ := Option.map_eq_some_iff.mp e
    obtain ⟨t, rfl⟩ := r.1
    exact .cons _ t (strsOf_are e' r.2)
  | [], _ :: _, _, _, r => by simp [RelVs] at r
  | _ :: _, [], _, _, r => by simp [RelVs] at r

theorem se_mjoin (ih : SE W Φ k n) {c d : CE} (h : Chk W.nm (m + 1) env.kindOf (.mjoin c d) x) (a : At W Φ k A env fs ρ L σ s) : Snd W Φ.q fs A (eval x env) (ev Φ (n + 1) (.mjoin c d) ρ σ) (RelV Φ.q) L s := by
  intro r Q E hr P
  obtain ⟨v, ap, y, pos, rfl, hb, hline, hc, hd⟩ := h
  · skip
    have hst := chk_notStar (env := env) hd
    refine Call_method1 (base_of hb) hst (hline) (bnd_ok hr (ih.e hc a) P fun p σ₁ v₁ L₁ h₁ tk hf st af rel P₁ => ?_)
    split at hf
    · obtain ⟨t, rfl⟩ := rel
      refine ⟨"str", "str.join", F.plainAttrs_str, F.slot_str_join, F.type_str_join, rfl, fun b hb => (by cases hb), ?_⟩
      refine callWith_of (P := fun _ => True) rfl (fun h _ => ⟨.machine, .inr (.inl rfl), .of_pure rfl⟩) ?_
      refine Calls.evalArgs_plain (Calls.spliced_cons (bnd_ok hf (ih.e hd (a.next st af)) P₁ fun p₂ σ₂ v₂ L₂ h₂ tk₂ hf₂ st₂ af₂ rel₂ P₂ => Calls.spliced_nil ⟨trivial, ?_⟩))
      split at hf₂
      · rename_i l
        split at hf₂
        · rename_i ss hss
          split at hf₂
          · rename_i hz
            cases hf₂
            simp only [RelV] at rel₂
            obtain ⟨b, vs, rfl, _, hb, hrel⟩ := rel₂
            refine join_list hb (strsOf_are hss hrel) ?_ fun t' k => ?_
            · have e : ((ss.map fun s => (⟨s.toArray⟩ : Str)).map (·.length)).sum = ss.flatten.length := by
                rw [List.length_flatten, List.map_map]
                congr 1 <;> (apply List.map_congr_left; intro s _; simp [strLen])
              rw [e, strLen]
              unfold SZ at hz
              have := hz.2
              simp only [List.length_nil, Nat.mul_zero, Nat.add_zero]
              exact Nat.le_trans this (by decide)
            · rw [join_empty]
              exact P₂ _ L₂ h₂ k st₂ (.refl _ _ _) ⟨_, rfl⟩
          · cases hf₂
        · cases hf₂
      · cases hf₂
    · cases hf
theorem se_mapp (ih : SE W Φ k n) {c d : CE} (h : Chk W.nm (m + 1) env.kindOf (.mapp c d) x) (a : At W Φ k A env fs ρ L σ s) : Snd W Φ.q fs A (eval x env) (ev Φ (n + 1) (.mapp c d) ρ σ) (RelV Φ.q) L s := by
  intro r Q E hr P
  obtain ⟨v, ap, y, pos, rfl, hb, hline, hc, hd⟩ := h
  · skip
    change @ite _ _ _ _ _ = some r at hr
    split at hr
    · cases hr
    have hst := chk_notStar (env := env) hd
    refine Call_method1 (base_of hb) hst (hline) (bnd_ok hr (ih.e hc a) P fun p σ₁ v₁ L₁ h₁ tk hf st af rel P₁ => ?_)
    split at hf
    · rename_i j
      split at hf
      · rename_i l0 hs
        simp only [RelV] at rel
        obtain ⟨pl, hpl, rfl⟩ := rel
        obtain ⟨hda, vs, hl, hrel⟩ := st.lay.objs j pl _ hpl hs
        refine ⟨"list", "list.append", F.plainAttrs_list, F.slot_list_append, F.type_list_append, list_typeIs (s := { s with heap := h₁, toks := tk }) hl, fun b hb => ?_, ?_⟩
        · cases hb
          obtain ⟨_, ho⟩ := hl
          exact ⟨_, ho, rfl⟩
        · refine PySem.P.append_list (bnd_ok hf (ih.e hd (a.next st af)) P₁ fun p₂ σ₂ v₂ L₂ h₂ tk₂ hf₂ st₂ af₂ rel₂ P₂ => ?_)
          split at hf₂
          · rename_i l hs₂
            split at hf₂
            · rename_i hz
              cases hf₂
              have hpl₂ : L₂.l[j]? = some pl := by
                obtain ⟨⟨T, rfl, _⟩, _⟩ := af₂
                rw [Lo.l_append, List.getElem?_append_left (List.getElem?_eq_some_iff.mp hpl).1]
                exact hpl
              obtain ⟨hda₂, vs₂, ⟨nn, ho₂⟩, hrel₂⟩ := st₂.lay.objs j pl _ hpl₂ hs₂
              have hlen : vs₂.size = l.length := by simpa using hrel₂.length
              unfold SZ at hz
              refine ⟨vs₂, nn, by rw [hlen, sizeLine_eq]; exact Nat.le_trans hz (by decide), ho₂, ?_⟩
              obtain ⟨st₃, af₃⟩ := st_upd (h' := h₂.update pl.a (Obj.mapSeq fun xs => xs.push v₂)) (o := .lst l) (o' := .lst (l ++ [p₂])) st₂ hpl₂ (fun b o hb _ e => upd_keep b o hb e) (fun rl rls => ⟨hda₂, vs₂.push v₂, ⟨nn + 1, by
                rw [Heap.get?_update_self _ ho₂ (by rw [Obj.mapSeq_push_plain]; rfl), Obj.mapSeq_push_plain]⟩, by
                rw [Array.toList_push]
                exact (rls hrel₂).append (by simp only [RelVs, and_true]; exact rl rel₂)⟩)
              exact P₂ .none L₂ _ tk₂ st₃ af₃ rfl
            · cases hf₂
          · cases hf₂
      · cases hf
    · cases hf
theorem erase_last (vs : Array Value) : (vs.eraseIdxIfInBounds (vs.size - 1)).toList = vs.toList.dropLast := by
  rw [Array.toList_eraseIdxIfInBounds, ← Array.length_toList, List.eraseIdx_length_sub_one]
theorem se_mpop (ih : SE W Φ k n) {c : CE} (h : Chk W.nm (m + 1) env.kindOf (.mpop c) x) (a : At W Φ k A env fs ρ L σ s) : Snd W Φ.q fs A (eval x env) (ev Φ (n + 1) (.mpop c) ρ σ) (RelV Φ.q) L s := by
  intro r Q E hr P
  obtain ⟨v, ap, pos, rfl, hb, hline, hc⟩ := h
  · skip
    change @ite _ _ _ _ _ = some r at hr
    split at hr
    · cases hr
    refine Call_method0 (base_of hb) (hline) (bnd_ok hr (ih.e hc a) P fun p σ₁ v₁ L₁ h₁ tk hf st af rel P₁ => ?_)
    split at hf
    · rename_i j
      split at hf
      · rename_i l hs
        split at hf
        · rename_i hz
          split at hf
          · rename_i u hu
            cases hf
            simp only [RelV] at rel
            obtain ⟨pl, hpl, rfl⟩ := rel
            obtain ⟨hda, vs, hl, hrel⟩ := st.lay.objs j pl _ hpl hs
            have hl' := hl
            obtain ⟨nn, ho⟩ := hl'
            have hlen : vs.size = l.length := by simpa using hrel.length
            unfold SZ at hz
            rw [List.getLast?_eq_getElem?] at hu
            obtain ⟨vu, hvu, ru⟩ := hrel.get hu
            refine ⟨"list", "list.pop", F.plainAttrs_list, F.slot_list_pop, F.type_list_pop, list_typeIs (s := { s with heap := h₁, toks := tk }) hl, fun b hb => ?_, ?_⟩
            · cases hb
              exact ⟨_, ho, rfl⟩
            · refine PySem.P.pop_list (s := { s with heap := h₁, toks := tk }) (items := vs) (n := nn) (y := vu) ho (by rw [hlen]; simpa using hvu) ?_ (by rw [hlen, sizeLine_eq]; omega)
              obtain ⟨st₃, af₃⟩ := st_upd (h' := h₁.update pl.a (Obj.mapSeq fun xs => xs.eraseIdxIfInBounds (vs.size - 1))) (o := .lst l) (o' := .lst l.dropLast) st hpl (fun b o hb _ e => upd_keep b o hb e) (fun rl rls => ⟨hda, vs.eraseIdxIfInBounds (vs.size - 1), ⟨_, (Heap.get?_update_self _ ho rfl).trans rfl⟩, by
                rw [erase_last, List.dropLast_eq_take, List.dropLast_eq_take, show vs.toList.length = l.length from hrel.length]
                exact (rls hrel).take _⟩)
              exact P₁ vu L₁ _ tk st₃ af₃ (af₃.rel (.nil _) (fun _ => rfl) ru)
          · cases hf
        · cases hf
      · cases hf
    · cases hf
theorem strAppend0 (x : Str) : Str.empty ++ x = x := by
  apply Str.ext'
  simp [Str.cps_append, Str.empty]
theorem digs_len {i : Int} (h : i.natAbs < 1000000000000000000) : (digs i).length ≤ 1000 := by
  rw [← strLen, ← digs_str]
  cases i with
  | ofNat j =>
    exact Nat.le_trans (toString_length_le (v := Int.ofNat j) (by simp) (k := 18) (by decide) (by
      have : (Int.ofNat j).natAbs = j := rfl
      rw [this] at h
      simp only [Int.ofNat_eq_natCast]
      omega)) (by decide)
  | negSucc j =>
    have e : toString (Int.negSucc j) = "-" ++ (j + 1).repr := rfl
    have h1 : (j + 1).repr.length ≤ 64 := nat_repr_length_le (by decide) (by
      have : (Int.negSucc j).natAbs = j + 1 := rfl
      rw [this] at h
      exact Nat.lt_trans h (by decide))
    rw [digs_str, strLen]
    unfold digs
    rw [List.length_map, e, String.toList_append, List.length_append]
    rw [← String.length_toList] at h1
    have : "-".toList.length = 1 := rfl
    (clear h; lia)
theorem se_fstr (ih : SE W Φ k n) {pre : List Nat} {c : CE} (h : Chk W.nm (m + 1) env.kindOf (.fstr pre c) x) (a : At W Φ k A env fs ρ L σ s) : Snd W Φ.q fs A (eval x env) (ev Φ (n + 1) (.fstr pre c) ρ σ) (RelV Φ.q) L s := by
  intro r Q E hr P
  obtain ⟨_, _, v, fp, jp, rfl, hpre, hc⟩ := h
  · skip
    refine wpAny_JoinedStr ?_
    show wpAny _ _ (eval (.Constant (.str _) _ _) env) _ _ _
    refine wpAny_Constant_str ⟨_, _, rfl, ?_, ?_⟩
    · rw [strAppend0]
      rw [strLen, sizeLine_eq]; exact Nat.le_trans hpre (by decide)
    · show wpAny _ _ (eval (.FormattedValue v (-1) none fp) env) _ _ _
      have a' : At W Φ k A env fs ρ L σ { s with toks := s.toks + 1 } := ⟨a.ar, a.hq, a.env, a.st, a.code_⟩
      have P' : Post W Φ.q fs (RelV Φ.q) L { s with toks := s.toks + 1 } r Q E := P.next (tk := s.toks + 1) a.st (.refl _ _ _)
      refine wpAny_FormattedValue_plain (bnd_ok hr (ih.e hc a') P' fun p σ₁ v₁ L₁ h₁ tk hf st af rel P₁ => ?_)
      split at hf
      · rename_i i
        split at hf
        · rename_i hz
          cases hf
          obtain ⟨t, rfl⟩ := rel
          refine wpAny_formatField_int (log_small hz.1) ⟨_, _, rfl, ?_, ?_, ?_⟩
          · rw [strAppend0, digs_str, strAppend, strLen, List.length_append, sizeLine_eq]
            have := digs_len hz.1
            (clear hz; lia)
          · rw [strAppend0, digs_str, strAppend, strLen, List.length_append, sizeLine_eq]
            have := digs_len hz.1
            (clear hz; lia)
          · rw [strAppend0, digs_str, strAppend]
            exact P₁ _ L₁ h₁ _ st (.refl _ _ _) ⟨_, rfl⟩
        · cases hf
      · cases hf
theorem se_fstrs (ih : SE W Φ k n) {post : List Nat} {c : CE} (h : Chk W.nm (m + 1) env.kindOf (.fstrs c post) x) (a : At W Φ k A env fs ρ L σ s) : Snd W Φ.q fs A (eval x env) (ev Φ (n + 1) (.fstrs c post) ρ σ) (RelV Φ.q) L s := by
  intro r Q E hr P
  obtain ⟨v, fp, ck, cpos, jp, rfl, hpost, hc⟩ := h
  · skip
    refine wpAny_JoinedStr ?_
    show wpAny _ _ (eval (.FormattedValue v (-1) none fp) env) _ _ _
    refine wpAny_FormattedValue_plain (bnd_ok hr (ih.e hc a) P fun p σ₁ v₁ L₁ h₁ tk hf st af rel P₁ => ?_)
    split at hf
    · rename_i l
      split at hf
      · rename_i hz
        cases hf
        obtain ⟨t, rfl⟩ := rel
        unfold SZ at hz
        have h1 : (⟨l.toArray⟩ : Str).length ≤ sizeLine := by rw [strLen, sizeLine_eq]; exact Nat.le_trans hz (by decide)
        have fin : ∀ t' tk', ∃ y t, Value.str ⟨l.toArray⟩ t' = .str y t ∧ (Str.empty ++ y).length ≤ sizeLine ∧ Joins (model W.prog W.w) A E (evalEach [.Constant (.str ⟨post.toArray⟩) ck cpos] env) (Str.empty ++ y) (fun out s₁ => out.length ≤ sizeLine ∧ Q (.str out s₁.toks) { s₁ with toks := s₁.toks + 1 }) { s with heap := h₁, toks := tk' } := fun t' tk' => by
          refine ⟨_, _, rfl, by rw [strAppend0]; exact h1, ?_⟩
          show wpAny _ _ (eval (.Constant (.str _) ck cpos) env) _ _ _
          refine wpAny_Constant_str ⟨_, _, rfl, ?_, ?_, ?_⟩
          · rw [strAppend0, strAppend, strLen, List.length_append, sizeLine_eq]; omega
          · rw [strAppend0, strAppend, strLen, List.length_append, sizeLine_eq]; omega
          · rw [strAppend0, strAppend]
            exact P₁ _ L₁ h₁ _ st (.refl _ _ _) ⟨_, rfl⟩
        exact wpAny_formatField_str (s := { s with heap := h₁, toks := tk }) (fin t tk) (fin tk (tk + 1)) h1
      · cases hf
    · cases hf
end
end Mine
end
/-! M9: names bound, exceptions noted, iterators -/
section
set_option autoImplicit false
set_option linter.unusedVariables false
set_option linter.unusedSimpArgs false
namespace Mine
open PySem PySem.W PyProof.Rows

/-- a step that turns a frame's places alone -/
structure Chg (fa : List Addr) (h h' : Heap) : Prop where
  keep : ∀ b o, b ∉ fa → h.get? b = some o → h'.get? b = some o
  vals : ∀ b o, h.get? b = some o → (∃ x n, o.data = .seq x n) ∨ (∃ n t u w, o = rngObj n t u w) → h'.get? b = some o
  dict : ∀ b o es n, h.get? b = some o → o.data = .dict es n → ∃ o' es' n', h'.get? b = some o' ∧ o'.data = .dict es' n'

section
variable {fa fb : List Addr} {h h₁ h' : Heap} {L : Lo} {W : Wd} {fs : List Env} {σ : Store} {env : Env} {ρ : Loc}
theorem Chg.refl : Chg fa h h := ⟨fun _ _ _ e => e, fun _ _ e _ => e, fun b o es n e d => ⟨o, es, n, e, d⟩⟩
theorem Chg.ka (k : KA h h') : Chg fa h h' := ⟨fun b o _ e => k b o e, fun b o e _ => k b o e, fun b o es n e d => ⟨o, es, n, k b o e, d⟩⟩
theorem Chg.trans (x : Chg fa h h₁) (y : Chg fa h₁ h') : Chg fa h h' :=
  ⟨fun b o hb e => y.keep b o hb (x.keep b o hb e), fun b o e z => y.vals b o (x.vals b o e z) z, fun b o es n e d => by
    obtain ⟨o₁, es₁, n₁, e₁, d₁⟩ := x.dict b o es n e d
    exact y.dict b o₁ es₁ n₁ e₁ d₁⟩
theorem Chg.mono (x : Chg fa h h') (m : ∀ b ∈ fa, b ∈ fb) : Chg fb h h' := ⟨fun b o hb e => x.keep b o (fun z => hb (m b z)) e, x.vals, x.dict⟩
theorem Chg.rel (x : Chg fa h h') {v : Value} {p : PV} (r : RelV false L h v p) : RelV false L h' v p :=
  RelV.move (fun a q => .inl q) (fun _ _ e => e) (fun b o ho hk _ => fun o' ho' => by rw [ho] at ho'; cases ho'; exact ⟨o.slots, x.vals b o ho hk, fun _ => rfl⟩) (fun z => by cases z) r
theorem Chg.rels (x : Chg fa h h') {v : List Value} {p : List PV} (r : RelVs false L h v p) : RelVs false L h' v p :=
  RelVs.move (fun a q => .inl q) (fun _ _ e => e) (fun b o ho hk _ => fun o' ho' => by rw [ho] at ho'; cases ho'; exact ⟨o.slots, x.vals b o ho hk, fun _ => rfl⟩) (fun z => by cases z) r
theorem Chg.aft (x : Chg fa h h') (L : Lo) : Aft fa L h L h' := ⟨⟨[], L.append_nil.symm, fun _ q => by simp [ownT] at q⟩, fun b _ hb => .of_some fun o e => x.keep b o hb e⟩
theorem FrOk.chg {b0 : Heap} (x : FrOk b0 L h fs) (c : Chg fa h h') : FrOk b0 L h' fs := by
  have := x.keep (T := []) (h' := h') (fun _ q => by simp [ownT] at q) fun F o e ⟨es, n, d⟩ _ => by
    obtain ⟨o', es', n', e', d'⟩ := c.dict F o es n e d
    exact ⟨o', e', es', n', d'⟩
  rwa [Lo.append_nil] at this
theorem Lay.chg (x : Lay W false L σ h) (c : Chg fa h h') (hX : ∀ b ∈ fa, b ∉ own L) : Lay W false L σ h' := by
  have kk : ∀ b ∈ own L, ∀ o, h.get? b = some o → h'.get? b = some o := fun b hb o e => c.keep b o (fun z => hX b z hb) e
  refine ⟨x.len, x.apart, fun i p o e e' => (x.objs i p o e e').keep c.rel c.rels (kk _ (mem_own e).1) (kk _ (mem_own e).2), fun a ha => ?_⟩
  obtain ⟨⟨o, e⟩, z⟩ := x.hidden a ha
  exact ⟨⟨o, kk a (List.mem_append_left _ ha) o e⟩, z⟩
theorem St.chg (x : St W false fs L σ h) (c : Chg fa h h') (hX : ∀ b ∈ fa, b ∉ own L ∧ W.b0.get? b = none) : St W false fs L σ h' :=
  ⟨fun b o e => c.keep b o (fun z => by rw [(hX b z).2] at e; cases e) (x.base b o e), x.offb, x.lay.chg c fun b hb => (hX b hb).1, x.fr.chg c⟩
theorem EnvRel.chg (x : EnvRel W false env ρ L h) (c : Chg fa h h') (hX : ∀ b ∈ fa, b ∉ faOf env) : EnvRel W false env ρ L h' where
  kind := x.kind
  globals := x.globals
  builtins := x.builtins
  ns := let ⟨m, hm⟩ := x.ns; ⟨m, (Slt.of_some fun o e => c.keep _ o (fun z => hX _ z (List.mem_cons_self ..)) e : Slt h h' env.locals).ns hm⟩
  names := fun y pv e => let ⟨v, a, b⟩ := x.names y pv e; ⟨v, a.keep fun b hb => .of_some fun o e => c.keep b o (fun z => hX b z hb) e, c.rel b⟩
  cells := fun y cc e => let ⟨v, hv⟩ := x.cells y cc e; ⟨v, (Slt.of_some fun o e' => c.keep _ o (fun z => hX _ z (cell_mem e)) e' : Slt h h' cc).cell hv⟩
  apart := x.apart
  off := x.off
  low := fun b hb => let ⟨o, ho, z⟩ := x.low b hb; ⟨o, c.keep b o (fun z => hX b z hb) ho, z⟩
  fresh := x.fresh
  have_ := x.have_
end

theorem lk_setL (ρ : Loc) (x y : Nat) (v : PV) : lk (setL ρ x v) y = if y = x then some v else lk ρ y := by
  induction ρ with
  | nil =>
    simp only [setL, lk]
    by_cases e : x = y
    · subst e; simp
    · rw [if_neg e, if_neg (Ne.symm e)]
  | cons p r ih =>
    obtain ⟨z, u⟩ := p
    by_cases e : z = x
    · subst e
      simp only [setL, if_true, lk]
      by_cases e' : z = y
      · subst e'; simp
      · rw [if_neg e', if_neg e', if_neg (Ne.symm e')]
    · simp only [setL, if_neg e, lk, ih]
      by_cases e' : z = y
      · subst e'
        rw [if_pos rfl, if_pos rfl, if_neg e]
      · rw [if_neg e', if_neg e']

section
variable {W : Wd} {env : Env} {ρ : Loc} {L : Lo} {M : Model} {A : Around} {s : Shared} {E : Value → Shared → Prop}
theorem isCell_ne {h : Heap} {c l : Addr} {v : Option Value} {m : Str → Option Value} (hc : h.IsCell c v) (hl : h.Ns l m) : c ≠ l := by
  rintro rfl
  obtain ⟨o, ho, hd⟩ := hc
  obtain ⟨o', es, ep, ho', hd', _⟩ := hl
  rw [ho] at ho'; cases ho'
  rw [hd] at hd'; cases hd'
theorem sameBut_ka {a : Addr} {h h' : Heap} (k : Heap.SameBut a h h') : ∀ b o, b ≠ a → h.get? b = some o → h'.get? b = some o := fun b o hb e => (k.2 b hb).trans e
/-- a name is bound -/
theorem store_ok (wok : WOk W) {fa : List Addr} {x : Nat} {v : Value} {pv : PV} {Q : Unit → Shared → Prop} (e : EnvRel W false env ρ L s.heap) (r : RelV false L s.heap v pv)
    (hk : (env.kindOf (W.nm x) = some .local ∧ env.locals ∈ fa) ∨ (env.kindOf (W.nm x) = some .cell ∧ ∃ c, env.cells.lookup (W.nm x) = some c ∧ c ∈ fa))
    (h : ∀ h' tk, Chg fa s.heap h' → EnvRel W false env (setL ρ x pv) L h' → Q () { s with heap := h', toks := tk }) : wpAny M A (storeName env (W.nm x) v) Q E s := by
  obtain ⟨m, hm⟩ := e.ns
  rcases hk with ⟨hk, hfa⟩ | ⟨hk, c, hc, hfa⟩
  · refine wpAny_storeName_local hk hm (fun h' hm' hs => ?_) (by rw [e.kind]; rfl)
    have c1 : Chg fa s.heap h' := by
      obtain ⟨o', es', ep', ho', hd', _⟩ := hm'
      have hm₀ := hm
      obtain ⟨o, es, ep, ho, hd, _⟩ := hm₀
      refine ⟨fun b o hb e' => sameBut_ka hs b o (fun z => hb (z ▸ hfa)) e', fun b ob e' z => sameBut_ka hs b ob (fun q => ?_) e', fun b ob es1 n1 e1 d1 => ?_⟩
      · subst q
        rw [ho] at e'; cases e'
        rcases z with ⟨_, _, z⟩ | ⟨_, _, _, _, rfl⟩
        · rw [hd] at z; cases z
        · cases hd
      · by_cases q : b = env.locals
        · subst q; exact ⟨o', es', ep', ho', hd'⟩
        · exact ⟨ob, es1, n1, sameBut_ka hs b ob q e1, d1⟩
    refine h h' _ c1 ⟨e.kind, e.globals, e.builtins, ⟨_, hm'⟩, fun y py ey => ?_, fun y cc ec => ?_, e.apart, e.off, fun b hb => ?_, e.fresh, e.have_⟩
    · rw [lk_setL] at ey
      split at ey
      · rename_i q; subst q
        cases ey
        exact ⟨v, .inl ⟨hk, _, hm', by simp⟩, c1.rel r⟩
      · rename_i q
        obtain ⟨v', hn, rv⟩ := e.names y py ey
        refine ⟨v', ?_, c1.rel rv⟩
        rcases hn with ⟨hk', m', hn', hv'⟩ | ⟨hk', c', hc', hv'⟩
        · refine .inl ⟨hk', _, hm', ?_⟩
          have : ¬ W.nm y = W.nm x := fun z => q (wok.inj _ _ z)
          rw [if_neg this]
          obtain ⟨o1, es1, ep1, ho1, hd1, hk1, hf1⟩ := hn'
          obtain ⟨o2, es2, ep2, ho2, hd2, hk2, hf2⟩ := hm
          rw [ho1] at ho2; cases ho2
          rw [hd1] at hd2; cases hd2
          rw [← hf2, hf1]; exact hv'
        · exact .inr ⟨hk', c', hc', (Slt.of_some fun o e' => sameBut_ka hs c' o (isCell_ne hv' hm) e' : Slt s.heap h' c').cell hv'⟩
    · obtain ⟨v', hv'⟩ := e.cells y cc ec
      exact ⟨v', (Slt.of_some fun o e' => sameBut_ka hs cc o (isCell_ne hv' hm) e' : Slt s.heap h' cc).cell hv'⟩
    · by_cases q : b = env.locals
      · subst q
        obtain ⟨o', es', ep', ho', hd', _⟩ := hm'
        exact ⟨o', ho', .inl ⟨_, _, hd'⟩⟩
      · obtain ⟨o, ho, z⟩ := e.low b hb
        exact ⟨o, sameBut_ka hs b o q ho, z⟩
  · obtain ⟨v₀, hv₀⟩ := e.cells _ c hc
    refine wpAny_storeName_cell e.kind hk hc hv₀ fun h' hv hs => ?_
    have c1 : Chg fa s.heap h' := by
      obtain ⟨o, ho, hd⟩ := id hv₀
      refine ⟨fun b o hb e' => sameBut_ka hs b o (fun z => hb (z ▸ hfa)) e', fun b ob e' z => sameBut_ka hs b ob (fun q => ?_) e', fun b ob es1 n1 e1 d1 => ⟨ob, es1, n1, sameBut_ka hs b ob (fun q => ?_) e1, d1⟩⟩
      · subst q
        rw [ho] at e'; cases e'
        rcases z with ⟨_, _, z⟩ | ⟨_, _, _, _, rfl⟩
        · rw [hd] at z; cases z
        · cases hd
      · subst q
        rw [ho] at e1; cases e1
        rw [hd] at d1; cases d1
    have nl : env.locals ≠ c := (isCell_ne hv₀ hm).symm
    refine h h' _ c1 ⟨e.kind, e.globals, e.builtins, ⟨m, (Slt.of_some fun o e' => sameBut_ka hs _ o nl e' : Slt s.heap h' env.locals).ns hm⟩, fun y py ey => ?_, fun y cc ec => ?_, e.apart, e.off, fun b hb => ?_, e.fresh, e.have_⟩
    · rw [lk_setL] at ey
      split at ey
      · rename_i q; subst q
        cases ey
        exact ⟨v, .inr ⟨.inl hk, c, hc, hv⟩, c1.rel r⟩
      · rename_i q
        obtain ⟨v', hn, rv⟩ := e.names y py ey
        refine ⟨v', ?_, c1.rel rv⟩
        rcases hn with ⟨hk', m', hn', hv'⟩ | ⟨hk', c', hc', hv'⟩
        · exact .inl ⟨hk', m', (Slt.of_some fun o e' => sameBut_ka hs _ o nl e' : Slt s.heap h' env.locals).ns hn', hv'⟩
        · refine .inr ⟨hk', c', hc', (Slt.of_some fun o e' => sameBut_ka hs c' o (fun z => q ?_) e' : Slt s.heap h' c').cell hv'⟩
          subst z
          exact wok.inj _ _ (e.apart _ _ _ hc' hc)
    · by_cases q : cc = c
      · subst q; exact ⟨_, hv⟩
      · obtain ⟨v', hv'⟩ := e.cells y cc ec
        exact ⟨v', (Slt.of_some fun o e' => sameBut_ka hs cc o q e' : Slt s.heap h' cc).cell hv'⟩
    · by_cases q : b = c
      · subst q
        obtain ⟨o, ho, hd⟩ := hv
        exact ⟨o, ho, .inr ⟨_, hd⟩⟩
      · obtain ⟨o, ho, z⟩ := e.low b hb
        exact ⟨o, sameBut_ka hs b o q ho, z⟩
end
end Mine
end
/-! M10: targets, exceptions noted, iterators -/
section
set_option autoImplicit false
set_option linter.unusedVariables false
set_option linter.unusedSimpArgs false
namespace Mine
open PySem PySem.W PyProof.Rows

section
variable {W : Wd} {env : Env} {ρ ρ' : Loc} {L : Lo} {A : Around} {s : Shared} {E : Value → Shared → Prop}
/-- names bound one behind the other -/
theorem stores_ok (wok : WOk W) {fa : List Addr} {f : Str → Bool} (hf : ∀ id, f id = true → (env.kindOf id = some .local ∧ env.locals ∈ fa) ∨ (env.kindOf id = some .cell ∧ ∃ c, env.cells.lookup id = some c ∧ c ∈ fa)) :
    ∀ {xs : List Nat} {es : List Expr} {vs : List Value} {ps : List PV} {ρ ρ' : Loc} {s : Shared} {Q : Unit → Shared → Prop}
    (hc : NamesAt W.nm f xs es) (he : EnvRel W false env ρ L s.heap) (r : RelVs false L s.heap vs ps) (hs : setLs ρ xs ps = some ρ')
    (h : ∀ h' tk, Chg fa s.heap h' → EnvRel W false env ρ' L h' → Q () { s with heap := h', toks := tk }),
    wpAny (model W.prog W.w) A (assignInOrder ((assignEach es env).map (·.2)) vs) Q E s
  | [], es, [], [], ρ, ρ', s, Q, hc, he, _, hs, h => by
    obtain rfl := hc
    cases hs
    exact wpAny_assignInOrder_none (h s.heap s.toks .refl he)
  | x :: xs, es, v :: vs, p :: ps, ρ, ρ', s, Q, hc, he, r, hs, h => by
    obtain ⟨pos, es, rfl, hk, h2⟩ := hc
    show wpAny _ _ (assignInOrder (assign (.Name (W.nm x) pos) env :: (assignEach es env).map (·.2)) (v :: vs)) _ _ _
    refine wpAny_assignInOrder_more (wpAny_assign_Name (store_ok wok he r.1 (hf _ hk) fun h' tk c e' => ?_))
    exact stores_ok wok hf h2 e' (c.rels r.2) hs fun h'' tk' c' e'' => h h'' tk' (c.trans c') e''
  | _, _, _ :: _, [], _, _, _, _, _, _, r, _, _ => r.elim
  | _, _, [], _ :: _, _, _, _, _, _, _, r, _, _ => r.elim
  | [], _, _ :: _, _ :: _, _, _, _, _, _, _, _, hs, _ => by cases hs
  | _ :: _, _, [], [], _, _, _, _, _, _, _, hs, _ => by cases hs

theorem names_star {nm : Nat → Str} {f : Str → Bool} {env : Env} : ∀ {xs : List Nat} {es : List Expr}, NamesAt nm f xs es → (assignEach es env).length = xs.length ∧ (assignEach es env).findIdx? (·.1) = none
  | [], es, h => by
    obtain rfl := h
    exact ⟨rfl, rfl⟩
  | x :: xs, es, h => by
    obtain ⟨pos, es, rfl, hk, h2⟩ := h
    obtain ⟨a, b⟩ := names_star (env := env) h2
    refine ⟨?_, ?_⟩
    · show (assignEach es env).length + 1 = _
      rw [a]; rfl
    · show List.findIdx? (·.1) ((false, _) :: assignEach es env) = none
      rw [List.findIdx?_cons, b]
      rfl
theorem setLs_len : ∀ {xs : List Nat} {ρ ρ' : Loc} {l : List PV}, setLs ρ xs l = some ρ' → xs.length = l.length
  | [], _, _, [], _ => rfl
  | x :: xs, ρ, ρ', v :: vs, h => by
    simp only [setLs] at h
    simp [setLs_len h]
  | [], _, _, _ :: _, h => by cases h
  | _ :: _, _, _, [], h => by cases h
/-- a tuple is taken apart -/
theorem unpack_ok (wok : WOk W) {fa : List Addr} {f : Str → Bool} {xs : List Nat} {es : List Expr} {x1 : _} {pos : Pos} {v : Value} {l : List PV} {Q : Unit → Shared → Prop} (hh : A.handled = none)
    (hf : ∀ id, f id = true → (env.kindOf id = some .local ∧ env.locals ∈ fa) ∨ (env.kindOf id = some .cell ∧ ∃ c, env.cells.lookup id = some c ∧ c ∈ fa))
    (hc : NamesAt W.nm f xs es) (he : EnvRel W false env ρ L s.heap) (r : RelV false L s.heap v (.tup l)) (hs : setLs ρ xs l = some ρ')
    (h : ∀ h' tk, Chg fa s.heap h' → EnvRel W false env ρ' L h' → Q () { s with heap := h', toks := tk }) :
    wpAny (model W.prog W.w) A (assign (.Tuple es x1 pos) env v) Q E s := by
  simp only [RelV] at r
  obtain ⟨a, vs, rfl, ha, ht, hr⟩ := r
  obtain ⟨n1, n2⟩ := names_star (env := env) hc
  have hl := setLs_len hs
  have hl2 := hr.length
  refine wpAny_assign_Tuple hh ht (by rw [n1, hl, ← hl2, Array.length_toList]) n2 fun h' hx => ?_
  have k : KA s.heap h' := fun b o e => hx b o (fun z => by rw [z, fresh_none] at e; cases e) e
  exact stores_ok wok hf hc (he.ka k) (k.rels hr) hs fun h'' tk c e => h h'' tk ((Chg.ka k).trans c) e
/-- a loop's target takes its item -/
theorem take_ok (wok : WOk W) {xs : List Nat} {tt : Bool} {tg : Expr} {v : Value} {pv : PV} {Q : Unit → Shared → Prop} (hh : A.handled = none) (hc : ChkT W.nm env.kindOf xs tt tg) (he : EnvRel W false env ρ L s.heap)
    (r : RelV false L s.heap v pv) (hs : takeV ρ xs tt pv = some ρ') (h : ∀ h' tk, Chg [env.locals] s.heap h' → EnvRel W false env ρ' L h' → Q () { s with heap := h', toks := tk }) :
    wpAny (model W.prog W.w) A (assign tg env v) Q E s := by
  rcases hc with ⟨x, pos, rfl, rfl, rfl, hk⟩ | ⟨es, p1, pos, rfl, rfl, hc⟩
  · simp only [takeV, setLs, Option.some.injEq] at hs
    subst hs
    exact wpAny_assign_Name (store_ok wok he r (.inl ⟨hk, List.mem_singleton.mpr rfl⟩) h)
  · cases pv <;> simp only [takeV] at hs <;> try (cases hs; done)
    rename_i l
    exact unpack_ok wok (f := fun id => env.kindOf id == some .local) hh (fun id q => .inl ⟨beq_iff_eq.mp q, List.mem_singleton.mpr rfl⟩) hc he r hs h
end

section
variable {W : Wd} {q : Bool} {fs : List Env} {L : Lo} {σ : Store} {h0 h h' : Heap} {e : Addr} {x : PX} {m : Bool}
theorem ExcAt.ne_of_val (X : ExcAt W h0 L h e x m) {b : Addr} {o : Obj} (hb : h.get? b = some o) (hv : (∃ x n, o.data = .seq x n) ∨ (∃ n t u w, o = rngObj n t u w) ∨ (∃ es n, o.data = .dict es n) ∨ (∃ v, o.data = .cell v)) :
    b ≠ e ∧ ∀ oe vs, h.get? e = some oe → oe.data = .fields vs → vs[1]? ≠ some (.ref b) := by
  obtain ⟨x1, x2, x3, vs, d, ho, hsz, htb, _⟩ := X
  refine ⟨fun z => ?_, fun oe vs' q1 q2 q3 => ?_⟩
  · rw [z, ho] at hb; cases hb
    rcases hv with ⟨_, _, z⟩ | ⟨_, _, _, _, z⟩ | ⟨_, _, z⟩ | ⟨_, z⟩ <;> cases z
  · rw [ho] at q1; cases q1
    cases q2
    rcases htb with ⟨_, q⟩ | ⟨T, ts, oT, q, t1, t2, t3, t4, t5, t6, t7, t8⟩
    · rw [q3] at q; cases q
    · rw [q3] at q
      obtain rfl : b = T := by injection q with q; injection q
      rw [t5] at hb; cases hb
      rcases hv with ⟨_, _, z⟩ | ⟨_, _, _, _, rfl⟩ | ⟨_, _, z⟩ | ⟨_, z⟩
      · rw [t7] at z; cases z
      · have := congrArg (fun v : Value => v == .type "range") t6
        simp [rngObj] at this
      · rw [t7] at z; cases z
      · rw [t7] at z; cases z
theorem ExcAt.ne_of_own (X : ExcAt W h0 L h e x m) {b : Addr} (hb : b ∈ own L) : b ≠ e ∧ ∀ oe vs, h.get? e = some oe → oe.data = .fields vs → vs[1]? ≠ some (.ref b) := by
  obtain ⟨x1, x2, x3, vs, d, ho, hsz, htb, _⟩ := X
  refine ⟨fun z => x3 (z ▸ hb), fun oe vs' q1 q2 q3 => ?_⟩
  rw [ho] at q1; cases q1
  cases q2
  rcases htb with ⟨_, q⟩ | ⟨T, ts, oT, q, t1, t2, t3, t4, t5, t6, t7, t8⟩
  · rw [q3] at q; cases q
  · rw [q3] at q
    obtain rfl : b = T := by injection q with q; injection q
    exact t4 hb
theorem ExcAt.ne_of_old (X : ExcAt W h0 L h e x m) {b : Addr} {o : Obj} (hb : h0.get? b = some o ∨ W.b0.get? b = some o) : b ≠ e ∧ ∀ oe vs, h.get? e = some oe → oe.data = .fields vs → vs[1]? ≠ some (.ref b) := by
  obtain ⟨x1, x2, x3, vs, d, ho, hsz, htb, _⟩ := X
  refine ⟨fun z => ?_, fun oe vs' q1 q2 q3 => ?_⟩
  · rcases hb with hb | hb
    · rw [z, x1] at hb; cases hb
    · rw [z, x2] at hb; cases hb
  · rw [ho] at q1; cases q1
    cases q2
    rcases htb with ⟨_, q⟩ | ⟨T, ts, oT, q, t1, t2, t3, t4, t5, t6, t7, t8⟩
    · rw [q3] at q; cases q
    · rw [q3] at q
      obtain rfl : b = T := by injection q with q; injection q
      rcases hb with hb | hb
      · rw [t2] at hb; cases hb
      · rw [t3] at hb; cases hb
theorem ExcAt.weak (X : ExcAt W h0 L h e x true) : ExcAt W h0 L h e x false := by
  obtain ⟨x1, x2, x3, vs, d, ho, hsz, htb, r⟩ := X
  exact ⟨x1, x2, x3, vs, d, ho, hsz, htb.imp (fun z => by cases z.1) id, r⟩
/-- the noting of an exception keeps the state -/
theorem Nt.slt (n : Nt fs e h h') (X : ExcAt W h0 L h e x m) (fr : FrOk W.b0 L h fs) {b : Addr} (hb : b ≠ e ∧ ∀ oe vs, h.get? e = some oe → oe.data = .fields vs → vs[1]? ≠ some (.ref b)) : Slt h h' b := by
  intro o ho
  obtain ⟨sl, e1⟩ := n.frame b o ho hb.1 hb.2
  by_cases hf : b ∈ fs.filterMap (·.frame)
  · obtain ⟨⟨o', ho', es, nn, hd⟩, _⟩ := fr.notFields hf
    rw [ho] at ho'; cases ho'
    exact ⟨sl, e1, fun z => absurd hd (z es nn)⟩
  · exact ⟨o.slots, n.keep b o ho hb.1 hb.2 hf, fun _ => rfl⟩
theorem St.nt (st : St W false fs L σ h) (X : ExcAt W h0 L h e x m) (n : Nt fs e h h') : St W false fs L σ h' := by
  have own_ok : ∀ b ∈ own L, ∀ o, h.get? b = some o → h'.get? b = some o := fun b hb o ho => by
    obtain ⟨z1, z2⟩ := X.ne_of_own hb
    exact n.keep b o ho z1 z2 fun hf => (st.fr.notFields hf).2.2 hb
  have rel : ∀ {v : Value} {p : PV}, RelV false L h v p → RelV false L h' v p := fun r => RelV.move (fun a q => .inl q) (fun _ _ e => e) (fun b o ho hv _ => n.slt X st.fr (X.ne_of_val ho (hv.imp id .inl))) (fun z => by cases z) r
  have rels : ∀ {v : List Value} {p : List PV}, RelVs false L h v p → RelVs false L h' v p := fun r => RelVs.move (fun a q => .inl q) (fun _ _ e => e) (fun b o ho hv _ => n.slt X st.fr (X.ne_of_val ho (hv.imp id .inl))) (fun z => by cases z) r
  refine ⟨fun b o ho => ?_, st.offb, ⟨st.lay.len, st.lay.apart, fun i p o e1 e2 => (st.lay.objs i p o e1 e2).keep rel rels (own_ok _ (mem_own e1).1) (own_ok _ (mem_own e1).2), fun a ha => ?_⟩, ?_⟩
  · obtain ⟨z1, z2⟩ := X.ne_of_old (.inr ho)
    exact n.keep b o (st.base b o ho) z1 z2 fun hf => by rw [(st.fr.notFields hf).2.1] at ho; cases ho
  · obtain ⟨⟨o, ho⟩, z⟩ := st.lay.hidden a ha
    exact ⟨⟨o, own_ok a (List.mem_append_left _ ha) o ho⟩, z⟩
  · have := st.fr.keep (T := []) (h' := h') (fun _ q => by simp [ownT] at q) fun F o ho ⟨es, nn, hd⟩ _ => by
      obtain ⟨sl, e1, _⟩ := n.slt X st.fr (X.ne_of_val ho (.inr (.inr (.inl ⟨es, nn, hd⟩)))) o ho
      exact ⟨_, e1, es, nn, hd⟩
    rwa [Lo.append_nil] at this
theorem Nt.ns (n : Nt fs e h h') (X : ExcAt W h0 L h e x m) (fr : FrOk W.b0 L h fs) {l : Addr} {mm : Str → Option Value} (hm : h.Ns l mm) : h'.Ns l mm := by
  obtain ⟨o, es, ep, ho, hd, r⟩ := id hm
  exact (n.slt X fr (X.ne_of_val ho (.inr (.inr (.inl ⟨es, ep, hd⟩))))).ns hm
theorem EnvRel.nt {env : Env} {ρ : Loc} (x0 : EnvRel W false env ρ L h) (X : ExcAt W h0 L h e x m) (n : Nt fs e h h') (fr : FrOk W.b0 L h fs) : EnvRel W false env ρ L h' where
  kind := x0.kind
  globals := x0.globals
  builtins := x0.builtins
  ns := let ⟨m, hm⟩ := x0.ns; ⟨m, n.ns X fr hm⟩
  names := fun y pv e => by
    obtain ⟨v, a, b⟩ := x0.names y pv e
    refine ⟨v, ?_, RelV.move (fun a q => .inl q) (fun _ _ e => e) (fun b o ho hv _ => n.slt X fr (X.ne_of_val ho (hv.imp id .inl))) (fun z => by cases z) b⟩
    rcases a with ⟨hk, m, hn, hm⟩ | ⟨hk, c, hc, hv⟩
    · exact .inl ⟨hk, m, n.ns X fr hn, hm⟩
    · obtain ⟨o, ho, hd⟩ := id hv
      exact .inr ⟨hk, c, hc, (n.slt X fr (X.ne_of_val ho (.inr (.inr (.inr ⟨_, hd⟩))))).cell hv⟩
  cells := fun y c e => by
    obtain ⟨v, hv⟩ := x0.cells y c e
    obtain ⟨o, ho, hd⟩ := id hv
    exact ⟨v, (n.slt X fr (X.ne_of_val ho (.inr (.inr (.inr ⟨_, hd⟩))))).cell hv⟩
  apart := x0.apart
  off := x0.off
  low := fun b hb => by
    obtain ⟨o, ho, z⟩ := x0.low b hb
    obtain ⟨sl, e1, _⟩ := n.slt X fr (X.ne_of_val ho (.inr (.inr z))) o ho
    exact ⟨_, e1, z⟩
  fresh := x0.fresh
  have_ := x0.have_
theorem Aft.nt {fa : List Addr} {L0 : Lo} (af : Aft fa L0 h0 L h) (X : ExcAt W h0 L h e x m) (n : Nt fs e h h') (fr : FrOk W.b0 L h fs) : Aft fa L0 h0 L h' := by
  obtain ⟨p, k⟩ := af
  refine ⟨p, fun b hb hf o ho => ?_⟩
  obtain ⟨sl, e1, hs⟩ := k b hb hf o ho
  obtain ⟨sl', e2, hs'⟩ := n.slt X fr (X.ne_of_old (.inl ho)) _ e1
  exact ⟨sl', e2, fun z => (hs' z).trans (hs z)⟩
end
end Mine
end
/-! M11: iterators -/
section
set_option autoImplicit false
set_option linter.unusedVariables false
set_option linter.unusedSimpArgs false
namespace Mine
open PySem PySem.W PyProof.Rows

noncomputable def ItAt (h : Heap) (I : Addr) (v : Value) (src : PV) (i : Nat) : Prop := match src with
  | .str l => ∃ t T, v = .str ⟨l.toArray⟩ t ∧ ((T = "str_ascii_iterator") ∨ T = "str_iterator") ∧ h.IsStrIter I T ⟨l.toArray⟩ t i
  | .tup _ => ∃ a, v = .ref a ∧ h.IsTupleIter I a i
  | .lst _ => ∃ a, v = .ref a ∧ h.IsListIter I a i
  | .ref _ => ∃ a, v = .ref a ∧ h.IsListIter I a i
  | .rng n => IsRangeIter h I i ((if 0 < n then n else 0) - i) 1
  | _ => False
theorem ItAt.obj {h : Heap} {I : Addr} {v : Value} {src : PV} {i : Nat} (x : ItAt h I v src i) : ∃ o vs T, h.get? I = some o ∧ o.data = .fields vs ∧ o.cls = .type T ∧ T ≠ "range" := by
  unfold ItAt at x
  split at x
  · obtain ⟨t, T, _, hT, o, ho, hc, hd⟩ := x
    refine ⟨o, _, T, ho, hd, hc, ?_⟩
    rcases hT with rfl | rfl <;> decide
  · obtain ⟨a, _, o, ho, hc, hd⟩ := x
    exact ⟨o, _, _, ho, hd, hc, by decide⟩
  · obtain ⟨a, _, o, ho, hc, hd⟩ := x
    exact ⟨o, _, _, ho, hd, hc, by decide⟩
  · obtain ⟨a, _, o, ho, hc, hd⟩ := x
    exact ⟨o, _, _, ho, hd, hc, by decide⟩
  · exact ⟨_, _, _, x, rfl, rfl, by decide⟩
  · exact x.elim
theorem ItAt.of {h h' : Heap} {I : Addr} {v : Value} {src : PV} {i : Nat} (x : ItAt h I v src i) (e : ∀ o, h.get? I = some o → h'.get? I = some o) : ItAt h' I v src i := by
  unfold ItAt at x ⊢
  split at x
  · obtain ⟨t, T, hv, hT, o, ho, hc, hd⟩ := x
    exact ⟨t, T, hv, hT, o, e o ho, hc, hd⟩
  · obtain ⟨a, hv, o, ho, hc, hd⟩ := x
    exact ⟨a, hv, o, e o ho, hc, hd⟩
  · obtain ⟨a, hv, o, ho, hc, hd⟩ := x
    exact ⟨a, hv, o, e o ho, hc, hd⟩
  · obtain ⟨a, hv, o, ho, hc, hd⟩ := x
    exact ⟨a, hv, o, e o ho, hc, hd⟩
  · exact e _ x
  · exact x.elim
theorem ItAt.slt {h h' : Heap} {I : Addr} {v : Value} {src : PV} {i : Nat} (x : ItAt h I v src i) (e : Slt h h' I) : ItAt h' I v src i :=
  x.of fun o ho => by
    obtain ⟨o', vs, T, ho', hd, _⟩ := x.obj
    rw [ho] at ho'; cases ho'
    exact e.exact ho fun es n z => by rw [hd] at z; cases z
theorem ItAt.chg {h h' : Heap} {I : Addr} {v : Value} {src : PV} {i : Nat} (x : ItAt h I v src i) (e : Heap.ExtBut I h h') : Chg [I] h h' := by
  obtain ⟨o', vs, T, ho', hd, hc, hT⟩ := x.obj
  refine ⟨fun b o hb ho => e b o (fun z => hb (List.mem_singleton.mpr z)) ho, fun b o ho z => e b o (fun q => ?_) ho, fun b o es n ho z => ⟨o, es, n, e b o (fun q => ?_) ho, z⟩⟩
  · subst q
    rw [ho] at ho'; cases ho'
    rcases z with ⟨_, _, z⟩ | ⟨_, _, _, _, rfl⟩
    · rw [hd] at z; cases z
    · simp [rngObj] at hc
      exact hT hc.symm
  · subst q
    rw [ho] at ho'; cases ho'
    rw [hd] at z; cases z

section
variable {W : Wd} {L : Lo} {σ : Store} {A : Around} {s : Shared} {E : Value → Shared → Prop} {v : Value} {src : PV} {tt : Bool} {prog : Program} {w : World}
theorem rangeSize_one (n : Int) : Builtin.Range.rangeSize 0 n 1 = if 0 < n then n else 0 := by
  unfold Builtin.Range.rangeSize
  rw [if_pos (by decide)]
  split
  · rw [Int.ediv_one]; lia
  · rfl
theorem iter_ok {o : Option PV} {Q : Value → Shared → Prop} (hr : itemAt σ tt src 0 = some o) (lay : Lay W false L σ s.heap) (r : RelV false L s.heap v src)
    (h : ∀ I h', s.heap.get? I = none → KA s.heap h' → ItAt h' I v src 0 → Q (.ref I) { s with heap := h' }) : wpAny (model prog w) A (pyIter v) Q E s := by
  have fr := fresh_none s.heap
  cases src <;> simp only [itemAt] at hr <;> try (cases hr; done)
  case str l =>
    obtain ⟨t, rfl⟩ := r
    cases ha : (⟨l.toArray⟩ : Str).cps.all (· < 128) with
    | true => exact wpAny_pyIter_ascii ha (h _ _ fr (KA.push _ _) ⟨t, _, rfl, .inl rfl, _, Heap.get?_push_size _ rfl, rfl, rfl⟩)
    | false => exact wpAny_pyIter_wide ha (h _ _ fr (KA.push _ _) ⟨t, _, rfl, .inr rfl, _, Heap.get?_push_size _ rfl, rfl, rfl⟩)
  case tup l =>
    simp only [RelV] at r
    obtain ⟨a, vs, rfl, _, ht, _⟩ := r
    exact wpAny_pyIter_tuple ht (h _ _ fr (KA.push _ _) ⟨a, rfl, _, Heap.get?_push_size _ rfl, rfl, rfl⟩)
  case lst l =>
    simp only [RelV] at r
    obtain ⟨a, vs, rfl, _, ht, _⟩ := r
    exact wpAny_pyIter_list ht (h _ _ fr (KA.push _ _) ⟨a, rfl, _, Heap.get?_push_size _ rfl, rfl, rfl⟩)
  case rng n =>
    simp only [RelV] at r
    obtain ⟨a, t, u, w', rfl, _, ho⟩ := r
    split at hr
    · cases hr
    rename_i hz
    rw [not_or] at hz
    have hn : n.natAbs ≤ SZ := Nat.le_of_not_lt hz.2
    have hrs := rangeSize_one n
    have hsm : Builtin.Range.small 0 n 1 = true := by
      unfold Builtin.Range.small Builtin.Range.rangeFitsLong
      rw [hrs]
      unfold SZ at hn
      simp only [Bool.and_eq_true, Bool.or_eq_true, decide_eq_true_eq, beq_iff_eq]
      refine ⟨⟨⟨⟨?_, ?_⟩, ?_⟩, ?_⟩, ?_⟩
      · decide
      · (clear hrs hz; omega)
      · decide
      · split <;> omega
      · by_cases z : 0 < n
        · right
          rw [if_pos (show (1 : Int) > 0 by decide)]
          simp only [Bool.and_eq_true, decide_eq_true_eq]
          constructor <;> omega
        · left; simp [z]
    refine wpAny_pyIter_range (a := 0) (b := n) (c := 1) ho hsm (h _ _ fr (KA.push _ _) ?_)
    rw [hrs]
    show IsRangeIter _ _ _ _ _
    exact (Heap.get?_push_size _ rfl).trans (by simp)
  case ref k =>
    simp only [RelV] at r
    obtain ⟨p, hp, rfl⟩ := r
    split at hr
    · rename_i l hk
      obtain ⟨_, vs, hl, _⟩ := lay.objs k p _ hp hk
      exact wpAny_pyIter_list hl.isList (h _ _ fr (KA.push _ _) ⟨p.a, rfl, _, Heap.get?_push_size _ rfl, rfl, rfl⟩)
    · cases hr
theorem self_ok {I : Addr} {i : Nat} {Q : Value → Shared → Prop} (x : ItAt s.heap I v src i) (h : Q (.ref I) s) : wpAny (model prog w) A (pyIter (.ref I)) Q E s := by
  unfold ItAt at x
  split at x
  · obtain ⟨t, T, hv, hT, hx⟩ := x
    rcases hT with rfl | rfl
    · exact wpAny_pyIter_striter_ascii hx h
    · exact wpAny_pyIter_striter_wide hx h
  · obtain ⟨a, hv, hx⟩ := x
    exact wpAny_pyIter_tupleiter hx h
  · obtain ⟨a, hv, hx⟩ := x
    exact wpAny_pyIter_listiter hx h
  · obtain ⟨a, hv, hx⟩ := x
    exact wpAny_pyIter_listiter hx h
  · exact wpAny_pyIter_rangeiter x h
  · exact x.elim
theorem next_ok {I : Addr} {i : Nat} {o : Option PV} {Q : Option Value → Shared → Prop} (hh : A.handled = none) (hr : itemAt σ tt src i = some o) (lay : Lay W false L σ s.heap) (r : RelV false L s.heap v src) (x : ItAt s.heap I v src i)
    (h0 : o = none → ∀ h', Heap.ExtBut I s.heap h' → Q none { s with heap := h' })
    (h1 : ∀ p, o = some p → ∀ y h' tk, Heap.SameBut I s.heap h' → ItAt h' I v src (i + 1) → RelV false L h' y p → Q (some y) { s with heap := h', toks := tk }) : wpAny (model prog w) A (pyNext (.ref I)) Q E s := by
  have rl : ∀ {y : Value} {p : PV} {h' : Heap}, Heap.SameBut I s.heap h' → RelV false L s.heap y p → RelV false L h' y p := fun hs ry => (x.chg hs.extBut).rel ry
  have lst : ∀ {a : Addr} {vs : Array Value} {l : List PV}, v = .ref a → s.heap.IsListIter I a i → s.heap.IsList a vs → RelVs false L s.heap vs.toList l → l[i]? = o →
      (∀ h', h'.IsListIter I a (i + 1) → ItAt h' I v src (i + 1)) → wpAny (model prog w) A (pyNext (.ref I)) Q E s := fun {a vs l} hv hx hl rel ho hi => by
    have hlen : vs.size = l.length := by simpa using rel.length
    cases o with
    | none =>
      have : vs[i]? = none := by
        rw [Array.getElem?_eq_none_iff, hlen]
        exact List.getElem?_eq_none_iff.mp ho
      exact wpAny_pyNext_list_end hh hx hl this (h0 rfl)
    | some p =>
      obtain ⟨y, hy, ry⟩ := rel.get ho
      exact wpAny_pyNext_list_item hx hl (by simpa using hy) fun h' hx' hs => h1 p rfl y h' s.toks hs (hi h' hx') (rl hs ry)
  cases src <;> simp only [itemAt] at hr <;> try (cases hr; done)
  case str l =>
    split at hr
    · cases hr
    simp only [Option.some.injEq] at hr
    simp only [ItAt] at x
    obtain ⟨t, T, rfl, hT, hx⟩ := x
    cases hl : l[i]? with
    | none =>
      rw [hl] at hr
      subst hr
      have : (⟨l.toArray⟩ : Str).cps[i]? = none := by simpa using hl
      rcases hT with rfl | rfl
      · exact wpAny_pyNext_ascii_end hh hx this (h0 rfl)
      · exact wpAny_pyNext_wide_end hh hx this (h0 rfl)
    | some c =>
      rw [hl] at hr
      subst hr
      have : (⟨l.toArray⟩ : Str).cps[i]? = some c := by simpa using hl
      rcases hT with rfl | rfl
      · exact wpAny_pyNext_ascii_item hx this fun h' hx' hs => h1 _ rfl _ h' _ hs ⟨t, _, rfl, .inl rfl, hx'⟩ ⟨_, rfl⟩
      · exact wpAny_pyNext_wide_item hx this fun h' hx' hs => h1 _ rfl _ h' _ hs ⟨t, _, rfl, .inr rfl, hx'⟩ ⟨_, rfl⟩
  case tup l =>
    split at hr
    · cases hr
    simp only [Option.some.injEq] at hr
    have x' := x
    simp only [ItAt] at x
    obtain ⟨a, hv, hx⟩ := x
    simp only [RelV] at r
    obtain ⟨a', vs, hv', _, ht, rel⟩ := r
    obtain rfl : a = a' := by rw [hv] at hv'; injection hv'
    have hlen : vs.size = l.length := by simpa using rel.length
    cases o with
    | none =>
      have : vs[i]? = none := by
        rw [Array.getElem?_eq_none_iff, hlen]
        exact List.getElem?_eq_none_iff.mp hr
      exact wpAny_pyNext_tuple_end hh hx ht this (h0 rfl)
    | some p =>
      obtain ⟨y, hy, ry⟩ := rel.get hr
      exact wpAny_pyNext_tuple_item hx ht (by simpa using hy) fun h' hx' hs => h1 p rfl y h' s.toks hs ⟨a, hv, hx'⟩ (rl hs ry)
  case lst l =>
    simp only [Option.some.injEq] at hr
    have x' := x
    simp only [ItAt] at x
    obtain ⟨a, hv, hx⟩ := x
    simp only [RelV] at r
    obtain ⟨a', vs, hv', _, ht, rel⟩ := r
    obtain rfl : a = a' := by rw [hv] at hv'; injection hv'
    exact lst hv hx ht rel hr fun h' hx' => ⟨a, hv, hx'⟩
  case ref k =>
    have x' := x
    simp only [ItAt] at x
    obtain ⟨a, hv, hx⟩ := x
    simp only [RelV] at r
    obtain ⟨p, hp, hv'⟩ := r
    obtain rfl : a = p.a := by rw [hv] at hv'; injection hv'
    split at hr
    · rename_i l hk
      simp only [Option.some.injEq] at hr
      obtain ⟨_, vs, hl, rel⟩ := lay.objs k p _ hp hk
      exact lst hv hx hl.isList rel hr fun h' hx' => ⟨p.a, hv, hx'⟩
    · cases hr
  case rng n =>
    split at hr
    · cases hr
    simp only [Option.some.injEq] at hr
    have x' := x
    simp only [ItAt] at x
    by_cases hn : (i : Int) < n
    · rw [if_pos hn] at hr
      subst hr
      have hp : 0 < n := by (clear h0; lia)
      rw [if_pos hp] at x
      refine wpAny_pyNext_range_item x (by (clear hp h0; lia)) fun h' hx' hs => h1 _ rfl _ h' _ hs ?_ ⟨_, rfl⟩
      show IsRangeIter _ _ _ _ _
      rw [if_pos hp]
      have e1 : (i : Int) + 1 = ((i + 1 : Nat) : Int) := by rfl
      have e2 : n - (i : Int) - 1 = n - ((i + 1 : Nat) : Int) := by (clear e1 hp h0 hn; lia)
      rw [← e1, show n - ((i : Int) + 1) = n - (i : Int) - 1 by exact e2.symm]
      exact hx'
    · rw [if_neg hn] at hr
      subst hr
      exact wpAny_pyNext_range_end hh x (by split <;> omega) (h0 rfl)

theorem go_ok {nm : Nat → Str} {kd : Str → Option NameKind} {xs : List Nat} {tg : Expr} {I : Addr} {i j : Nat} {o : Option PV} {y : Value} {Q : Unit → Shared → Prop} (hc : ChkT nm kd xs tt tg) (hr : itemAt σ tt src j = some o) (x : ItAt s.heap I v src i) (hy : tt = true → ∃ a, y = .ref a) (h : Q () s) :
    wpAny (model prog w) A (letOwnedTupleGo tg (.ref I) y) Q E s := by
  rcases hc with ⟨x, pos, rfl, rfl, rfl, hk⟩ | ⟨es, p1, pos, rfl, rfl, hc⟩
  · exact wpAny_pure h
  · skip
    obtain ⟨a, rfl⟩ := hy rfl
    have : ∃ l, s.heap.IsListIter I l i := by
      cases src <;> simp only [itemAt] at hr <;> try (cases hr; done)
      all_goals first
        | (simp at hr; done)
        | (simp only [ItAt] at x
           obtain ⟨a, _, hx⟩ := x
           exact ⟨a, hx⟩)
    obtain ⟨l, hx⟩ := this
    exact wpAny_letOwnedTupleGo_listiter hx h
end
end Mine
end
/-! M12: comprehensions -/
section
set_option autoImplicit false
set_option linter.unusedVariables false
set_option linter.unusedSimpArgs false
namespace Mine
open PySem PySem.W PyProof.Rows

theorem closure_ok {env : Env} {sc : Scope} (hall : ∀ y ∈ sc.names, y.2 = .free → (env.cells.lookup y.1).isSome = true) : ∃ cl, closureFor sc env = pure cl ∧ (∀ y c, cl.lookup y = some c → env.cells.lookup y = some c) ∧ (∀ y ∈ sc.names, y.2 = .free → (cl.lookup y.1).isSome = true) ∧ (∀ b ∈ cl.map (·.2), b ∈ env.cells.map (·.2)) := by
  have key : ∀ (l : List (Str × NameKind)) (cs : List (Str × Addr)), (∀ y ∈ l, y.2 = .free → (env.cells.lookup y.1).isSome = true) → (∀ y c, cs.lookup y = some c → env.cells.lookup y = some c) → (∀ b ∈ cs.map (·.2), b ∈ env.cells.map (·.2)) →
      ∃ cl, (forIn l cs fun x __s => if (x.snd == NameKind.free) = true then do
                  let __do_lift ← cellOf env x.fst
                  pure (ForInStep.yield ((x.fst, __do_lift) :: __s))
                else pure (ForInStep.yield __s) : Sem (List (Str × Addr))) = pure cl ∧ (∀ y c, cl.lookup y = some c → env.cells.lookup y = some c) ∧ (∀ y ∈ l, y.2 = .free → (cl.lookup y.1).isSome = true) ∧ (∀ b ∈ cl.map (·.2), b ∈ env.cells.map (·.2)) ∧ (∀ y, (cs.lookup y).isSome = true → (cl.lookup y).isSome = true) := by
    intro l
    induction l with
    | nil => intro cs _ h2 h3; exact ⟨cs, rfl, h2, (fun y hy => by cases hy), h3, fun _ h => h⟩
    | cons y l ih =>
      intro cs h1 h2 h3
      obtain ⟨n, k⟩ := y
      rw [List.forIn_cons]
      by_cases hk : k = .free
      · subst hk
        obtain ⟨c, hc⟩ := Option.isSome_iff_exists.mp (h1 (n, .free) (List.mem_cons_self ..) rfl)
        have e : cellOf env n = pure c := by unfold cellOf; rw [hc]
        simp only [beq_self_eq_true, if_true, e, pure_bind]
        obtain ⟨cl, a1, a2, a3, a4, a5⟩ := ih ((n, c) :: cs) (fun y hy => h1 y (List.mem_cons_of_mem _ hy)) (fun y c' hy => by
          rw [List.lookup_cons] at hy
          split at hy
          · rename_i q
            cases hy
            rw [beq_iff_eq.mp q]; exact hc
          · exact h2 y c' hy) (fun b hb => by
          rw [List.map_cons, List.mem_cons] at hb
          rcases hb with rfl | hb
          · exact List.mem_map.mpr ⟨_, mem_of_lookup hc, rfl⟩
          · exact h3 b hb)
        refine ⟨cl, a1, a2, fun y hy hf => ?_, a4, fun y hy => a5 y ?_⟩
        · rcases List.mem_cons.mp hy with rfl | hy
          · exact a5 n (by simp [List.lookup_cons])
          · exact a3 y hy hf
        · rw [List.lookup_cons]
          split
          · rfl
          · exact hy
      · have hb : (k == NameKind.free) = false := by simpa using hk
        simp only [hb, Bool.false_eq_true, if_false, pure_bind]
        obtain ⟨cl, a1, a2, a3, a4, a5⟩ := ih cs (fun y hy => h1 y (List.mem_cons_of_mem _ hy)) h2 h3
        refine ⟨cl, a1, a2, fun y hy hf => ?_, a4, a5⟩
        rcases List.mem_cons.mp hy with rfl | hy
        · exact absurd hf hk
        · exact a3 y hy hf
  obtain ⟨cl, a1, a2, a3, a4, _⟩ := key sc.names [] hall (fun y c h => by cases h) (fun b h => by cases h)
  refine ⟨cl, ?_, a2, a3, a4⟩
  unfold closureFor
  simp only
  rw [a1]
  rfl

section
variable {prog : Program} {w : World} {A : Around} {R : Result → Shared → Prop} {s : Shared}
theorem comp_turn {elt target iter : Expr} {ifs : List Expr} {scope : Scope} {pos : Pos} {it acc : Value} {env : Env}
    (h : wpAny (model prog w) A (pyNext it) (fun r s₁ => match r with
      | none => R (.ok .next) s₁
      | some v => wpAny (model prog w) A (letOwnedTupleGo target it v) (fun _ s₁' => wpAny (model prog w) A (assign target env v) (fun _ s₂ =>
          wpAny (model prog w) A (forIn ifs true fun c r => if r = true then do let ok ← isTrue c env (eval c env); pure (ForInStep.yield ok) else pure (ForInStep.yield r)) (fun ok s₃ =>
            if ok = true then wpAny (model prog w) A (eval elt env) (fun x s₄ =>
              wpAny (model prog w) A (call (.builtin "list.append") [acc, x]) (fun _ s₅ => codeAny (model prog w) A (.compLoop (.ListComp elt [⟨target, iter, ifs, 0⟩] scope pos) 0 it acc env) R s₅) (notedBy (model prog w) A env fun e s' => R (.error e) s') s₄) (notedBy (model prog w) A env fun e s' => R (.error e) s') s₃
            else codeAny (model prog w) A (.compLoop (.ListComp elt [⟨target, iter, ifs, 0⟩] scope pos) 0 it acc env) R s₃) (notedBy (model prog w) A env fun e s' => R (.error e) s') s₂) (notedBy (model prog w) A env fun e s' => R (.error e) s') s₁') (notedBy (model prog w) A env fun e s' => R (.error e) s') s₁) (notedBy (model prog w) A env fun e s' => R (.error e) s') s) :
    codeAny (model prog w) A (.compLoop (.ListComp elt [⟨target, iter, ifs, 0⟩] scope pos) 0 it acc env) R s := by
  refine codeAny_of_tree ?_
  show wpAny _ A ((compTurn (.ListComp elt [⟨target, iter, ifs, 0⟩] scope pos) 0 it acc env).onRaise (fun x => do noteFrame x env; theTreesLotGoes x)) _ _ s
  refine wpAny_noted ?_
  rw [compTurn_list]
  refine wpAny_bind (wpAny_standAt (wpAny_bind (wpAny_mono h (fun r s₁ h₁ => ?_) fun _ _ h' => h')))
  cases r with
  | none => exact wpAny_pure h₁
  | some v =>
    refine wpAny_bind (wpAny_mono h₁ (fun _ s₁' h₁' => wpAny_bind (wpAny_mono h₁' (fun _ s₂ h₂ => wpAny_bind (wpAny_mono h₂ (fun ok s₃ h₃ => ?_) fun _ _ h' => h')) fun _ _ h' => h')) fun _ _ h' => h')
    cases ok with
    | true =>
      simp only [if_true] at h₃ ⊢
      refine wpAny_bind (wpAny_bind (wpAny_mono h₃ (fun x s₄ h₄ => wpAny_bind (wpAny_mono h₄ (fun _ s₅ h₅ => wpAny_pure ?_) fun _ _ h' => h')) fun _ _ h' => h'))
      exact wpAny_pure ⟨rfl, h₅⟩
    | false =>
      simp only [Bool.false_eq_true, if_false] at h₃ ⊢
      exact wpAny_pure ⟨rfl, h₃⟩
end

section
variable {W : Wd} {fs : List Env} {fa : List Addr} {L L0 L' : Lo} {σ : Store} {h h0 h' : Heap} {q : Bool}
theorem Aft.own_sub (x : Aft fa L h L' h') {b : Addr} (hb : b ∈ own L) : b ∈ own L' := by
  obtain ⟨⟨T, rfl, _⟩, _⟩ := x
  rw [own_append]; exact List.mem_append_left _ hb
theorem Aft.live (x : Aft fa L h L' h') (l : Lay W q L' σ h') (hfa : ∀ b ∈ fa, ∃ o, h'.get? b = some o) {b : Addr} {o : Obj} (hb : h.get? b = some o) : ∃ o', h'.get? b = some o' := by
  by_cases h1 : b ∈ own L
  · exact l.live (x.own_sub h1)
  · by_cases h2 : b ∈ fa
    · exact hfa b h2
    · obtain ⟨sl, e, _⟩ := x.keeps b h1 h2 o hb
      exact ⟨_, e⟩
theorem Aft.none_of (x : Aft fa L h L' h') (l : Lay W q L' σ h') (hfa : ∀ b ∈ fa, ∃ o, h'.get? b = some o) {a : Addr} (e : h'.get? a = none) : h.get? a = none := by
  cases z : h.get? a with
  | none => rfl
  | some o =>
    obtain ⟨o', e'⟩ := x.live l hfa z
    rw [e] at e'; cases e'
theorem Aft.mono {fb : List Addr} (x : Aft fa L h L' h') (m : ∀ b ∈ fa, b ∈ fb) : Aft fb L h L' h' := ⟨x.pre, fun b hb hf => x.kept b hb fun z => hf (m b z)⟩
theorem Aft.nil_mono (x : Aft [] L h L' h') : Aft fa L h L' h' := x.mono fun _ z => by cases z

theorem noted_ok {k : Nat} {env : Env} {M : Model} {A : Around} {s : Shared} {E : Value → Shared → Prop} {Q : Unit → Shared → Prop} {e : Addr} {x : PX} {m : Bool} (ar : Ar A env fs k) (st : St W false fs L σ s.heap) (af : Aft fa L0 h0 L s.heap)
    (hfa : ∀ b ∈ fa, ∃ o, s.heap.get? b = some o) (X : ExcAt W h0 L s.heap e x m)
    (h : ∀ h', Nt fs e s.heap h' → St W false fs L σ h' → Aft fa L0 h0 L h' → ExcAt W h0 L h' e x true → Q () { s with heap := h' }) : wpAny M A (noteFrame (.ref e) env) Q E s := by
  obtain ⟨e0, rest, hfs, he⟩ := ar.top
  obtain ⟨F, hF⟩ := ar.frame
  subst hfs
  exact note_ok ar.frames he hF st.fr st.base (fun b o hb => af.live st.lay hfa hb) (fun a ha => st.lay.live ha) X fun h' n X' => h h' n (st.nt X n) (af.nt X n st.fr) X'

theorem hid_notT {D : Addr} (l : Lay W q L σ h) (hD : D ∈ L.hid) : D ∉ ownT L.l := fun z => by
  obtain ⟨i, p, e, z⟩ := own_mem z
  obtain ⟨z1, z2⟩ := (l.hidden D hD).2 i p e
  rcases z with rfl | rfl
  · exact z1 rfl
  · exact z2 rfl
theorem pl_slt {D : Addr} {vs : Array Value} (x : Slt h h' D) (pl : h.PlainList D vs) : h'.PlainList D vs := by
  obtain ⟨n, ho⟩ := pl
  exact ⟨n, x.exact ho fun es m z => by cases z⟩
/-- the hidden list grows -/
theorem hid_upd {D : Addr} (x : St W false fs L σ h) (hD : D ∈ L.hid) (k : Heap.SameBut D h h') (hl : ∃ o, h'.get? D = some o) : St W false fs L σ h' ∧ Aft [D] L h L h' ∧ (∀ {v : Value} {p : PV}, RelV false L h v p → RelV false L h' v p) ∧ (∀ {v : List Value} {p : List PV}, RelVs false L h v p → RelVs false L h' v p) := by
  have hDo : D ∈ own L := List.mem_append_left _ hD
  have kk : ∀ b, b ≠ D → ∀ o, h.get? b = some o → h'.get? b = some o := fun b hb o e => (k.2 b hb).trans e
  have af : Aft [D] L h L h' := ⟨⟨[], L.append_nil.symm, fun _ z => by simp [ownT] at z⟩, fun b _ hb => .of_some (kk b fun z => hb (List.mem_singleton.mpr z))⟩
  have rl : ∀ {v : Value} {p : PV}, RelV false L h v p → RelV false L h' v p := fun r => RelV.move (fun a q => .inl q) (fun _ _ e => e) (fun b o ho hv hb => .of_some (kk b fun z => hb (z ▸ hDo))) (fun z => by cases z) r
  have rls : ∀ {v : List Value} {p : List PV}, RelVs false L h v p → RelVs false L h' v p := fun r => RelVs.move (fun a q => .inl q) (fun _ _ e => e) (fun b o ho hv hb => .of_some (kk b fun z => hb (z ▸ hDo))) (fun z => by cases z) r
  refine ⟨⟨fun b o e => kk b (fun z => ?_) o (x.base b o e), x.offb, ⟨x.lay.len, x.lay.apart, fun i p o e1 e2 => ?_, fun a ha => ?_⟩, ?_⟩, af, rl, rls⟩
  · rw [z, x.offb D hDo] at e; cases e
  · obtain ⟨z1, z2⟩ := (x.lay.hidden D hD).2 i p e1
    exact (x.lay.objs i p o e1 e2).keep rl rls (kk _ z1) (kk _ z2)
  · obtain ⟨⟨o, e⟩, z⟩ := x.lay.hidden a ha
    refine ⟨?_, z⟩
    by_cases q : a = D
    · exact q ▸ hl
    · exact ⟨o, kk a q o e⟩
  · have := x.fr.keep (T := []) (h' := h') (fun _ q => by simp [ownT] at q) fun F o e d hF => ⟨o, kk F (fun z => hF (z ▸ hDo)) o e, d⟩
    rwa [Lo.append_nil] at this
end

noncomputable def CPost (W : Wd) (fs : List Env) (D I C : Addr) (Rr : Result → Shared → Prop) (L : Lo) (s : Shared) : R (List PV) → Prop
  | .ok l σ' => ∀ L' h' tk vs', St W false fs L' σ' h' → Aft [I, C, D] L s.heap L' h' → h'.PlainList D vs' → RelVs false L' h' vs'.toList l → (∃ m, h'.Ns C m) → Rr (.ok .next) { s with heap := h', toks := tk }
  | .exc x σ' => ∀ e L' h' tk, St W false fs L' σ' h' → Aft [I, C, D] L s.heap L' h' → ExcAt W s.heap L' h' e x true → (∃ m, h'.Ns C m) → Rr (.error (.ref e)) { s with heap := h', toks := tk }

section
variable {W : Wd} {fs : List Env} {D I C : Addr} {Rr : Result → Shared → Prop} {L L₁ : Lo} {σ₁ : Store} {s : Shared} {h₁ : Heap} {tk : Nat} {r : R (List PV)}
theorem CPost.next (P : CPost W fs D I C Rr L s r) (st : St W false fs L₁ σ₁ h₁) (a : Aft [I, C, D] L s.heap L₁ h₁) (hI : ∃ o, h₁.get? I = some o) (hC : ∃ o, h₁.get? C = some o) (hD : ∃ o, h₁.get? D = some o) : CPost W fs D I C Rr L₁ { s with heap := h₁, toks := tk } r := by
  have hfa : ∀ b ∈ [I, C, D], ∃ o, h₁.get? b = some o := fun b hb => by
    simp only [List.mem_cons, List.not_mem_nil, or_false] at hb
    rcases hb with rfl | rfl | rfl <;> assumption
  cases r with
  | ok l σ' => exact fun L' h' tk' vs' st' a' pl rel ns => P L' h' tk' vs' st' (a.trans a' st.lay hfa) pl rel ns
  | exc x σ' => exact fun e L' h' tk' st' a' X ns => P e L' h' tk' st' (a.trans a' st.lay hfa) (X.back fun _ z => a.none_of st.lay hfa z) ns
end

structure SC (W : Wd) (Φ : Sig) (k n : Nat) : Prop where
  c : ∀ {m A env fs ρ L σ s elt xs tt ce src i acc x tg ifs iter scope pos I D v vs Rr r}, Φ.q = false → ChkT W.nm env.kindOf xs tt tg → Chk W.nm m env.kindOf elt x →
    (match ce with
      | .none => ifs = []
      | some c => ∃ t, ifs = [t] ∧ Chk W.nm m env.kindOf c t) →
    At W Φ k A env fs ρ L σ s → D ∈ L.hid → s.heap.PlainList D vs → RelVs false L s.heap vs.toList acc → RelV false L s.heap v src → ItAt s.heap I v src i → I ∉ own L → W.b0.get? I = none → env.locals ∉ own L → W.b0.get? env.locals = none →
    evC Φ n elt xs tt ce src i ρ acc σ = some r → CPost W fs D I env.locals Rr L s r →
    codeAny (model W.prog W.w) A (.compLoop (.ListComp x [⟨tg, iter, ifs, 0⟩] scope pos) 0 (.ref I) (.ref D) env) Rr s

section
variable {W : Wd} {Φ : Sig} {k n : Nat}
theorem ItAt.notFa {W : Wd} {q : Bool} {env : Env} {ρ : Loc} {L : Lo} {h : Heap} {I : Addr} {v : Value} {src : PV} {i : Nat} (x : ItAt h I v src i) (e : EnvRel W q env ρ L h) : I ∉ faOf env := fun hm => by
  obtain ⟨o, vs, T, ho, hd, _⟩ := x.obj
  obtain ⟨o', ho', z⟩ := e.low I hm
  rw [ho] at ho'; cases ho'
  rcases z with ⟨_, _, z⟩ | ⟨_, z⟩ <;> (rw [hd] at z; cases z)
theorem sc_c (wok : WOk W) (ih : SE W Φ k n) (ihc : SC W Φ k n) : SC W Φ k (n + 1) := by
  refine ⟨?_⟩
  intro m A env fs ρ L σ s elt xs tt ce src i acc x tg ifs iter scope pos I D v vs Rr r hq hT hE hIf a hD hpl hacc hv hit hIo hIb hCo hCb hr P
  have hh := a.hq hq
  have hst := a.st
  have henv := a.env
  rw [hq] at hst henv
  unfold evC at hr
  have hIf' := hit.notFa henv
  have hIC : I ≠ env.locals := fun z => hIf' (z ▸ List.mem_cons_self ..)
  have hDo : D ∈ own L := List.mem_append_left _ hD
  have hDI : D ≠ I := fun z => hIo (z ▸ hDo)
  have hDC : D ≠ env.locals := fun z => hCo (z ▸ hDo)
  have offI : ∀ b ∈ [I], b ∉ own L ∧ W.b0.get? b = none := fun b hb => by rw [List.mem_singleton.mp hb]; exact ⟨hIo, hIb⟩
  cases ho : itemAt σ tt src i with
  | none => rw [ho] at hr; cases hr
  | some o =>
    rw [ho] at hr
    refine comp_turn (next_ok hh ho hst.lay hv hit ?_ ?_)
    · intro e h' hx
      subst e
      cases hr
      have c := hit.chg hx
      obtain ⟨mm, hm⟩ := henv.ns
      refine P L h' s.toks vs (hst.chg c offI) ((c.aft L).mono fun b hb => by simp [List.mem_singleton.mp hb]) ?_ (c.rels hacc) ⟨mm, (Slt.of_some fun o e => hx _ o hIC.symm e : Slt s.heap h' env.locals).ns hm⟩
      obtain ⟨nn, hn⟩ := hpl
      exact ⟨nn, hx D _ hDI hn⟩
    · intro p e y h₁ tk₁ hs it₁ ry
      subst e
      simp only at hr
      cases ht : takeV ρ xs tt p with
      | none => rw [ht] at hr; cases hr
      | some ρ₁ =>
      rw [ht] at hr
      simp only at hr
      have c1 := hit.chg hs.extBut
      have env1 := henv.chg c1 fun b hb => by rw [List.mem_singleton.mp hb]; exact hIf'
      have hy : tt = true → ∃ a, y = .ref a := fun e => by
        subst e
        cases p <;> simp only [takeV] at ht <;> try (cases ht; done)
        simp only [RelV] at ry
        obtain ⟨a, _, z, _⟩ := ry
        exact ⟨a, z⟩
      refine go_ok (s := { s with heap := h₁, toks := tk₁ }) hT ho it₁ hy ?_
      refine take_ok wok hh hT env1 ry ht fun h₂ tk₂ c2 env2 => ?_
      have st2 : St W false fs L σ h₂ := (hst.chg c1 offI).chg c2 fun b hb => by rw [List.mem_singleton.mp hb]; exact ⟨hCo, hCb⟩
      have it2 : ItAt h₂ I v src (i + 1) := it₁.of fun o e => c2.keep I o (fun z => hIC (List.mem_singleton.mp z)) e
      have c12 : Chg [I, env.locals] s.heap h₂ := (c1.mono fun b hb => by simp [List.mem_singleton.mp hb]).trans (c2.mono fun b hb => by simp [List.mem_singleton.mp hb])
      have pl2 : h₂.PlainList D vs := by
        obtain ⟨nn, hn⟩ := hpl
        exact ⟨nn, c12.keep D _ (by simp [hDI, hDC]) hn⟩
      have a2 : At W Φ k A env fs ρ₁ L σ { s with heap := h₂, toks := tk₂ } := ⟨a.ar, a.hq, by rw [hq]; exact env2, by rw [hq]; exact st2, a.code_⟩
      have liveC : ∀ {h : Heap} {ρ : Loc} {L : Lo}, EnvRel W false env ρ L h → ∃ o, h.get? env.locals = some o := fun e => let ⟨o, ho, _⟩ := e.low _ (List.mem_cons_self ..); ⟨o, ho⟩
      have liveI : ∀ {h : Heap} {j : Nat}, ItAt h I v src j → ∃ o, h.get? I = some o := fun x => let ⟨o, _, _, ho, _⟩ := x.obj; ⟨o, ho⟩
      have sub3 : ∀ b ∈ [I, env.locals], b ∈ [I, env.locals, D] := fun b hb => by
        simp only [List.mem_cons, List.not_mem_nil, or_false] at hb ⊢
        rcases hb with rfl | rfl
        · exact .inl rfl
        · exact .inr (.inl rfl)
      have liveD : ∀ {h : Heap} {vs : Array Value}, h.PlainList D vs → ∃ o, h.get? D = some o := fun x => let ⟨_, ho⟩ := x; ⟨_, ho⟩
      have P2 : CPost W fs D I env.locals Rr L { s with heap := h₂, toks := tk₂ } r := P.next st2 ((c12.aft L).mono sub3) (liveI it2) (liveC env2) (liveD pl2)
      have hDT := hid_notT st2.lay hD
      have hv2 := c12.rel hv
      have acc2 := c12.rels hacc
      -- an exception on the way is noted and goes on
      have exc : ∀ {L₃ : Lo} {σ₃ : Store} {h₃ : Heap} {tk₃ : Nat}, St W false fs L₃ σ₃ h₃ → Aft [] L h₂ L₃ h₃ → Post W false fs (fun _ _ (_ : Unit) (_ : List PV) => False) L₃ { s with heap := h₃, toks := tk₃ } r (fun _ _ => False) (notedBy (model W.prog W.w) A env fun e s' => Rr (.error e) s') := by
        intro L₃ σ₃ h₃ tk₃ st3 af3
        cases r with
        | ok l σ' => exact fun _ _ _ _ _ _ z => z
        | exc x' σ' =>
          intro e L₄ h₄ tk₄ st4 af4 X
          have env3 := env2.aft af3
          have env4 := env3.aft af4
          have it3 := it2.slt (af3.keeps I hIo fun z => by cases z)
          have hIo3 : I ∉ own L₃ := by
            obtain ⟨⟨T, rfl, hT'⟩, _⟩ := af3
            obtain ⟨o, hoI⟩ := liveI it2
            exact own_pre hIo hT' hoI
          have it4 := it3.slt (af4.keeps I hIo3 fun z => by cases z)
          have af24 : Aft [I, env.locals, D] L h₂ L₄ h₄ := ((af3.trans0 af4 st3.lay).nil_mono)
          have pl4 := pl_slt ((af3.trans0 af4 st3.lay).kept D hDT fun z => by cases z) pl2
          have hfa : ∀ b ∈ [I, env.locals, D], ∃ o, h₄.get? b = some o := fun b hb => by
            simp only [List.mem_cons, List.not_mem_nil, or_false] at hb
            rcases hb with rfl | rfl | rfl
            · exact liveI it4
            · exact liveC env4
            · exact liveD pl4
          have X' : ExcAt W h₂ L₄ h₄ e x' false := X.back fun _ z => af3.none_back st3.lay z
          refine noted_ok (s := { s with heap := h₄, toks := tk₄ }) a.ar st4 af24 hfa X' fun h₅ n5 st5 af5 X5 => ?_
          obtain ⟨mm, hm⟩ := env4.ns
          exact P2 e L₄ h₅ tk₄ st5 af5 X5 ⟨mm, n5.ns X' st4.fr hm⟩
      have cont : ∀ {b : Bool} {σ₃ : Store} {L₃ : Lo} {h₃ : Heap} {tk₃ : Nat}, (if b = true then bnd (ev Φ n elt ρ₁ σ₃) fun u σ => if acc.length < SZ then evC Φ n elt xs tt ce src (i + 1) ρ₁ (acc ++ [u]) σ else .none else evC Φ n elt xs tt ce src (i + 1) ρ₁ acc σ₃) = some r →
          St W false fs L₃ σ₃ h₃ → Aft [] L h₂ L₃ h₃ →
          (if b = true then wpAny (model W.prog W.w) A (eval x env) (fun x' s₄ =>
              wpAny (model W.prog W.w) A (call (.builtin "list.append") [.ref D, x']) (fun _ s₅ => codeAny (model W.prog W.w) A (.compLoop (.ListComp x [⟨tg, iter, ifs, 0⟩] scope pos) 0 (.ref I) (.ref D) env) Rr s₅) (notedBy (model W.prog W.w) A env fun e s' => Rr (.error e) s') s₄) (notedBy (model W.prog W.w) A env fun e s' => Rr (.error e) s') { s with heap := h₃, toks := tk₃ }
            else codeAny (model W.prog W.w) A (.compLoop (.ListComp x [⟨tg, iter, ifs, 0⟩] scope pos) 0 (.ref I) (.ref D) env) Rr { s with heap := h₃, toks := tk₃ }) := by
        intro b σ₃ L₃ h₃ tk₃ hf st3 af3
        have env3 := env2.aft af3
        have hIo3 : I ∉ own L₃ := by
          obtain ⟨⟨T, rfl, hT'⟩, _⟩ := af3
          obtain ⟨o, hoI⟩ := liveI it2
          exact own_pre hIo hT' hoI
        have it3 := it2.slt (af3.keeps I hIo fun z => by cases z)
        have hD3 : D ∈ L₃.hid := by
          obtain ⟨⟨T, rfl, _⟩, _⟩ := af3
          exact hD
        have hCo3 : env.locals ∉ own L₃ := env3.off _ (List.mem_cons_self ..)
        have a3 : At W Φ k A env fs ρ₁ L₃ σ₃ { s with heap := h₃, toks := tk₃ } := ⟨a.ar, a.hq, by rw [hq]; exact env3, by rw [hq]; exact st3, a.code_⟩
        have rl3 : ∀ {v : Value} {p : PV}, RelV false L h₂ v p → RelV false L₃ h₃ v p := fun r => af3.rel (.nil _) (fun _ => rfl) r
        have rls3 : ∀ {v : List Value} {p : List PV}, RelVs false L h₂ v p → RelVs false L₃ h₃ v p := fun r => af3.rels (.nil _) (fun _ => rfl) r
        have pl3 := pl_slt (af3.kept D hDT fun z => by cases z) pl2
        have P3 := P2.next (tk := tk₃) st3 af3.nil_mono (liveI it3) (liveC env3) (liveD pl3)
        cases b with
        | false =>
          rw [if_neg (by simp)] at hf ⊢
          exact ihc.c hq hT hE hIf a3 hD3 pl3 (rls3 acc2) (rl3 hv2) it3 hIo3 hIb hCo3 hCb hf P3
        | true =>
          rw [if_pos rfl] at hf ⊢
          refine bnd_ok hf (ih.e hE a3) (by rw [hq]; exact exc st3 af3) fun u σ₄ y₄ L₄ h₄ tk₄ hf₄ st4 af4 rel4 _ => ?_
          rw [hq] at st4 rel4
          split at hf₄
          · rename_i hz
            have af24 := af3.trans0 af4 st3.lay
            have env4 := env3.aft af4
            have hIo4 : I ∉ own L₄ := by
              obtain ⟨⟨T, rfl, hT'⟩, _⟩ := af4
              obtain ⟨o, hoI⟩ := liveI it3
              exact own_pre hIo3 hT' hoI
            have it4 := it3.slt (af4.keeps I hIo3 fun z => by cases z)
            have hD4 : D ∈ L₄.hid := by
              obtain ⟨⟨T, rfl, _⟩, _⟩ := af4
              exact hD3
            have pl4 := pl_slt (af4.kept D (hid_notT st3.lay hD3) fun z => by cases z) pl3
            have acc4 : RelVs false L₄ h₄ vs.toList acc := af4.rels (.nil _) (fun _ => rfl) (rls3 acc2)
            have hlen : vs.size = acc.length := by simpa using acc4.length
            unfold SZ at hz
            refine wpAny_list_append_plain (s := { s with heap := h₄, toks := tk₄ }) pl4 (fun h₅ pl5 hs5 => ?_) (by rw [hlen, sizeLine_eq]; exact Nat.le_of_lt (Nat.lt_of_lt_of_le hz (by decide)))
            obtain ⟨st5, af5, rl5, rls5⟩ := hid_upd st4 hD4 hs5 (liveD pl5)
            have nID : I ≠ D := hDI.symm
            have env5 : EnvRel W false env ρ₁ L₄ h₅ := by
              have c5 : ∀ b o, b ≠ D → h₄.get? b = some o → h₅.get? b = some o := fun b o hb e => (hs5.2 b hb).trans e
              have nfa : ∀ b ∈ faOf env, b ≠ D := fun b hb z => env4.off b hb (z ▸ List.mem_append_left _ hD4)
              exact ⟨env4.kind, env4.globals, env4.builtins, let ⟨m, hm⟩ := env4.ns; ⟨m, (Slt.of_some fun o e => c5 _ o (nfa _ (List.mem_cons_self ..)) e : Slt h₄ h₅ env.locals).ns hm⟩,
                fun y pv e => let ⟨v, a, b⟩ := env4.names y pv e; ⟨v, a.keep fun b hb => .of_some fun o e => c5 b o (nfa b hb) e, rl5 b⟩,
                fun y cc e => let ⟨v, hv⟩ := env4.cells y cc e; ⟨v, (Slt.of_some fun o e' => c5 _ o (nfa _ (cell_mem e)) e' : Slt h₄ h₅ cc).cell hv⟩,
                env4.apart, env4.off, fun b hb => let ⟨o, ho, z⟩ := env4.low b hb; ⟨o, c5 b o (nfa b hb) ho, z⟩, env4.fresh, env4.have_⟩
            have a5 : At W Φ k A env fs ρ₁ L₄ σ₄ { s with heap := h₅, toks := tk₄ } := ⟨a.ar, a.hq, by rw [hq]; exact env5, by rw [hq]; exact st5, a.code_⟩
            have it5 : ItAt h₅ I v src (i + 1) := it4.of fun o e => (hs5.2 I nID).trans e
            have af35 : Aft [I, env.locals, D] L₃ h₃ L₄ h₅ := (af4.nil_mono).trans (af5.mono fun b hb => by simp [List.mem_singleton.mp hb]) st4.lay fun b hb => by
              simp only [List.mem_cons, List.not_mem_nil, or_false] at hb
              rcases hb with rfl | rfl | rfl
              · exact liveI it4
              · exact liveC env4
              · exact liveD pl4
            have P5 := P3.next (tk := tk₄) st5 af35 (liveI it5) (liveC env5) (liveD pl5)
            refine ihc.c hq hT hE hIf a5 hD4 pl5 ?_ (rl5 (af4.rel (.nil _) (fun _ => rfl) (rl3 hv2))) it5 hIo4 hIb (env5.off _ (List.mem_cons_self ..)) hCb hf₄ P5
            rw [Array.toList_push]
            exact (rls5 acc4).append (by simp only [RelVs, and_true]; exact rl5 rel4)
          · cases hf₄
      cases ce with
      | none =>
        obtain rfl := hIf
        refine wpAny_tests_nil ?_
        exact cont (b := true) (tk₃ := tk₂) (by simpa [bnd] using hr) st2 (.refl _ _ _)
      | some c =>
        obtain ⟨t, rfl, hIf⟩ := hIf
        · refine wpAny_tests_one (bnd_ok hr (ih.t hIf a2) (by rw [hq]; exact exc st2 (.refl _ _ _)) fun b σ₃ b' L₃ h₃ tk₃ hf st3 af3 rel3 _ => ?_)
          have : b' = b := rel3
          subst this
          rw [hq] at st3
          exact cont hf st3 af3
end

theorem relabel_lookup {env : Env} {sc : Scope} (hk : env.scope.kind = .function) (x : Str) : (relabel sc env).names.lookup x = kdIn env.kindOf sc x := by
  unfold relabel kdIn
  show List.lookup x (sc.names.map _) = _
  generalize sc.names = l
  induction l with
  | nil => rfl
  | cons p r ih =>
    obtain ⟨n, k⟩ := p
    rw [List.map_cons]
    by_cases hx : x = n
    · subst hx
      by_cases hf : k = .free
      · subst hf
        by_cases hc : env.kindOf x = some .cell
        · simp [List.lookup_cons, hk, hc]
        · simp [List.lookup_cons, hk, hc]
      · have e : (k == NameKind.free) = false := by simpa using hf
        simp only [e, Bool.false_and, Bool.false_eq_true, if_false, List.lookup_cons, beq_self_eq_true]
        cases k <;> first | rfl | exact absurd rfl hf
    · have hx' : (x == n) = false := by simpa using hx
      have e2 : List.lookup x ((if (k == NameKind.free && env.scope.kind == ScopeKind.function && env.kindOf n == some NameKind.cell) = true then (n, NameKind.cell) else (n, k)) :: List.map (fun x => if (x.2 == NameKind.free && env.scope.kind == ScopeKind.function && env.kindOf x.1 == some NameKind.cell) = true then (x.1, NameKind.cell) else (x.1, x.2)) r) = List.lookup x (List.map (fun x => if (x.2 == NameKind.free && env.scope.kind == ScopeKind.function && env.kindOf x.1 == some NameKind.cell) = true then (x.1, NameKind.cell) else (x.1, x.2)) r) := by
        split <;> rw [List.lookup_cons, hx']
      rw [e2, List.lookup_cons, hx']
      exact ih
theorem capture_lk : ∀ {fv : List Nat} {ρ ρ' : Loc}, capture ρ fv = some ρ' → ∀ x pv, lk ρ' x = some pv → x ∈ fv ∧ lk ρ x = some pv
  | [], _, ρ', h, x, pv, e => by
    cases h; cases e
  | y :: fv, ρ, ρ', h, x, pv, e => by
    simp only [capture] at h
    split at h
    · rename_i v r hv hr
      cases h
      simp only [lk] at e
      split at e
      · rename_i q; subst q
        cases e
        exact ⟨List.mem_cons_self .., hv⟩
      · obtain ⟨a, b⟩ := capture_lk hr x pv e
        exact ⟨List.mem_cons_of_mem _ a, b⟩
    · cases h

noncomputable def Lo.hide (L : Lo) (D : Addr) : Lo := ⟨L.l, D :: L.hid⟩
section
variable {W : Wd} {fs : List Env} {L : Lo} {σ : Store} {h h' h0 : Heap} {D : Addr}
theorem own_hide {a : Addr} (x : a ∈ own (L.hide D)) : a = D ∨ a ∈ own L := by
  rcases List.mem_append.mp x with x | x
  · rcases List.mem_cons.mp x with x | x
    · exact .inl x
    · exact .inr (List.mem_append_left _ x)
  · exact .inr (List.mem_append_right _ x)
theorem own_hide_sub {T : List LO} {a : Addr} (x : a ∈ own (L.add T)) : a ∈ own ((L.hide D).add T) := by
  rcases List.mem_append.mp x with x | x
  · exact List.mem_append_left _ (List.mem_cons_of_mem _ x)
  · exact List.mem_append_right _ x
theorem st_hide (x : St W false fs L σ h) (k : KA h h') (hD : h.get? D = none) (hD' : ∃ o, h'.get? D = some o) : St W false fs (L.hide D) σ h' := by
  have rl : ∀ {v : Value} {p : PV}, RelV false L h v p → RelV false (L.hide D) h' v p := fun r => RelV.move (fun a q => (own_hide q).elim (fun z => .inr (z ▸ hD)) .inl) (fun _ _ e => e) (fun b o ho hv hb => k.slt b) (fun z => by cases z) r
  have rls : ∀ {v : List Value} {p : List PV}, RelVs false L h v p → RelVs false (L.hide D) h' v p := fun r => RelVs.move (fun a q => (own_hide q).elim (fun z => .inr (z ▸ hD)) .inl) (fun _ _ e => e) (fun b o ho hv hb => k.slt b) (fun z => by cases z) r
  refine ⟨fun b o e => k b o (x.base b o e), fun a ha => ?_, ⟨x.lay.len, x.lay.apart, fun i p o e1 e2 => (x.lay.objs i p o e1 e2).keep rl rls (k _) (k _), fun a ha => ?_⟩, fun env he => ?_⟩
  · rcases own_hide ha with rfl | ha
    · cases z : W.b0.get? a with
      | none => rfl
      | some o => have := x.base a o z; rw [hD] at this; cases this
    · exact x.offb a ha
  · rcases List.mem_cons.mp ha with rfl | ha
    · refine ⟨hD', fun i p e => ?_⟩
      obtain ⟨o1, e1⟩ := x.lay.live (mem_own (L := L) e).1
      obtain ⟨o2, e2⟩ := x.lay.live (mem_own (L := L) e).2
      exact ⟨fun z => (by rw [z, hD] at e1; cases e1), fun z => (by rw [z, hD] at e2; cases e2)⟩
    · obtain ⟨⟨o, e⟩, z⟩ := x.lay.hidden a ha
      exact ⟨⟨o, k a o e⟩, z⟩
  · obtain ⟨hk, F, o, h1, h2, h3, h4, d⟩ := x.fr env he
    refine ⟨hk, F, o, h1, h2, fun z => ?_, k F o h4, d⟩
    rcases own_hide z with rfl | z
    · rw [hD] at h4; cases h4
    · exact h3 z
/-- the hidden list comes forth; a dropped frame is let go -/
theorem st_show {T : List LO} {C : Addr} (x : St W false fs ((L.hide D).add T) σ h) (k : ∀ b o, b ≠ C → h.get? b = some o → h'.get? b = some o) (hC : C ∉ own ((L.hide D).add T)) (hCb : W.b0.get? C = none) (hCv : ∀ o, h.get? C = some o → ∃ es n, o.data = .dict es n)
    (hF : ∀ env ∈ fs, env.frame ≠ some C) : St W false fs (L.add T) σ h' ∧ (∀ {v : Value} {p : PV}, RelV false ((L.hide D).add T) h v p → RelV false (L.add T) h' v p) ∧ (∀ {v : List Value} {p : List PV}, RelVs false ((L.hide D).add T) h v p → RelVs false (L.add T) h' v p) := by
  have kv : ∀ b o, h.get? b = some o → (∃ x n, o.data = .seq x n) ∨ (∃ n t u w, o = rngObj n t u w) → b ∉ own ((L.hide D).add T) → Slt h h' b := fun b o ho hv _ => .of_some (k b · fun z => by
    subst z
    obtain ⟨es, n, hd⟩ := hCv o ho
    rcases hv with ⟨_, _, z⟩ | ⟨_, _, _, _, rfl⟩
    · rw [hd] at z; cases z
    · cases hd)
  have rl : ∀ {v : Value} {p : PV}, RelV false ((L.hide D).add T) h v p → RelV false (L.add T) h' v p := fun r => RelV.move (fun a q => .inl (own_hide_sub q)) (fun _ _ e => e) kv (fun z => by cases z) r
  have rls : ∀ {v : List Value} {p : List PV}, RelVs false ((L.hide D).add T) h v p → RelVs false (L.add T) h' v p := fun r => RelVs.move (fun a q => .inl (own_hide_sub q)) (fun _ _ e => e) kv (fun z => by cases z) r
  have ko : ∀ b ∈ own (L.add T), ∀ o, h.get? b = some o → h'.get? b = some o := fun b hb o e => k b o (fun z => hC (own_hide_sub (z ▸ hb))) e
  refine ⟨⟨fun b o e => k b o (fun z => by rw [z, hCb] at e; cases e) (x.base b o e), fun a ha => x.offb a (own_hide_sub ha), ⟨x.lay.len, x.lay.apart, fun i p o e1 e2 => (x.lay.objs i p o e1 e2).keep rl rls (ko _ (mem_own (L := L.add T) e1).1) (ko _ (mem_own (L := L.add T) e1).2), fun a ha => ?_⟩, fun env he => ?_⟩, rl, rls⟩
  · obtain ⟨⟨o, e⟩, z⟩ := x.lay.hidden a (List.mem_cons_of_mem _ ha)
    exact ⟨⟨o, ko a (List.mem_append_left _ ha) o e⟩, z⟩
  · obtain ⟨hk, F, o, h1, h2, h3, h4, d⟩ := x.fr env he
    exact ⟨hk, F, o, h1, h2, fun z => h3 (own_hide_sub z), k F o (fun z => hF env he (z ▸ h1)) h4, d⟩
theorem ExcAt.kept {e : Addr} {x : PX} {m : Bool} {L' : Lo} (X : ExcAt W h0 L h e x m) (k : ∀ b o, h0.get? b = none → h.get? b = some o → h'.get? b = some o) (hL : ∀ a ∈ own L', a ∈ own L) : ExcAt W h0 L' h' e x m := by
  obtain ⟨x1, x2, x3, vs, d, ho, hsz, htb, hd1, hd2, hd3, hsp⟩ := X
  refine ⟨x1, x2, fun z => x3 (hL _ z), vs, d, k e _ x1 ho, hsz, ?_, hd1, fun z => hd2 (hL _ z), hd3, fun i hi => ?_⟩
  · rcases htb with q | ⟨T, ts, oT, q, t1, t2, t3, t4, t5, t6⟩
    · exact .inl q
    · exact .inr ⟨T, ts, oT, q, t1, t2, t3, fun z => t4 (hL _ z), k T _ t2 t5, t6⟩
  · obtain ⟨hc, od', es, n, t, g1, g2⟩ := hsp i hi
    exact ⟨hc, od', es, n, t, k d _ hd1 g1, g2⟩
end
theorem evC_item {Φ : Sig} {n : Nat} {elt : CE} {xs : List Nat} {tt : Bool} {ce : Option CE} {src : PV} {i : Nat} {ρ : Loc} {acc : List PV} {σ : Store} {r : R (List PV)} (h : evC Φ n elt xs tt ce src i ρ acc σ = some r) : ∃ o, itemAt σ tt src i = some o := by
  cases n with
  | zero => unfold evC at h; cases h
  | succ n =>
    unfold evC at h
    cases z : itemAt σ tt src i with
    | none => rw [z] at h; cases h
    | some o => exact ⟨o, rfl⟩
theorem bnd_some {α β : Type} {m : Option (R α)} {f : α → Store → Option (R β)} {r : R β} (h : bnd m f = some r) : ∃ r₁, m = some r₁ := by
  cases m with
  | none => cases h
  | some r₁ => exact ⟨r₁, rfl⟩
end Mine
end
/-! M13: a comprehension as an expression -/
section
set_option autoImplicit false
set_option linter.unusedVariables false
set_option linter.unusedSimpArgs false
namespace Mine
open PySem PySem.W PyProof.Rows

section
variable {W : Wd} {K : Frag} {Φ : Sig} {k n m : Nat} {A : Around} {env : Env} {fs : List Env} {ρ : Loc} {L : Lo} {σ : Store} {s : Shared} {x : Expr}

theorem free_names {nm : Nat → Str} {kd : Str → Option NameKind} {fv : List Nat} {sc : Scope} (h : freeOk nm kd fv sc = true) :
    sc.kind = .function ∧ (∀ x ∈ fv, sc.names.lookup (nm x) = some .free ∧ kd (nm x) = some .cell) ∧ ∀ y ∈ sc.names, (y.2 = .local → sc.names.lookup y.1 = some .local) ∧ (y.2 = .free → kd y.1 = some .cell) ∧ y.2 ≠ .cell := by
  unfold freeOk at h
  simp only [Bool.and_eq_true, beq_iff_eq, List.all_eq_true] at h
  obtain ⟨⟨h1, h2⟩, h3⟩ := h
  refine ⟨h1, h2, fun y hy => ?_⟩
  have := h3 y hy
  obtain ⟨n, k⟩ := y
  refine ⟨fun e => ?_, fun e => ?_, fun e => ?_⟩
  · simp only at e; subst e; simpa using this
  · simp only at e; subst e
    simp only [Bool.and_eq_true, List.any_eq_true, beq_iff_eq] at this
    obtain ⟨⟨x, hx, rfl⟩, _⟩ := this
    exact (h2 x hx).2
  · simp only at e; subst e; simp at this

theorem notSet {kd : Str → Option NameKind} {ce : CE} (h : Chk W.nm m kd ce x) : ∀ v, foldedSetIterable x env v = pure v := by
  intro v
  have h := h.ok.1
  cases x <;> first | rfl | exact (Bool.false_ne_true h).elim

/-- the comprehension's own names -/
theorem compEnv_rel {sc : Scope} {fv : List Nat} {cl : List (Str × Addr)} {C : Addr} {ρ' : Loc} {L' : Lo} {h h' : Heap} (he : EnvRel W false env ρ L h) (hf : freeOk W.nm env.kindOf fv sc = true)
    (c2 : ∀ y c, cl.lookup y = some c → env.cells.lookup y = some c) (c3 : ∀ y ∈ sc.names, y.2 = .free → (cl.lookup y.1).isSome = true) (c4 : ∀ b ∈ cl.map (·.2), b ∈ env.cells.map (·.2))
    (hcap : capture ρ fv = some ρ') (kk : KA h h') (rl : ∀ {v : Value} {p : PV}, RelV false L h v p → RelV false L' h' v p) (hC : ∃ m, h'.Ns C m) (hCo : C ∉ own L') (hCb : W.b0.get? C = none) (hown : ∀ b ∈ faOf env, b ∉ own L') :
    EnvRel W false (compEnvC sc cl C env) ρ' L' h' := by
  obtain ⟨f1, f2, f3⟩ := free_names hf
  have kinds : ∀ y, (compEnvC sc cl C env).kindOf y = kdIn env.kindOf sc y := fun y => relabel_lookup he.kind y
  refine ⟨f1, he.globals, he.builtins, hC, fun x pv e => ?_, fun y c e => ?_, fun y z c e1 e2 => he.apart y z c (c2 y c e1) (c2 z c e2), fun b hb => ?_, fun b hb => ?_, fun b hb => ?_, fun y e => ?_⟩
  · obtain ⟨hx, hl⟩ := capture_lk hcap x pv e
    obtain ⟨g1, g2⟩ := f2 x hx
    obtain ⟨v, hn, rv⟩ := he.names x pv hl
    refine ⟨v, .inr ⟨.inl ?_, ?_⟩, rl rv⟩
    · rw [kinds]; unfold kdIn; rw [g1]; simp [g2]
    · rcases hn with ⟨hk, _⟩ | ⟨_, c, hc, hv⟩
      · rw [g2] at hk; cases hk
      · obtain ⟨c', hc'⟩ := Option.isSome_iff_exists.mp (c3 (W.nm x, .free) (mem_of_lookup g1) rfl)
        have := c2 _ _ hc'
        rw [hc] at this; cases this
        exact ⟨c, hc', (kk.slt c).cell hv⟩
  · obtain ⟨v, hv⟩ := he.cells y c (c2 y c e)
    exact ⟨v, (kk.slt c).cell hv⟩
  · rcases List.mem_cons.mp hb with rfl | hb
    · exact hCo
    · obtain ⟨y, hy⟩ := faOf_cell (env := compEnvC sc cl C env) hb
      exact hown b (cell_mem (c2 y b hy))
  · rcases List.mem_cons.mp hb with rfl | hb
    · obtain ⟨mm, o, es, ep, ho, hd, _⟩ := hC
      exact ⟨o, ho, .inl ⟨_, _, hd⟩⟩
    · obtain ⟨y, hy⟩ := faOf_cell (env := compEnvC sc cl C env) hb
      obtain ⟨o, ho, z⟩ := he.low b (cell_mem (c2 y b hy))
      exact ⟨o, kk b o ho, z⟩
  · rcases List.mem_cons.mp hb with rfl | hb
    · exact hCb
    · obtain ⟨y, hy⟩ := faOf_cell (env := compEnvC sc cl C env) hb
      exact he.fresh b (cell_mem (c2 y b hy))
  · rw [kinds] at e
    unfold kdIn at e
    cases hl : sc.names.lookup y with
    | none => rw [hl] at e; cases e
    | some kd =>
      have hm := mem_of_lookup hl
      cases kd with
      | free => exact Option.isSome_iff_exists.mp (c3 _ hm rfl)
      | cell => exact absurd rfl (f3 _ hm).2.2
      | _ => rw [hl] at e; cases e

theorem se_comp (wk : WK W K) (ih : SE W Φ k n) (ihc : SC W Φ k n) {elt : CE} {xs : List Nat} {tt : Bool} {fv : List Nat} {it : CE} {ce : Option CE} (h : Chk W.nm (m + 1) env.kindOf (.comp elt xs tt fv it ce) x) (a : At W Φ k A env fs ρ L σ s) :
    Snd W Φ.q fs A (eval x env) (ev Φ (n + 1) (.comp elt xs tt fv it ce) ρ σ) (RelV Φ.q) L s := by
  intro r Q E hr P
  obtain ⟨x', tg, iter, ifs, sc, pos, rfl, h1, h2, h3, h4, h5⟩ := h
  · skip
    change @ite _ _ _ _ _ = some r at hr
    split at hr
    · cases hr
    rename_i hq
    have hq := q_false hq
    obtain ⟨f1, f2, f3⟩ := free_names h2
    have henv := a.env
    rw [hq] at henv P
    obtain ⟨cl, d1, d2, d3, d4⟩ := closure_ok (env := env) (sc := sc) fun y hy e => by
      obtain ⟨c, hc⟩ := henv.have_ _ ((f3 y hy).2.1 e)
      rw [hc]; rfl
    rw [eval_ListComp]
    refine wpAny_comprehension_free (use := none) rfl (notSet h1) d1 f1 (fun y hy e => (f3 y hy).1 e) ?_
    show wpAny _ _ (eval iter env) _ _ _
    have ihe := ih.e h1 a
    rw [hq] at ihe
    refine bnd_ok hr ihe P fun p σ₁ v L₁ h₁ tk hf st af rel P₁ => ?_
    split at hf
    rotate_left
    · cases hf
    rename_i ρ' hcap
    obtain ⟨r₁, hr₁⟩ := bnd_some hf
    obtain ⟨o, ho⟩ := evC_item hr₁
    have env1 := henv.aft af
    refine iter_ok (s := { s with heap := h₁, toks := tk }) ho st.lay rel fun I h₂ hI k12 it2 => ?_
    refine wpAny_newList ?_ (Nat.zero_le _)
    refine wpAny_newFunctionEnv (fun y hy => (f3 y hy).2.2) (by intro y hy; simp at hy) (fun h₄ hns₄ hsb₄ => ?_) f1
    dsimp only at hns₄ hsb₄ ⊢
    generalize hH3 : h₂.push { cls := .type "list", data := .seq ([] : List Value).toArray } = h₃ at hns₄ hsb₄ ⊢
    have hC3 := fresh_none h₃
    have hD2 := fresh_none h₂
    generalize hDD : h₂.objs.size = D at hD2 ⊢
    generalize hCC : h₃.objs.size = C at hC3 hns₄ hsb₄ ⊢
    have k23 : KA h₂ h₃ := hH3 ▸ KA.push _ _
    have k34 : KA h₃ h₄ := fun b o e => by
      have hb : b ≠ C := fun z => by rw [z, hC3] at e; cases e
      exact (hsb₄.2 b hb).trans (Heap.get?_push_of_some _ e)
    have k24 := k23.trans k34
    have k14 := k12.trans k24
    have back : ∀ {a : Addr}, h₄.get? a = none → h₁.get? a = none := fun {a} e => by
      cases z : h₁.get? a with
      | none => rfl
      | some o => rw [k14 a o z] at e; cases e
    have hD1 : h₁.get? D = none := by
      cases z : h₁.get? D with
      | none => rfl
      | some o => rw [k12 D o z] at hD2; cases hD2
    have hC1 : h₁.get? C = none := by
      cases z : h₁.get? C with
      | none => rfl
      | some o => rw [(k12.trans k23) C o z] at hC3; cases hC3
    have hD4 : h₄.PlainList D #[] := ⟨0, k34 D _ (by rw [← hH3, ← hDD]; exact Heap.get?_push_size _ rfl)⟩
    have b0no : ∀ {a : Addr}, h₁.get? a = none → W.b0.get? a = none := fun {a} e => by
      cases z : W.b0.get? a with
      | none => rfl
      | some o => rw [st.base a o z] at e; cases e
    have stH := st_hide (D := D) st k14 hD1 (let ⟨_, ho⟩ := hD4; ⟨_, ho⟩)
    have rl : ∀ {v : Value} {p : PV}, RelV false L₁ h₁ v p → RelV false (L₁.hide D) h₄ v p := fun r => RelV.move (fun a q => (own_hide q).elim (fun z => .inr (z ▸ hD1)) .inl) (fun _ _ e => e) (fun b o ho hv hb => k14.slt b) (fun z => by cases z) r
    have notO : ∀ {a : Addr}, h₁.get? a = none → a ≠ D → a ∉ own (L₁.hide D) := fun {a} e hne z => by
      rcases own_hide z with z | z
      · exact hne z
      · obtain ⟨o, ho⟩ := st.lay.live z
        rw [e] at ho; cases ho
    have hCD : C ≠ D := fun z => by
      obtain ⟨nn, hn⟩ := hD4
      obtain ⟨o, es, ep, ho, hd, _⟩ := hns₄
      rw [z, hn] at ho; cases ho; cases hd
    have hCo := notO hC1 hCD
    have it4 := it2.of fun o e => k24 I o e
    have hID : I ≠ D := fun z => by
      obtain ⟨o, _, _, ho, _⟩ := it2.obj
      rw [z, hD2] at ho; cases ho
    have hIo := notO hI hID
    have hownfa : ∀ b ∈ faOf env, b ∉ own (L₁.hide D) := fun b hb z => by
      rcases own_hide z with z | z
      · obtain ⟨o, ho, _⟩ := env1.low b hb
        rw [z, hD1] at ho; cases ho
      · exact env1.off b hb z
    have env4 : EnvRel W false (compEnvC sc cl C env) ρ' (L₁.hide D) h₄ := compEnv_rel env1 h2 d2 d3 d4 hcap k14 rl ⟨_, hns₄⟩ hCo (b0no hC1) hownfa
    have kinds : (compEnvC sc cl C env).kindOf = kdIn env.kindOf sc := funext fun y => relabel_lookup henv.kind y
    have a4 : At W Φ k A (compEnvC sc cl C env) fs ρ' (L₁.hide D) σ₁ { s with heap := h₄, toks := tk + ([] : List (Str × Value)).length } :=
      ⟨⟨a.ar.frames, a.ar.top, a.ar.frame, a.ar.depth, a.ar.units⟩, a.hq, by rw [hq]; exact env4, by rw [hq]; exact stH, a.code_⟩
    have hFC : ∀ env ∈ fs, env.frame ≠ some C := fun e he z => by
      obtain ⟨_, F, o, g1, _, _, g4, _⟩ := st.fr e he
      rw [z] at g1; cases g1
      rw [hC1] at g4; cases g4
    have loop : codeAny (model W.prog W.w) A (.compLoop (.ListComp x' [⟨tg, iter, ifs, 0⟩] sc pos) 0 (.ref I) (.ref D) (compEnvC sc cl C env)) (compPost (model W.prog W.w) A E none Q (.ref D) C) { s with heap := h₄, toks := tk + ([] : List (Str × Value)).length } := by
      refine ihc.c hq (by rw [kinds]; exact h3) (by rw [kinds]; exact h4) ?_ a4 (List.mem_cons_self ..) hD4 (by simp [RelVs]) (rl rel) it4 hIo (b0no hI) hCo (b0no hC1) hr₁ ?_
      · rw [kinds]
        exact h5
      · have lift : ∀ {L' : Lo} {h' h'' : Heap} {T : List LO}, Aft [I, C, D] (L₁.hide D) h₄ L' h' → L' = (L₁.hide D).add T → (∀ a ∈ ownT T, h₄.get? a = none) → (∀ b, b ∉ ownT (L₁.hide D).l → b ∉ [I, C, D] → Slt h₄ h' b) → (∀ b o, h₁.get? b = some o → ∀ o', h'.get? b = some o' → Slt h' h'' b) → Aft [] L₁ h₁ (L₁.add T) h'' := by
          intro L' h' h'' T _ _ hT hk hs
          refine ⟨⟨T, rfl, fun a ha => back (hT a ha)⟩, fun b hb _ o e => ?_⟩
          have hb3 : b ∉ [I, C, D] := by
            simp only [List.mem_cons, List.not_mem_nil, or_false]
            rintro (rfl | rfl | rfl)
            · rw [hI] at e; cases e
            · rw [hC1] at e; cases e
            · rw [hD1] at e; cases e
          have s1 := hk b hb hb3
          obtain ⟨sl, e1, _⟩ := s1 o (k14 b o e)
          exact (s1.trans (hs b o e _ e1)) o (k14 b o e)
        cases r₁ with
        | ok l σ' =>
          intro L' h' tk' vs' st' af' pl' rel' ns'
          rw [hr₁] at hf
          simp only [bnd, Option.some.injEq] at hf
          subst hf
          obtain ⟨mm, hm⟩ := ns'
          replace hm : h'.Ns C mm := hm
          refine ⟨mm, hm, fun h'' hs'' => ?_⟩
          have kk := af'.kept
          have af0 := af'
          obtain ⟨⟨T, rfl, hT⟩, _⟩ := af'
          have kC : ∀ b o, b ≠ C → h'.get? b = some o → h''.get? b = some o := fun b o hb e => (hs''.2 b hb).trans e
          have hCo' : C ∉ own ((L₁.hide D).add T) := by
            obtain ⟨o, _, _, hoC, _⟩ := hns₄
            exact own_pre hCo hT hoC
          obtain ⟨st'', rl'', rls''⟩ := st_show (C := C) st' kC hCo' (b0no hC1) (fun o ho => by
            obtain ⟨o', es, ep, ho', hd, _⟩ := hm
            rw [ho] at ho'; cases ho'
            exact ⟨_, _, hd⟩) hFC
          have af'' : Aft [] L₁ h₁ (L₁.add T) h'' := lift af0 rfl hT kk fun b o e o' e' => .of_some (kC b · fun z => by rw [z, hC1] at e; cases e)
          refine P₁ (.ref D) (L₁.add T) h'' tk' st'' af'' ?_
          simp only [RelV]
          obtain ⟨nn, hn⟩ := pl'
          refine ⟨D, vs', rfl, fun z => ?_, ⟨_, kC D _ hCD.symm hn, rfl, nn, rfl⟩, rls'' rel'⟩
          rw [own_append, List.mem_append] at z
          rcases z with z | z
          · obtain ⟨o, ho⟩ := st.lay.live z
            rw [hD1] at ho; cases ho
          · obtain ⟨nn, hn⟩ := hD4
            rw [hT D z] at hn; cases hn
        | exc px σ' =>
          intro e L' h' tk' st' af' X ns'
          rw [hr₁] at hf
          simp only [bnd, Option.some.injEq] at hf
          subst hf
          obtain ⟨mm, hm⟩ := ns'
          replace hm : h'.Ns C mm := hm
          refine ⟨mm, hm, fun h'' hs'' cenv hcl => ?_⟩
          have kk := af'.kept
          have af0 := af'
          obtain ⟨⟨T, rfl, hT⟩, _⟩ := af'
          have kC : ∀ b o, b ≠ C → h'.get? b = some o → h''.get? b = some o := fun b o hb e => (hs''.2 b hb).trans e
          have hCo' : C ∉ own ((L₁.hide D).add T) := by
            obtain ⟨o, _, _, hoC, _⟩ := hns₄
            exact own_pre hCo hT hoC
          obtain ⟨st'', rl'', rls''⟩ := st_show (C := C) st' kC hCo' (b0no hC1) (fun o ho => by
            obtain ⟨o', es, ep, ho', hd, _⟩ := hm
            rw [ho] at ho'; cases ho'
            exact ⟨_, _, hd⟩) hFC
          have af'' : Aft [] L₁ h₁ (L₁.add T) h'' := lift af0 rfl hT kk fun b o e o' e' => .of_some (kC b · fun z => by rw [z, hC1] at e; cases e)
          have X'' : ExcAt W h₁ (L₁.add T) h'' e px true := (X.kept (L' := L₁.add T) (fun b o hb ho => kC b o (fun z => by
            obtain ⟨o', _, _, hoC, _⟩ := hns₄
            rw [z, hoC] at hb; cases hb) ho) (fun a q => own_hide_sub q)).back fun a q => back q
          unfold PySem.passOn
          obtain ⟨oe, vs, vv, ho, hd, hv, z⟩ := X''.tb
          refine wpAny_bind (wpAny_field (s := { s with heap := h'', toks := tk' }) ho hd hv ?_)
          rcases z with ⟨z, _⟩ | ⟨T', rfl⟩
          · cases z
          rw [if_neg (by simp)]
          refine wpAny_bind (flight_ok (s := { s with heap := h'', toks := tk' }) (fs := fs) X'' fun h₅ n5 X5 => ?_)
          exact wpAny_throw (P₁ e (L₁.add T) h₅ tk' (st''.nt X'' n5) (af''.nt X'' n5 st''.fr) X5.weak)
    refine codeAny_compStart_list loop (self_ok (s := { s with heap := h₄, toks := tk + ([] : List (Str × Value)).length }) it4 loop)
end
end Mine
end
/-! M14: fields set, items set -/
section
set_option autoImplicit false
set_option linter.unusedVariables false
set_option linter.unusedSimpArgs false
set_option maxRecDepth 100000
namespace Mine
open PySem PySem.W PySem.Calls PyProof.Rows

/-- a class whose line ends at object, or at Exception: what stores there passes -/
noncomputable def overOk : List Value → Bool
  | [] => false
  | v :: r => match v with
    | .ref _ => overOk r
    | .type n => (match r with
      | [] => n == "object"
      | [.type b, .type c] => n == "Exception" && b == "BaseException" && c == "object"
      | _ => false)
    | _ => false
theorem exc_passes (self : Value) : refuseLoop self "__setattr__" [.type "Exception", .type "BaseException", .type "object"] = pure () := by kernel_rfl
theorem over_pass (self : Value) : ∀ {l : List Value}, overOk l = true → refuseLoop self "__setattr__" l = pure () ∧ l.contains (.type "object") = true ∧ l.isEmpty = false := by
  intro l
  induction l with
  | nil => intro e; cases e
  | cons a r ih =>
    intro e
    cases a <;> try (cases e; done)
    case type n =>
      cases r with
      | nil =>
        obtain rfl := beq_iff_eq.mp (e : (n == "object") = true)
        exact ⟨PySem.F.store_object.passes self, by simp, rfl⟩
      | cons v1 r =>
        cases v1 <;> try (cases e; done)
        cases r with
        | nil => cases e
        | cons v2 r =>
          cases v2 <;> try (cases e; done)
          cases r with
          | cons => cases e
          | nil =>
            rename_i b c
            have e : (n == "Exception" && b == "BaseException" && c == "object") = true := e
            simp only [Bool.and_eq_true, beq_iff_eq] at e
            obtain ⟨⟨rfl, rfl⟩, rfl⟩ := e
            exact ⟨exc_passes self, by simp, rfl⟩
    case ref a =>
      obtain ⟨a, b, c'⟩ := ih e
      exact ⟨by rw [refuseLoop_ref]; exact a, by rw [List.contains_cons, b, Bool.or_true], rfl⟩
noncomputable def plainOverX (K : Frag) (C : Addr) : Bool := (clsIn K C).any fun cd => overOk cd.mro
section
variable {prog : Program} {w : World} {A : Around} {s : Shared} {K : Frag} {C x : Addr} {R : Result → Shared → Prop}
theorem osa_openX {ox : Obj} {od : Option Obj} {name : Str} {tk : Tok} {v : Value} {r : Option Value} (X : K.In s.heap) (I : InstAt s.heap x ox C od) (hp : plainOverX K C = true) (ht : takerIn K C name = some r)
    (h : ∀ b, wpAny (model prog w) A.in1 (match r with | some a => Builtin.ObjectAttr.setByDescriptor a (.ref x) v | none => Builtin.ObjectAttr.storeInOwnDict (.ref x) (.ref C) (.str name tk) name v b)
      (fun fin s' => match fin with | .done f => R (.ok f) s' | .again c' => c'.quiet = true ∧ codeAny (model prog w) A c' R s') (fun e s' => R (.error e) s') s) :
    codeAny (model prog w) A (.call (.builtin "object.__setattr__") ⟨[.ref x, .str name tk, v], []⟩) R s := by
  have SF := PySem.F.store_object
  obtain ⟨cd, hc, ho⟩ := any_some hp
  obtain ⟨hpass, hhas, ne⟩ := over_pass (.ref x) ho
  have sub : Looks (model prog w) s.heap (isInstance (.ref x) (.type "object")) true := I.type.andThen (looks_mroIn X (by unfold mroIn; rw [hc, Option.bind_some, if_neg (by rw [ne]; decide), hhas]))
  refine codeAny_call_builtin SF.slot.plain SF.entry (@check_slot (model prog w) _ _ s "object.__setattr__" "object" "__setattr__" (.ref x) [.str name tk, v] [] _ SF.kind SF.split sub (SF.args (.ref x) (.str name tk) v) ?_)
  obtain ⟨attr, ha, hr⟩ := Option.bind_eq_some_iff.mp ht
  have hm : Looks (model prog w) s.heap (mroOf (.ref C)) cd.mro := (looks_clsIn X hc).andThen .now
  have L3 : Looks (model prog w) s.heap (Builtin.ObjectAttr.storeTaker? attr) r := by
    cases attr with
    | none => cases hr; exact .now
    | some a =>
      obtain ⟨b, hb, rfl⟩ := Option.map_eq_some_iff.mp hr
      refine (looks_takesIn X hb).andThen ?_
      cases b <;> exact .now
  rw [osa_eq, refuse_eq]
  refine wpAny_bind (wpAny_bind (I.type.here (wpAny_bind (hm.here ?_))))
  rw [hpass]
  refine wpAny_pure (wpAny_bind (I.type.here (wpAny_bind ((looks_findIn X ha).here (wpAny_bind (L3.here ?_))))))
  exact h _
end

theorem putName_at (name : Str) (hsh : Int) (key v : Value) (cl : Value) (od : Option Addr) (sl : Array (Option Value)) (es : List DictEntry) (n : Nat) :
    Obj.putName name hsh key v { cls := cl, dict := od, data := .dict es.toArray n, slots := sl } = { cls := cl, dict := od, data := .dict (putL name hsh key v es).toArray (putN name es n), slots := sl } := by
  have := putName_dict name hsh key v es n
  rw [Obj.putName_eq] at this ⊢
  unfold Obj.putNameByArray dictOf at this
  unfold Obj.putNameByArray
  dsimp only at this ⊢
  split at this <;> (simp only [Obj.mk.injEq, true_and, and_true] at this ⊢; exact this)

section
variable {prog : Program} {w : World} {A : Around} {E : Value → Shared → Prop} {s : Shared} {K : Frag} {C x : Addr}
theorem osa_raw {R : Result → Shared → Prop} {ox : Obj} {dx : Addr} {name : Str} {tk : Tok} {v : Value} {cl : Value} {od : Option Addr} {sl : Array (Option Value)} {es : List DictEntry} {n : Nat} (X : K.In s.heap)
    (I : InstAt s.heap x ox C (some { cls := cl, dict := od, data := .dict es.toArray n, slots := sl })) (hd : ox.dict = some dx) (hp : plainOverX K C = true) (ht : takerIn K C name = some none) (hh : hasDictIn K C = true)
    (hl : (getL name es).isSome = true) (hz : es.length ≤ 900)
    (h : R (.ok (.ret .none)) { s with heap := s.heap.update dx (Obj.putName name (PyData.keyHash w.params name) (.str name s.toks) v), toks := s.toks + 1 }) :
    codeAny (model prog w) A (.call (.builtin "object.__setattr__") ⟨[.ref x, .str name tk, v], []⟩) R s := by
  refine osa_openX X I hp ht fun b => ?_
  obtain ⟨cd, hc, hd'⟩ := any_some hh
  have D : s.heap.get? dx = some { cls := cl, dict := od, data := .dict es.toArray n, slots := sl } := by
    have := I.dict
    rw [hd] at this
    exact this
  obtain ⟨hx, hcl, hn, -⟩ := I
  obtain ⟨oc, odi, oda, osl⟩ := ox
  dsimp only at hcl hd
  subst hcl hd
  refine wpAny_bind (wpAny_pure (wpAny_bind (wpAny_bind (wpAny_loadPart hx (wpAny_bind ((looks_clsIn X hc).here ?_))))))
  rw [hd']
  refine wpAny_pure (a := some dx) (wpAny_bind (wpAny_pure (wpAny_bind ?_)))
  unfold nsSet
  refine wpAny_bind (wpAny_bind (wpAny_askSetting (wpAny_pure (wpAny_bind (wpAny_mkText (wpAny_bind (wpAny_loadPart D ?_)))))))
  dsimp only
  have c : (!es.toArray.any (·.key.isStr name) && es.toArray.any (·.refKey)) = false := by
    rw [← Array.any_toList, ← Array.any_toList]
    unfold getL at hl
    split at hl
    · rename_i en he
      rw [List.any_eq_true.mpr ⟨en, List.mem_of_find?_eq_some he, List.find?_some he⟩]; rfl
    · split at hl
      · cases hl
      · rename_i z; rw [Bool.not_eq_true] at z; rw [z, Bool.and_false]
  rw [aRefKeyMayBeTheName_at, c]
  refine wpAny_updatePart D ?_
  have e := putName_at name (PyData.keyHash w.params name) (.str name s.toks) v cl od sl es n
  have D' := Heap.get?_update_self (h := s.heap) (a := dx) (Obj.putName name (PyData.keyHash w.params name) (.str name s.toks) v) D (by rw [e]; rfl)
  refine wpAny_bind (wpAny_lookBehind D' (by rw [e]; exact pastItsLine_dict (by
    have : (putL name (PyData.keyHash w.params name) (.str name s.toks) v es).length ≤ es.length + 1 := by
      clear h hl D D' e c hz
      induction es with
      | nil => simp [putL]
      | cons a r ih => simp only [putL]; split <;> simp <;> omega
    rw [List.size_toArray, sizeLine_eq]; lia)) ?_)
  exact wpAny_pure h
theorem set_raw {ox : Obj} {dx : Addr} {name : Str} {v : Value} {cl : Value} {od : Option Addr} {sl : Array (Option Value)} {es : List DictEntry} {n : Nat} {Q : Unit → Shared → Prop} (X : K.In s.heap)
    (I : InstAt s.heap x ox C (some { cls := cl, dict := od, data := .dict es.toArray n, slots := sl })) (hd : ox.dict = some dx) (hs : findIn K (.ref C) "__setattr__" = some (some (.builtin "object.__setattr__"))) (hp : plainOverX K C = true) (ht : takerIn K C name = some none) (hh : hasDictIn K C = true)
    (hl : (getL name es).isSome = true) (hz : es.length ≤ 900)
    (h : Q () { s with heap := s.heap.update dx (Obj.putName name (PyData.keyHash w.params name) (.str name (s.toks + 1)) v), toks := s.toks + 2 }) : wpAny (model prog w) A (setAttr (.ref x) name v) Q E s :=
  set_plain X I hs (osa_raw (s := { s with toks := s.toks + 1 }) X I hd hp ht hh hl hz h)
end
section
variable {W : Wd} {K : Frag} {fs : List Env} {L : Lo} {σ : Store} {A : Around} {E : Value → Shared → Prop} {s : Shared}
theorem ents_put (wok : WOk W) {q : Bool} {h : Heap} {x : Nat} {hsh : Int} {t : Tok} {v : Value} {p : PV} (rv : RelV q L h v p) : ∀ {es : List DictEntry} {l : List (Nat × PV)}, Ents W q L h es l → Ents W q L h (putL (W.nm x) hsh (.str (W.nm x) t) v es) (setL l x p)
  | [], [], _ => by simp only [putL, setL, Ents]; exact ⟨⟨t, rfl⟩, rv, trivial⟩
  | e :: es, (y, py) :: l, H => by
    simp only [Ents] at H
    obtain ⟨⟨u, hu⟩, hv, hr⟩ := H
    by_cases q : y = x
    · subst q
      have e1 : e.key.isStr (W.nm y) = true := by rw [hu]; simp [Value.isStr]
      simp only [putL, e1, if_true, setL, Ents]
      exact ⟨⟨u, hu⟩, rv, hr⟩
    · have e1 : e.key.isStr (W.nm x) = false := by
        rw [hu]
        simp only [Value.isStr, beq_eq_false_iff_ne, ne_eq]
        exact fun z => q (wok.inj _ _ z)
      simp only [putL, e1, Bool.false_eq_true, if_false, setL, if_neg q, Ents]
      exact ⟨⟨u, hu⟩, hv, ents_put wok rv hr⟩
  | [], _ :: _, H => by simp [Ents] at H
  | _ :: _, [], H => by simp [Ents] at H
theorem putL_len (name : Str) (hsh : Int) (key v : Value) : ∀ es : List DictEntry, (putL name hsh key v es).length ≤ es.length + 1
  | [] => by simp [putL]
  | e :: r => by
    have := putL_len name hsh key v r
    simp only [putL]
    split <;> simp only [List.length_cons] <;> omega
theorem setL_len (l : List (Nat × PV)) (x : Nat) (p : PV) : (setL l x p).length ≤ l.length + 1 := by
  induction l with
  | nil => simp [setL]
  | cons y r ih => obtain ⟨a, b⟩ := y; simp only [setL]; split <;> simp <;> omega
theorem ents_len {q : Bool} {h : Heap} : ∀ {es : List DictEntry} {l : List (Nat × PV)}, Ents W q L h es l → es.length = l.length
  | [], [], _ => rfl
  | _ :: _, (_, _) :: _, H => by simp only [Ents] at H; simp [ents_len H.2.2]
  | [], _ :: _, H => by simp [Ents] at H
  | _ :: _, [], H => by simp [Ents] at H
structure SetOk (W : Wd) (K : Frag) : Prop where
  st : ∀ c x, c = 6 → x < 3 → findIn K (.ref (W.cls c)) "__setattr__" = some (some (.builtin "object.__setattr__")) ∧ plainOverX K (W.cls c) = true ∧ takerIn K (W.cls c) (W.nm x) = some none
/-- a record's field is turned -/
theorem seta_ok (wk : WK W K) (so : SetOk W K) {k x : Nat} {v u : Value} {p : PV} {Q : Unit → Shared → Prop} {σ' : Store} (hx : x < 3) (hr : setAtt σ k x p = some σ') (st : St W false fs L σ s.heap) (rv : RelV false L s.heap v p) (ru : RelV false L s.heap u (.ref k))
    (h : ∀ h' tk, St W false fs L σ' h' → Aft [] L s.heap L h' → Q () { s with heap := h', toks := tk }) : wpAny (model W.prog W.w) A (setAttr u (W.nm x) v) Q E s := by
  unfold setAtt at hr
  split at hr
  · rename_i c l hs
    split at hr
    · rename_i hn
      cases hr
      simp only [RelV] at ru
      obtain ⟨pl, hpl, rfl⟩ := ru
      obtain ⟨hne, ho, es, en, hd, hlen, hen⟩ := st.lay.objs k pl _ hpl hs
      obtain ⟨hc6, hn⟩ := hn
      obtain ⟨a1, a2, attr, a3, a4⟩ := wk.att c x hc6 hx
      obtain ⟨b1, b2, b3⟩ := so.st c x hc6 hx
      have hg : (getL (W.nm x) es).isSome = true := by
        cases z : lk l x with
        | none => rw [(ents_get wk.toWOk hen x).2 z]; rfl
        | some p' => obtain ⟨v', e, _⟩ := (ents_get wk.toWOk hen x).1 p' z; rw [e]; rfl
      refine set_raw (wk.kin.keeps st.base) (ox := instObj (W.cls c) pl.d) (dx := pl.d) ⟨ho, rfl, rfl, hd⟩ rfl b1 b2 b3 a2 hg (by exact Nat.le_trans hlen (by decide)) ?_
      have e1 := putName_at (W.nm x) (PyData.keyHash W.w.params (W.nm x)) (.str (W.nm x) (s.toks + 1)) v (.type "dict") none #[] es en
      have D' := Heap.get?_update_self (h := s.heap) (a := pl.d) (Obj.putName (W.nm x) (PyData.keyHash W.w.params (W.nm x)) (.str (W.nm x) (s.toks + 1)) v) hd (by rw [e1]; rfl)
      rw [e1] at D'
      obtain ⟨st', af'⟩ := st_upd (h' := s.heap.update pl.d (Obj.putName (W.nm x) (PyData.keyHash W.w.params (W.nm x)) (.str (W.nm x) (s.toks + 1)) v)) (o := .inst c l) (o' := .inst c (setL l x p)) st hpl (fun b o _ hb e => upd_keep b o hb e) (fun rl rls =>
        ⟨hne, upd_keep _ _ hne ho, putL (W.nm x) (PyData.keyHash W.w.params (W.nm x)) (.str (W.nm x) (s.toks + 1)) v es, _, D', by
          have h1 := ents_len (ents_put (x := x) (hsh := PyData.keyHash W.w.params (W.nm x)) (t := s.toks + 1) wk.toWOk rv hen)
          rw [h1]
          have := setL_len l x p
          (clear h1 hc6 hlen hne hx; lia), (ents_put wk.toWOk (rl rv) (hen.keep rl))⟩)
      exact h _ _ st' af'
    · cases hr
  · cases hr
/-- a list's item is turned -/
theorem seti_ok {k : Nat} {i : Int} {v u j : Value} {p : PV} {Q : Unit → Shared → Prop} {σ' : Store} (hr : setLst σ k i p = some σ') (st : St W false fs L σ s.heap) (rv : RelV false L s.heap v p) (ru : RelV false L s.heap u (.ref k)) (rj : RelV false L s.heap j (.int i))
    (h : ∀ h' tk, St W false fs L σ' h' → Aft [] L s.heap L h' → Q () { s with heap := h', toks := tk }) : wpAny (model W.prog W.w) A (setItem u j v) Q E s := by
  unfold setLst at hr
  split at hr
  · rename_i l hs
    split at hr
    · rename_i hz
      cases hr
      simp only [RelV] at ru
      obtain ⟨pl, hpl, rfl⟩ := ru
      obtain ⟨t, rfl⟩ := rj
      obtain ⟨hda, vs, ⟨nn, ho⟩, hrel⟩ := st.lay.objs k pl _ hpl hs
      have hlen : vs.size = l.length := by simpa using hrel.length
      unfold SZ at hz
      obtain ⟨h0, h1, h2⟩ := hz
      have hT : s.TypeIs (.ref pl.a) "list" := ⟨_, ho, rfl⟩
      have hk : seqIndex? i vs.size = some i.toNat := seqIndex_of h0 (by rw [hlen]; exact h1)
      have hfit : Builtin.List.listFitsIndex i = true := fitsIndex_of h0 (by (clear h0 hlen; lia))
      clear h2
      have e1 : Obj.mapSeq (·.setIfInBounds i.toNat v) { cls := .type "list", data := .seq vs nn } = { cls := .type "list", data := .seq (vs.setIfInBounds i.toNat v) nn } := by simp [Obj.mapSeq]
      have fin : Q () { s with heap := s.heap.update pl.a (Obj.mapSeq (·.setIfInBounds i.toNat v)) } := by
        obtain ⟨st', af'⟩ := st_upd (h' := s.heap.update pl.a (Obj.mapSeq (·.setIfInBounds i.toNat v))) (o := .lst l) (o' := .lst (l.set i.toNat p)) st hpl (fun b o hb _ e => upd_keep b o hb e) (fun rl rls => ⟨hda, vs.setIfInBounds i.toNat v, ⟨nn, by
          rw [Heap.get?_update_self _ ho (by rw [e1]; rfl), e1]⟩, by
          rw [Array.toList_setIfInBounds]
          exact (rls hrel).set (rl rv)⟩)
        exact h _ s.toks st' af'
      unfold setItem
      try with_reducible refine wpAny_holding ?_
      try refine wpAny_bind (wpAny_pure ?_)
      refine wpAny_bind (wpAny_sequenceKey hT (by decide) ?_)
      refine wpAny_bind (wpAny_callSpecial?_slot (name := Str.ofString "__setitem__") hT slot_list_setitem (wpAny_call_entry slot_list_setitem hT entry_list_setitem ?_ (args_list_setitem _ _ _)))
      show wpAny _ _ (Builtin.List.listSubscript? (.int i t) >>= _) _ _ s
      refine wpAny_bind (wpAny_listSubscript_int hfit ?_)
      clear hfit
      obtain ⟨j, rfl⟩ := Int.eq_ofNat_of_zero_le h0
      have hj : j < vs.size := by rw [hlen]; simpa using h1
      have hx' : vs[j]? = some vs[j] := Array.getElem?_eq_getElem hj
      show wpAny _ _ ((seqItemAt pl.a j >>= fun r => pure (r.map (j, ·))) >>= _) _ _ s
      refine wpAny_bind (wpAny_bind (wpAny_seqItemAt ho rfl (wpAny_pure ?_)))
      rw [hx']
      show wpAny _ _ (setSeqItemAt pl.a j v >>= _) _ _ s
      refine wpAny_bind (wpAny_setSeqItemAt ho rfl ?_)
      first
        | exact wpAny_bind (wpAny_pure (wpAny_pure ⟨.none, rfl, wpAny_pure fin⟩))
        | exact wpAny_pure ⟨.none, rfl, wpAny_pure fin⟩
    · cases hr
  · cases hr
end
end Mine
end
/-! M15: plain statements -/
section
set_option autoImplicit false
set_option linter.unusedVariables false
set_option linter.unusedSimpArgs false
set_option maxRecDepth 100000
namespace Mine
open PySem PySem.W PyProof.Rows

noncomputable def notComp : Expr → Bool
  | .ListComp .. => false
  | .SetComp .. => false
  | .DictComp .. => false
  | _ => true
/-- how a tuple's names are stored: in their order, or two of them the other way about -/
noncomputable def envG (sc : Scope) : Env := ⟨sc, 0, 0, [], Str.empty, none, .none, none, 0⟩
def SwAt (kd : Str → Option NameKind) (es : List Expr) (x1 : Nat) (tp : Pos) (v : Expr) : Prop :=
  ∃ e0 : Env, e0.kindOf = kd ∧ e0.blockKind = .function ∧ (swappedStores [.Tuple es x1 tp] v e0 = pure none ∨ ∃ i1 p1 i2 p2, es = [.Name i1 p1, .Name i2 p2] ∧ i1 ≠ i2 ∧ swappedStores [.Tuple es x1 tp] v e0 = pure (some [i1, i2]))
noncomputable def bound1 (kd : Str → Option NameKind) (id : Str) : Bool := kd id == some .local || kd id == some .cell

mutual
def ChkS (nm : Nat → Str) : Nat → (Str → Option NameKind) → CS → Stmt → Prop
  | 0, _, _, _ => False
  | m + 1, kd, cs, st => match cs with
    | .asg x e => ∃ p v q, st = .Assign [.Name (nm x) p] v q ∧ bound1 kd (nm x) = true ∧ notComp v = true ∧ Chk nm m kd e v
    | .asgT xs e => ∃ es a p v q, st = .Assign [.Tuple es a p] v q ∧ notComp v = true ∧ NamesAt nm (bound1 kd) xs es ∧ SwAt kd es a p v ∧ xs.length < 10 ∧ Chk nm m kd e v
    | .seta o a e => ∃ vi vp p v q, st = .Assign [.Attribute (.Name vi vp) (nm a) p] v q ∧ a < 3 ∧ notComp v = true ∧ Chk nm m kd o (.Name vi vp) ∧ Chk nm m kd e v
    | .seti o i e => ∃ ov iv p v q, st = .Assign [.Subscript ov iv p] v q ∧ notComp v = true ∧ Chk nm m kd o ov ∧ Chk nm m kd i iv ∧ Chk nm m kd e v
    | .exp e => ∃ v p, st = .Expr v p ∧ notComp v = true ∧ Chk nm m kd e v
    | .ret e => ∃ v p, st = .Return (some v) p ∧ Chk nm m kd e v
    | .iff t b o => ∃ tv bs os p, st = .If tv bs os p ∧ Chk nm m kd t tv ∧ ChkSs nm m kd b bs ∧ ChkSs nm m kd o os
    | .forr xs tt it b => ∃ tg iv bs p, st = .For tg iv bs [] p ∧ ChkT nm kd xs tt tg ∧ Chk nm m kd it iv ∧ ChkSs nm m kd b bs
    | .whil t b => ∃ tv bs p, st = .While tv bs [] p ∧ Chk nm m kd t tv ∧ ChkSs nm m kd b bs
    | .rais c args => ∃ p es q r, st = .Raise (some (.Call (.Name (nm c) p) es [] q)) none r ∧ kd (nm c) = some .globalImplicit ∧ (nm c == dbg) = false ∧ ChkL (Chk nm m kd) args es
    | .tryy b c y e => ∃ bs p v q r t, st = .Try bs [.ExceptHandler (some (.Name (nm c) p)) (some (nm y)) [.Return (some v) q] r] [] [] t ∧ ChkSs nm m kd b bs ∧ kd (nm c) = some .globalImplicit ∧ (nm c == dbg) = false ∧ kd (nm y) = some .local ∧ Chk nm m kd e v
def ChkSs (nm : Nat → Str) : Nat → (Str → Option NameKind) → List CS → List Stmt → Prop
  | 0, _, _, _ => False
  | _ + 1, _, [], ss => ss = []
  | m + 1, kd, c :: cs, ss => ∃ s r, ss = s :: r ∧ ChkS nm m kd c s ∧ ChkSs nm m kd cs r
end

noncomputable def PostS (W : Wd) (q : Bool) (fs : List Env) (env : Env) (L : Lo) (s : Shared) (rs : RS) (Q : Flow → Shared → Prop) (E : Value → Shared → Prop) : Prop := match rs with
  | .nxt ρ' σ' => ∀ L' h' tk, EnvRel W q env ρ' L' h' → St W q fs L' σ' h' → Aft (faOf env) L s.heap L' h' → Q .next { s with heap := h', toks := tk }
  | .ret v ρ' σ' => ∀ vv L' h' tk, EnvRel W q env ρ' L' h' → St W q fs L' σ' h' → Aft (faOf env) L s.heap L' h' → RelV q L' h' vv v → Q (.ret vv) { s with heap := h', toks := tk }
  | .exc x ρ' σ' => ∀ e L' h' tk, EnvRel W q env ρ' L' h' → St W q fs L' σ' h' → Aft (faOf env) L s.heap L' h' → ExcAt W s.heap L' h' e x false → E (.ref e) { s with heap := h', toks := tk }

section
variable {W : Wd} {q : Bool} {fs : List Env} {env : Env} {ρ ρ₁ : Loc} {L L₁ : Lo} {σ₁ : Store} {s : Shared} {h₁ : Heap} {tk : Nat} {rs : RS} {Q : Flow → Shared → Prop} {E : Value → Shared → Prop}
theorem EnvRel.live (e : EnvRel W q env ρ L h₁) : ∀ b ∈ faOf env, ∃ o, h₁.get? b = some o := fun b hb => let ⟨o, ho, _⟩ := e.low b hb; ⟨o, ho⟩
theorem PostS.next (P : PostS W q fs env L s rs Q E) (er : EnvRel W q env ρ₁ L₁ h₁) (st : St W q fs L₁ σ₁ h₁) (a : Aft (faOf env) L s.heap L₁ h₁) : PostS W q fs env L₁ { s with heap := h₁, toks := tk } rs Q E := by
  cases rs with
  | nxt ρ' σ' => exact fun L' h' tk' e' st' a' => P L' h' tk' e' st' (a.trans a' st.lay er.live)
  | ret v ρ' σ' => exact fun vv L' h' tk' e' st' a' r => P vv L' h' tk' e' st' (a.trans a' st.lay er.live) r
  | exc x ρ' σ' => exact fun e L' h' tk' e' st' a' X => P e L' h' tk' e' st' (a.trans a' st.lay er.live) (X.back fun _ z => a.none_of st.lay er.live z)
theorem bndE_ok {α β : Type} {Rel₁ : Lo → Heap → β → α → Prop} {A : Around} {t : Sem β} {m : Option (R α)} {f : α → Store → Option RS} {K : β → Shared → Prop}
    (hb : bndE ρ m f = some rs) (H : Snd W q fs A t m Rel₁ L s) (er : EnvRel W q env ρ L s.heap) (P : PostS W q fs env L s rs Q E)
    (hk : ∀ a σ₁ v L₁ h₁ tk, f a σ₁ = some rs → St W q fs L₁ σ₁ h₁ → Aft [] L s.heap L₁ h₁ → Rel₁ L₁ h₁ v a → EnvRel W q env ρ L₁ h₁ → PostS W q fs env L₁ { s with heap := h₁, toks := tk } rs Q E → K v { s with heap := h₁, toks := tk }) : wpAny (model W.prog W.w) A t K E s := by
  unfold bndE at hb
  split at hb
  · cases hb
  · rename_i a σ₁
    exact H _ K E rfl fun v L₁ h₁ tk st af rel => hk a σ₁ v L₁ h₁ tk hb st af rel (er.aft af) (P.next (er.aft af) st af.nil_mono)
  · rename_i x σ₁
    cases hb
    exact H _ K E rfl fun e L' h' tk st af X => P e L' h' tk (er.aft af) st af.nil_mono X
theorem EnvRel.congr (e : EnvRel W q env ρ L h₁) (hl : ∀ y, lk ρ₁ y = lk ρ y) : EnvRel W q env ρ₁ L h₁ :=
  ⟨e.kind, e.globals, e.builtins, e.ns, fun x pv z => e.names x pv (by rw [← hl]; exact z), e.cells, e.apart, e.off, e.low, e.fresh, e.have_⟩
end

structure SX (W : Wd) (Φ : Sig) (k n : Nat) : Prop where
  x : ∀ {m A env fs ρ L σ s cs st rs Q E}, ChkS W.nm m env.kindOf cs st → At W Φ k A env fs ρ L σ s → ex Φ n cs ρ σ = some rs → PostS W Φ.q fs env L s rs Q E → wpAny (model W.prog W.w) A (exec st env) Q E s
  xs : ∀ {m A env fs ρ L σ s cs st rs Q E}, ChkSs W.nm m env.kindOf cs st → At W Φ k A env fs ρ L σ s → exs Φ n cs ρ σ = some rs → PostS W Φ.q fs env L s rs Q E → wpAny (model W.prog W.w) A (execs st env) Q E s

section
variable {W : Wd} {K : Frag} {Φ : Sig} {k n m : Nat} {A : Around} {env : Env} {fs : List Env} {ρ : Loc} {L : Lo} {σ : Store} {s : Shared} {st : Stmt} {rs : RS} {Q : Flow → Shared → Prop} {E : Value → Shared → Prop}
theorem swaps_no {v : Expr} {t : Option Expr} {ln : Nat} (h : notComp v = true) : swapsWith v t ln env = pure false := by
  cases v <;> first | rfl | (cases h; done)
theorem bound1_ok {er : EnvRel W false env ρ L s.heap} {id : Str} (h : bound1 env.kindOf id = true) : (env.kindOf id = some .local ∧ env.locals ∈ faOf env) ∨ (env.kindOf id = some .cell ∧ ∃ c, env.cells.lookup id = some c ∧ c ∈ faOf env) := by
  unfold bound1 at h
  rcases Bool.or_eq_true_iff.mp h with h | h
  · exact .inl ⟨beq_iff_eq.mp h, List.mem_cons_self ..⟩
  · obtain ⟨c, hc⟩ := er.have_ _ (beq_iff_eq.mp h)
    exact .inr ⟨beq_iff_eq.mp h, c, hc, cell_mem hc⟩
theorem off_fa {er : EnvRel W false env ρ L s.heap} : ∀ b ∈ faOf env, b ∉ own L ∧ W.b0.get? b = none := fun b hb => ⟨er.off b hb, er.fresh b hb⟩

theorem sx_asg (wok : WOk W) (ih : SE W Φ k n) {x : Nat} {e : CE} (h : ChkS W.nm (m + 1) env.kindOf (.asg x e) st) (a : At W Φ k A env fs ρ L σ s) (hr : ex Φ (n + 1) (.asg x e) ρ σ = some rs) (P : PostS W Φ.q fs env L s rs Q E) :
    wpAny (model W.prog W.w) A (exec st env) Q E s := by
  obtain ⟨ip, v, pos, rfl, hk, hn, hc⟩ := h
  · skip
    change @ite _ _ _ _ _ = some rs at hr
    split at hr
    · cases hr
    rename_i hq
    have hq := q_false hq
    have ihe := ih.e hc a
    have er := a.env
    rw [hq] at P er ihe
    refine wpAny_Assign_Name (bndE_ok hr ihe er P fun p σ₁ vv L₁ h₁ tk hf st₁ af rel er₁ P₁ => ?_) (swaps_no hn)
    cases hf
    refine store_ok (s := { s with heap := h₁, toks := tk }) wok er₁ rel (bound1_ok (s := { s with heap := h₁, toks := tk }) (er := er₁) hk) fun h' tk' c e' => ?_
    exact P₁ L₁ h' tk' e' (st₁.chg c (off_fa (s := { s with heap := h₁, toks := tk }) (er := er₁))) (c.aft L₁)
theorem sx_exp (ih : SE W Φ k n) {e : CE} (h : ChkS W.nm (m + 1) env.kindOf (.exp e) st) (a : At W Φ k A env fs ρ L σ s) (hr : ex Φ (n + 1) (.exp e) ρ σ = some rs) (P : PostS W Φ.q fs env L s rs Q E) :
    wpAny (model W.prog W.w) A (exec st env) Q E s := by
  obtain ⟨v, pos, rfl, hn, hc⟩ := h
  · skip
    change @ite _ _ _ _ _ = some rs at hr
    split at hr
    · cases hr
    rename_i hq
    have hq := q_false hq
    have ihe := ih.e hc a
    have er := a.env
    rw [hq] at P er ihe
    refine wpAny_Expr (bndE_ok hr ihe er P fun p σ₁ vv L₁ h₁ tk hf st₁ af rel er₁ P₁ => ?_) (by unfold interactive; rw [er.kind]; rfl) (swaps_no hn)
    split at hf
    · cases hf
      have : vv = .none := rel
      subst this
      exact P₁ L₁ h₁ tk er₁ st₁ (.refl _ _ _)
    · cases hf
      obtain ⟨t, rfl⟩ := rel
      exact P₁ L₁ h₁ tk er₁ st₁ (.refl _ _ _)
    · cases hf
      obtain ⟨t, rfl⟩ := rel
      exact P₁ L₁ h₁ tk er₁ st₁ (.refl _ _ _)
    · cases hf
theorem sx_ret (ih : SE W Φ k n) {e : CE} (h : ChkS W.nm (m + 1) env.kindOf (.ret e) st) (a : At W Φ k A env fs ρ L σ s) (hr : ex Φ (n + 1) (.ret e) ρ σ = some rs) (P : PostS W Φ.q fs env L s rs Q E) :
    wpAny (model W.prog W.w) A (exec st env) Q E s := by
  obtain ⟨v, pos, rfl, h⟩ := h
  · skip
    refine wpAny_Return_some (bndE_ok hr (ih.e h a) a.env P fun p σ₁ vv L₁ h₁ tk hf st₁ af rel er₁ P₁ => ?_)
    cases hf
    exact P₁ vv L₁ h₁ tk er₁ st₁ (.refl _ _ _) rel
theorem sx_iff (ih : SE W Φ k n) (ihx : SX W Φ k n) {t : CE} {b o : List CS} (h : ChkS W.nm (m + 1) env.kindOf (.iff t b o) st) (a : At W Φ k A env fs ρ L σ s) (hr : ex Φ (n + 1) (.iff t b o) ρ σ = some rs) (P : PostS W Φ.q fs env L s rs Q E) :
    wpAny (model W.prog W.w) A (exec st env) Q E s := by
  obtain ⟨tv, bs, os, pos, rfl, h1, h2, h3⟩ := h
  · skip
    refine wpAny_If (bndE_ok hr (ih.t h1 a) a.env P fun p σ₁ vv L₁ h₁ tk hf st₁ af rel er₁ P₁ => ?_)
    have : vv = p := rel
    subst this
    have a₁ : At W Φ k A env fs ρ L₁ σ₁ { s with heap := h₁, toks := tk } := ⟨a.ar, a.hq, er₁, st₁, a.code_⟩
    cases vv
    · exact ihx.xs h3 a₁ hf P₁
    · exact ihx.xs h2 a₁ hf P₁
theorem sx_seta (wk : WK W K) (so : SetOk W K) (ih : SE W Φ k n) {o e : CE} {y : Nat} (h : ChkS W.nm (m + 1) env.kindOf (.seta o y e) st) (a : At W Φ k A env fs ρ L σ s) (hr : ex Φ (n + 1) (.seta o y e) ρ σ = some rs) (P : PostS W Φ.q fs env L s rs Q E) :
    wpAny (model W.prog W.w) A (exec st env) Q E s := by
  obtain ⟨vi, vp, p0, v, pos, rfl, hy, hn, ho, hc⟩ := h
  · skip
    change @ite _ _ _ _ _ = some rs at hr
    split at hr
    · cases hr
    rename_i hq
    have hq := q_false hq
    have er := a.env
    have ihe := ih.e hc a
    rw [hq] at P er ihe
    refine plainObj_wpAny_Assign_Attribute (bndE_ok hr ihe er P fun p σ₁ vv L₁ h₁ tk hf st₁ af rel er₁ P₁ => ?_) (swaps_no hn)
    have a₁ : At W Φ k A env fs ρ L₁ σ₁ { s with heap := h₁, toks := tk } := ⟨a.ar, a.hq, by rw [hq]; exact er₁, by rw [hq]; exact st₁, a.code_⟩
    have ihe₁ := ih.e ho a₁
    rw [hq] at ihe₁
    refine bndE_ok hf ihe₁ er₁ P₁ fun p₂ σ₂ v₂ L₂ h₂ tk₂ hf₂ st₂ af₂ rel₂ er₂ P₂ => ?_
    split at hf₂
    · obtain ⟨σ', hs, rfl⟩ := Option.map_eq_some_iff.mp hf₂
      refine seta_ok (s := { s with heap := h₂, toks := tk₂ }) wk so hy hs st₂ (af₂.rel (.nil _) (fun _ => rfl) rel) rel₂ fun h' tk' st' af' => ?_
      exact P₂ L₂ h' tk' (er₂.aft af') st' af'.nil_mono
    · cases hf₂
theorem sx_seti (ih : SE W Φ k n) {o i e : CE} (h : ChkS W.nm (m + 1) env.kindOf (.seti o i e) st) (a : At W Φ k A env fs ρ L σ s) (hr : ex Φ (n + 1) (.seti o i e) ρ σ = some rs) (P : PostS W Φ.q fs env L s rs Q E) :
    wpAny (model W.prog W.w) A (exec st env) Q E s := by
  obtain ⟨ov, iv, p0, v, pos, rfl, hn, ho, hi, hc⟩ := h
  · skip
    change @ite _ _ _ _ _ = some rs at hr
    split at hr
    · cases hr
    rename_i hq
    have hq := q_false hq
    have er := a.env
    have ihe := ih.e hc a
    rw [hq] at P er ihe
    refine wpAny_Assign_Subscript (bndE_ok hr ihe er P fun p σ₁ vv L₁ h₁ tk hf st₁ af rel er₁ P₁ => ?_) (swaps_no hn)
    have a₁ : At W Φ k A env fs ρ L₁ σ₁ { s with heap := h₁, toks := tk } := ⟨a.ar, a.hq, by rw [hq]; exact er₁, by rw [hq]; exact st₁, a.code_⟩
    have ihe₁ := ih.e ho a₁
    rw [hq] at ihe₁
    refine bndE_ok hf ihe₁ er₁ P₁ fun p₂ σ₂ v₂ L₂ h₂ tk₂ hf₂ st₂ af₂ rel₂ er₂ P₂ => ?_
    have a₂ : At W Φ k A env fs ρ L₂ σ₂ { s with heap := h₂, toks := tk₂ } := ⟨a.ar, a.hq, by rw [hq]; exact er₂, by rw [hq]; exact st₂, a.code_⟩
    have ihe₂ := ih.e hi a₂
    rw [hq] at ihe₂
    refine bndE_ok hf₂ ihe₂ er₂ P₂ fun p₃ σ₃ v₃ L₃ h₃ tk₃ hf₃ st₃ af₃ rel₃ er₃ P₃ => ?_
    split at hf₃
    · obtain ⟨σ', hs, rfl⟩ := Option.map_eq_some_iff.mp hf₃
      refine seti_ok (s := { s with heap := h₃, toks := tk₃ }) hs st₃ (af₃.rel (.nil _) (fun _ => rfl) (af₂.rel (.nil _) (fun _ => rfl) rel)) (af₃.rel (.nil _) (fun _ => rfl) rel₂) rel₃ fun h' tk' st' af' => ?_
      exact P₃ L₃ h' tk' (er₃.aft af') st' af'.nil_mono
    · cases hf₃
theorem sx_cons (ihx : SX W Φ k n) {cs : List CS} {ss : List Stmt} (h : ChkSs W.nm m env.kindOf cs ss) (a : At W Φ k A env fs ρ L σ s) (hr : exs Φ (n + 1) cs ρ σ = some rs) (P : PostS W Φ.q fs env L s rs Q E) :
    wpAny (model W.prog W.w) A (execs ss env) Q E s := by
  cases m with
  | zero => exact h.elim
  | succ m =>
  cases cs with
  | nil =>
    obtain rfl := h
    cases hr
    exact wpAny_execs_nil (P L s.heap s.toks a.env a.st (.refl _ _ _))
  | cons c cs =>
    obtain ⟨t, ss, rfl, h1, h2⟩ := h
    refine wpAny_execs_cons ?_
    change nextOf (ex Φ n c ρ σ) (fun ρ σ => exs Φ n cs ρ σ) = some rs at hr
    cases he : ex Φ n c ρ σ with
    | none => rw [he] at hr; cases hr
    | some r₁ =>
      rw [he] at hr
      refine ihx.x h1 a he ?_
      cases r₁ with
      | nxt ρ' σ' =>
        intro L' h' tk er' st' af'
        exact ihx.xs h2 ⟨a.ar, a.hq, er', st', a.code_⟩ hr (P.next er' st' af')
      | ret v ρ' σ' =>
        cases hr
        exact P
      | exc x ρ' σ' =>
        cases hr
        exact P
end
end Mine
end
/-! M16: tuples taken apart, loops -/
section
set_option autoImplicit false
set_option linter.unusedVariables false
set_option linter.unusedSimpArgs false
set_option maxRecDepth 100000
namespace Mine
open PySem PySem.W PyProof.Rows

theorem sw_env {env e0 : Env} {ts : List Expr} {v : Expr} (h1 : e0.kindOf = env.kindOf) (h2 : e0.blockKind = env.blockKind) : swappedStores ts v env = swappedStores ts v e0 := by
  unfold swappedStores
  rw [h1, h2]
theorem sw_ok {env : Env} (hk : env.scope.kind = .function) {es : List Expr} {v : Expr} {x1 : Nat} {tp : Pos} (h : SwAt env.kindOf es x1 tp v) :
    swappedStores [.Tuple es x1 tp] v env = pure none ∨ ∃ i1 p1 i2 p2, es = [.Name i1 p1, .Name i2 p2] ∧ i1 ≠ i2 ∧ swappedStores [.Tuple es x1 tp] v env = pure (some [i1, i2]) := by
  obtain ⟨e0, h1, h2, h3⟩ := h
  have hb : env.blockKind = .function := by unfold Env.blockKind; rw [hk]; rfl
  rw [sw_env h1 (h2.trans hb.symm)]
  exact h3

theorem swapsS_no {v t : Expr} {ln : Nat} {env : Env} (h : notComp v = true) : swapsWithSole [t] v ln env = pure false := swaps_no h
section
variable {W : Wd} {K : Frag} {Φ : Sig} {k n m : Nat} {A : Around} {env : Env} {fs : List Env} {ρ : Loc} {L : Lo} {σ : Store} {s : Shared} {st : Stmt} {rs : RS} {Q : Flow → Shared → Prop} {E : Value → Shared → Prop}
theorem sx_asgT (wok : WOk W) (ih : SE W Φ k n) {xs : List Nat} {e : CE} (h : ChkS W.nm (m + 1) env.kindOf (.asgT xs e) st) (a : At W Φ k A env fs ρ L σ s) (hr : ex Φ (n + 1) (.asgT xs e) ρ σ = some rs) (P : PostS W Φ.q fs env L s rs Q E) :
    wpAny (model W.prog W.w) A (exec st env) Q E s := by
  obtain ⟨es, x1, tp, v, pos, rfl, hn, hN, hS, _, hc⟩ := h
  · skip
    change @ite _ _ _ _ _ = some rs at hr
    split at hr
    · cases hr
    rename_i hq
    have hq := q_false hq
    have ihe := ih.e hc a
    have er := a.env
    have hh := a.hq hq
    rw [hq] at P er ihe
    have body : ∀ {K' : Value → Shared → Prop}, (∀ (l : List PV) (ρ' : Loc) (σ₁ : Store) (v : Value) (L₁ : Lo) (h₁ : Heap) (tk : Nat), setLs ρ xs l = some ρ' → St W false fs L₁ σ₁ h₁ → Aft [] L s.heap L₁ h₁ → RelV false L₁ h₁ v (.tup l) → EnvRel W false env ρ L₁ h₁ →
        (∀ h' tk', Chg (faOf env) h₁ h' → EnvRel W false env ρ' L₁ h' → Q .next { s with heap := h', toks := tk' }) → K' v { s with heap := h₁, toks := tk }) → wpAny (model W.prog W.w) A (eval v env) K' E s := fun {K'} hk => by
      refine bndE_ok hr ihe er P fun p σ₁ vv L₁ h₁ tk hf st₁ af rel er₁ P₁ => ?_
      split at hf
      · rename_i l
        obtain ⟨ρ', hs, rfl⟩ := Option.map_eq_some_iff.mp hf
        exact hk l ρ' σ₁ vv L₁ h₁ tk hs st₁ af rel er₁ fun h' tk' c e' => P₁ L₁ h' tk' e' (st₁.chg c (off_fa (s := { s with heap := h₁, toks := tk }) (er := er₁))) (c.aft L₁)
      · cases hf
    rcases sw_ok er.kind hS with hw | ⟨i1, p1, i2, p2, rfl, hne, hw⟩
    · refine Assign_Tuple (body fun l ρ' σ₁ vv L₁ h₁ tk hs st₁ af rel er₁ hk => ?_) (swapsS_no hn) hw
      exact unpack_ok (s := { s with heap := h₁, toks := tk }) wok (f := bound1 env.kindOf) hh (fun id q => bound1_ok (s := { s with heap := h₁, toks := tk }) (er := er₁) q) hN er₁ rel hs fun h' tk' c e' => hk h' tk' c e'
    · refine Assign_Tuple_swapped (body fun l ρ' σ₁ vv L₁ h₁ tk hs st₁ af rel er₁ hk => ?_) (swapsS_no hn) hw
      match xs, hN with
      | [y1, y2], hN =>
        obtain ⟨_, _, e1, hb1, _, _, e2, hb2, e3⟩ := hN
        cases e1
        cases e2
        have hl := setLs_len hs
        match l, hl with
        | [a1, a2], _ =>
          simp only [RelV] at rel
          obtain ⟨t, vs, rfl, _, ht, hrel⟩ := rel
          have hl2 := hrel.length
          have hsz : vs.size = 2 := by simpa using hl2
          have : ([W.nm y1, W.nm y2] : List Str).length = vs.size := by rw [hsz]; rfl
          rw [this]
          refine wpAny_unpackItems_tuple (s := { s with heap := h₁, toks := tk }) hh ht fun h' hx => ?_
          have k : KA h₁ h' := fun b o e => hx b o (fun z => by rw [z, fresh_none] at e; cases e) e
          cases hv : vs.toList with
          | nil => rw [hv] at hrel; simp [RelVs] at hrel
          | cons v1 r1 =>
            cases r1 with
            | nil => rw [hv] at hrel; simp [RelVs] at hrel
            | cons v2 r2 =>
              cases r2 with
              | cons => rw [hv] at hrel; simp [RelVs] at hrel
              | nil =>
              rw [hv] at hrel
              simp only [RelVs, and_true] at hrel
              obtain ⟨rv1, rv2⟩ := hrel
              have erk := er₁.ka k
              simp only [setLs, Option.some.injEq] at hs
              subst hs
              refine wpAny_assignInOrder_more (wpAny_bindName (store_ok (s := { s with heap := h', toks := tk }) wok erk (k.rel rv2) (bound1_ok (s := { s with heap := h', toks := tk }) (er := erk) hb2) fun h2 tk2 c2 e2 => ?_))
              refine wpAny_assignInOrder_more (wpAny_bindName (store_ok (s := { s with heap := h2, toks := tk2 }) wok e2 (c2.rel (k.rel rv1)) (bound1_ok (s := { s with heap := h2, toks := tk2 }) (er := e2) hb1) fun h3 tk3 c3 e3 => ?_))
              refine wpAny_assignInOrder_none (hk h3 tk3 (((Chg.ka k).trans c2).trans c3) (e3.congr fun y => ?_))
              have hyy : y1 ≠ y2 := fun z => hne (by rw [z])
              simp only [lk_setL]
              by_cases q1 : y = y1
              · subst q1; simp [hyy]
              · by_cases q2 : y = y2
                · subst q2; simp [Ne.symm hyy]
                · simp [q1, q2]
      | [], hN => cases hN
      | [_], hN =>
        obtain ⟨_, _, e1, _, e2⟩ := hN
        cases e1
        cases e2
      | _ :: _ :: _ :: _, hN =>
        obtain ⟨_, _, e1, _, _, _, e2, _, _, _, e3, _⟩ := hN
        cases e1
        cases e2
        cases e3
end

noncomputable def FPost (W : Wd) (fs : List Env) (env : Env) (fa : List Addr) (Rr : Result → Shared → Prop) (L : Lo) (s : Shared) : RS → Prop
  | .nxt ρ' σ' => ∀ L' h' tk, EnvRel W false env ρ' L' h' → St W false fs L' σ' h' → Aft fa L s.heap L' h' → Rr (.ok .next) { s with heap := h', toks := tk }
  | .ret v ρ' σ' => ∀ vv L' h' tk, EnvRel W false env ρ' L' h' → St W false fs L' σ' h' → Aft fa L s.heap L' h' → RelV false L' h' vv v → Rr (.ok (.ret vv)) { s with heap := h', toks := tk }
  | .exc x ρ' σ' => ∀ e L' h' tk, EnvRel W false env ρ' L' h' → St W false fs L' σ' h' → Aft fa L s.heap L' h' → ExcAt W s.heap L' h' e x true → Rr (.error (.ref e)) { s with heap := h', toks := tk }
section
variable {W : Wd} {fs : List Env} {env : Env} {fa : List Addr} {Rr : Result → Shared → Prop} {L L₁ : Lo} {σ₁ : Store} {s : Shared} {h₁ : Heap} {tk : Nat} {rs : RS} {ρ₁ : Loc}
theorem FPost.next (P : FPost W fs env fa Rr L s rs) (st : St W false fs L₁ σ₁ h₁) (a : Aft fa L s.heap L₁ h₁) (hfa : ∀ b ∈ fa, ∃ o, h₁.get? b = some o) : FPost W fs env fa Rr L₁ { s with heap := h₁, toks := tk } rs := by
  cases rs with
  | nxt ρ' σ' => exact fun L' h' tk' e' st' a' => P L' h' tk' e' st' (a.trans a' st.lay hfa)
  | ret v ρ' σ' => exact fun vv L' h' tk' e' st' a' r => P vv L' h' tk' e' st' (a.trans a' st.lay hfa) r
  | exc x ρ' σ' => exact fun e L' h' tk' e' st' a' X => P e L' h' tk' e' st' (a.trans a' st.lay hfa) (X.back fun _ z => a.none_of st.lay hfa z)
end
section
variable {prog : Program} {w : World} {A : Around} {Rr : Result → Shared → Prop} {s : Shared} {env : Env}
theorem for_turn {target it} {body : List Stmt}
    (h : wpAny (model prog w) A (pyNext it) (fun r s₁ => match r with
      | none => Rr (.ok .next) s₁
      | some v => wpAny (model prog w) A (letOwnedTupleGo target it v) (fun _ s₁' => wpAny (model prog w) A (assign target env v) (fun _ s₂ => wpAny (model prog w) A (execs body env) (fun f s₃ => match f with
          | .next | .cont => codeAny (model prog w) A (.forLoop target it body [] env) Rr s₃
          | .brk => Rr (.ok .next) s₃
          | .ret v => Rr (.ok (.ret v)) s₃) (notedBy (model prog w) A env fun e s' => Rr (.error e) s') s₂) (notedBy (model prog w) A env fun e s' => Rr (.error e) s') s₁') (notedBy (model prog w) A env fun e s' => Rr (.error e) s') s₁) (notedBy (model prog w) A env fun e s' => Rr (.error e) s') s) :
    codeAny (model prog w) A (.forLoop target it body [] env) Rr s := by
  refine codeAny_of_tree ?_
  show wpAny _ _ ((forTurn target it body [] env).onRaise (fun x => do noteFrame x env; theTreesLotGoes x)) _ _ s
  refine wpAny_noted ?_
  simp only [forTurn]
  refine wpAny_bind (wpAny_standAt (wpAny_bind (wpAny_onRaise (wpAny_mono h (fun r s₁ h₁ => ?_) fun _ _ h' => wpAny_standAt h'))))
  cases r with
  | none => exact wpAny_pure ⟨rfl, codeAny_block (wpAny_execs_nil h₁)⟩
  | some v =>
    refine wpAny_bind (wpAny_mono h₁ (fun _ s₁' h₁' => wpAny_bind (wpAny_mono h₁' (fun _ s₂ h₂ => wpAny_bind (wpAny_mono h₂ (fun f s₃ h₃ => ?_) fun _ _ h' => h')) fun _ _ h' => h')) fun _ _ h' => h')
    cases f with
    | next => exact wpAny_pure ⟨rfl, h₃⟩
    | cont => exact wpAny_pure ⟨rfl, h₃⟩
    | brk => exact wpAny_pure h₃
    | ret v => exact wpAny_pure h₃
theorem while_turn {test : Expr} {body : List Stmt}
    (h : wpAny (model prog w) A (isTrue test env (eval test env)) (fun b s₂ =>
        if b then wpAny (model prog w) A (execs body env) (fun f s₃ => match f with
            | .next | .cont => codeAny (model prog w) A (.whileLoop test body [] env) Rr s₃
            | .brk => Rr (.ok .next) s₃
            | .ret v => Rr (.ok (.ret v)) s₃) (notedBy (model prog w) A env fun e s' => Rr (.error e) s') s₂
        else Rr (.ok .next) s₂) (notedBy (model prog w) A env fun e s' => Rr (.error e) s') s) :
    codeAny (model prog w) A (.whileLoop test body [] env) Rr s := by
  refine codeAny_of_tree ?_
  show wpAny _ A ((whileTurn test body [] env).onRaise (fun x => do noteFrame x env; theTreesLotGoes x)) _ _ s
  refine wpAny_noted ?_
  simp only [whileTurn]
  refine wpAny_bind (wpAny_mono h (fun b s₂ h₂ => ?_) fun _ _ h' => h')
  cases b with
  | false =>
    simp only [Bool.false_eq_true, if_false] at h₂ ⊢
    exact wpAny_bind (wpAny_execs_nil (wpAny_pure h₂))
  | true =>
    simp only [if_true] at h₂ ⊢
    refine wpAny_bind (wpAny_mono h₂ (fun f s₃ h₃ => ?_) fun _ _ h' => h')
    cases f with
    | next => exact wpAny_pure ⟨rfl, h₃⟩
    | cont => exact wpAny_pure ⟨rfl, h₃⟩
    | brk => exact wpAny_pure h₃
    | ret v => exact wpAny_pure h₃
end

structure SL (W : Wd) (Φ : Sig) (k n : Nat) : Prop where
  f : ∀ {m A env fs ρ L σ s xs tt src i b bs tg I v Rr rs}, Φ.q = false → ChkT W.nm env.kindOf xs tt tg → ChkSs W.nm m env.kindOf b bs → At W Φ k A env fs ρ L σ s → RelV false L s.heap v src → ItAt s.heap I v src i → I ∉ own L → W.b0.get? I = none →
    exF Φ n xs tt src i b ρ σ = some rs → FPost W fs env (I :: faOf env) Rr L s rs → codeAny (model W.prog W.w) A (.forLoop tg (.ref I) bs [] env) Rr s
  w : ∀ {m A env fs ρ L σ s t b tv bs Rr rs}, Φ.q = false → Chk W.nm m env.kindOf t tv → ChkSs W.nm m env.kindOf b bs → At W Φ k A env fs ρ L σ s →
    exW Φ n t b ρ σ = some rs → FPost W fs env (faOf env) Rr L s rs → codeAny (model W.prog W.w) A (.whileLoop tv bs [] env) Rr s

section
variable {W : Wd} {K : Frag} {Φ : Sig} {k n m : Nat} {A : Around} {env : Env} {fs : List Env} {ρ : Loc} {L : Lo} {σ : Store} {s : Shared} {st : Stmt} {rs : RS} {Q : Flow → Shared → Prop} {E : Value → Shared → Prop}
/-- a loop's exception is noted and goes on -/
theorem exc_noted {fa : List Addr} {Rr : Result → Shared → Prop} {x : PX} {ρ' : Loc} {σ' : Store} (ar : Ar A env fs k) (P : FPost W fs env fa Rr L s (.exc x ρ' σ')) {e : Addr} {L' : Lo} {h' : Heap} {tk : Nat} (er : EnvRel W false env ρ' L' h') (st : St W false fs L' σ' h') (af : Aft fa L s.heap L' h')
    (hfa : ∀ b ∈ fa, ∃ o, h'.get? b = some o) (X : ExcAt W s.heap L' h' e x false) : notedBy (model W.prog W.w) A env (fun e s' => Rr (.error e) s') (.ref e) { s with heap := h', toks := tk } :=
  noted_ok (s := { s with heap := h', toks := tk }) ar st af hfa X fun h'' n' st'' af'' X'' => P e L' h'' tk (er.nt X n' st.fr) st'' af'' X''
theorem sl_f (wok : WOk W) (ihx : SX W Φ k n) (ihl : SL W Φ k n) : ∀ {m A env fs ρ L σ s xs tt src i b bs tg I v Rr rs}, Φ.q = false → ChkT W.nm env.kindOf xs tt tg → ChkSs W.nm m env.kindOf b bs → At W Φ k A env fs ρ L σ s → RelV false L s.heap v src → ItAt s.heap I v src i → I ∉ own L → W.b0.get? I = none →
    exF Φ (n + 1) xs tt src i b ρ σ = some rs → FPost W fs env (I :: faOf env) Rr L s rs → codeAny (model W.prog W.w) A (.forLoop tg (.ref I) bs [] env) Rr s := by
  intro m A env fs ρ L σ s xs tt src i b bs tg I v Rr rs hq hT hB a hv hit hIo hIb hr P
  have hh := a.hq hq
  have hst := a.st
  have henv := a.env
  rw [hq] at hst henv
  unfold exF at hr
  have hIf := hit.notFa henv
  have offI : ∀ b ∈ [I], b ∉ own L ∧ W.b0.get? b = none := fun b hb => by rw [List.mem_singleton.mp hb]; exact ⟨hIo, hIb⟩
  have liveI : ∀ {h : Heap} {j : Nat}, ItAt h I v src j → ∃ o, h.get? I = some o := fun x => let ⟨o, _, _, ho, _⟩ := x.obj; ⟨o, ho⟩
  have live : ∀ {h : Heap} {j : Nat} {L : Lo} {ρ : Loc}, ItAt h I v src j → EnvRel W false env ρ L h → ∀ b ∈ I :: faOf env, ∃ o, h.get? b = some o := fun x e b hb => by
    rcases List.mem_cons.mp hb with rfl | hb
    · exact liveI x
    · exact e.live b hb
  cases ho : itemAt σ tt src i with
  | none => rw [ho] at hr; cases hr
  | some o =>
    rw [ho] at hr
    refine for_turn (next_ok hh ho hst.lay hv hit ?_ ?_)
    · intro e h' hx
      subst e
      cases hr
      have c := hit.chg hx
      exact P L h' s.toks (henv.chg c fun b hb => by rw [List.mem_singleton.mp hb]; exact hIf) (hst.chg c offI) ((c.aft L).mono fun b hb => by simp [List.mem_singleton.mp hb])
    · intro p e y h₁ tk₁ hs it₁ ry
      subst e
      simp only at hr
      cases ht : takeV ρ xs tt p with
      | none => rw [ht] at hr; cases hr
      | some ρ₁ =>
      rw [ht] at hr
      simp only at hr
      have c1 := hit.chg hs.extBut
      have env1 := henv.chg c1 fun b hb => by rw [List.mem_singleton.mp hb]; exact hIf
      have hy : tt = true → ∃ a, y = .ref a := fun e => by
        subst e
        cases p <;> simp only [takeV] at ht <;> try (cases ht; done)
        simp only [RelV] at ry
        obtain ⟨a, _, z, _⟩ := ry
        exact ⟨a, z⟩
      refine go_ok (s := { s with heap := h₁, toks := tk₁ }) hT ho it₁ hy ?_
      refine take_ok wok hh hT env1 ry ht fun h₂ tk₂ c2 env2 => ?_
      have hIC : I ≠ env.locals := fun z => hIf (z ▸ List.mem_cons_self ..)
      have st2 : St W false fs L σ h₂ := (hst.chg c1 offI).chg c2 fun b hb => by rw [List.mem_singleton.mp hb]; exact ⟨henv.off _ (List.mem_cons_self ..), henv.fresh _ (List.mem_cons_self ..)⟩
      have it2 : ItAt h₂ I v src (i + 1) := it₁.of fun o e => c2.keep I o (fun z => hIC (List.mem_singleton.mp z)) e
      have c12 : Chg (I :: faOf env) s.heap h₂ := (c1.mono fun b hb => by simp [List.mem_singleton.mp hb]).trans (c2.mono fun b hb => by rw [List.mem_singleton.mp hb]; exact List.mem_cons_of_mem _ (List.mem_cons_self ..))
      have a2 : At W Φ k A env fs ρ₁ L σ { s with heap := h₂, toks := tk₂ } := ⟨a.ar, a.hq, by rw [hq]; exact env2, by rw [hq]; exact st2, a.code_⟩
      have P2 := P.next (tk := tk₂) st2 (c12.aft L) (live it2 env2)
      have hv2 := c12.rel hv
      cases he : exs Φ n b ρ₁ σ with
      | none => rw [he] at hr; cases hr
      | some r₁ =>
        rw [he] at hr
        have keepI : ∀ {L' : Lo} {h' : Heap}, Aft (faOf env) L h₂ L' h' → ItAt h' I v src (i + 1) ∧ I ∉ own L' := fun {L' h'} af' => ⟨it2.slt (af'.keeps I hIo hIf), by
          obtain ⟨⟨T, rfl, hT'⟩, _⟩ := af'
          obtain ⟨o, hoI⟩ := liveI it2
          exact own_pre hIo hT' hoI⟩
        have sub : ∀ b ∈ faOf env, b ∈ I :: faOf env := fun b hb => List.mem_cons_of_mem _ hb
        refine ihx.xs hB a2 he ?_
        cases r₁ with
        | nxt ρ' σ' =>
          rw [hq]
          intro L' h' tk' er' st' af'
          obtain ⟨it', hIo'⟩ := keepI af'
          have a' : At W Φ k A env fs ρ' L' σ' { s with heap := h', toks := tk' } := ⟨a.ar, a.hq, by rw [hq]; exact er', by rw [hq]; exact st', a.code_⟩
          exact ihl.f hq hT hB a' (af'.rel (FaOk.ofEnv env2) (fun z => by cases z) hv2) it' hIo' hIb hr (P2.next st' (af'.mono sub) (live it' er'))
        | ret vv ρ' σ' =>
          simp only [Option.some.injEq] at hr
          subst hr
          rw [hq]
          exact fun vv' L' h' tk' er' st' af' rel => P2 vv' L' h' tk' er' st' (af'.mono sub) rel
        | exc x ρ' σ' =>
          simp only [Option.some.injEq] at hr
          subst hr
          rw [hq]
          intro e L' h' tk' er' st' af' X
          obtain ⟨it', hIo'⟩ := keepI af'
          exact exc_noted (s := { s with heap := h₂, toks := tk₂ }) a.ar P2 er' st' (af'.mono sub) (live it' er') X
theorem sl_w (ih : SE W Φ k n) (ihx : SX W Φ k n) (ihl : SL W Φ k n) : ∀ {m A env fs ρ L σ s t b tv bs Rr rs}, Φ.q = false → Chk W.nm m env.kindOf t tv → ChkSs W.nm m env.kindOf b bs → At W Φ k A env fs ρ L σ s →
    exW Φ (n + 1) t b ρ σ = some rs → FPost W fs env (faOf env) Rr L s rs → codeAny (model W.prog W.w) A (.whileLoop tv bs [] env) Rr s := by
  intro m A env fs ρ L σ s t b tv bs Rr rs hq hT hB a hr P
  have hst := a.st
  have henv := a.env
  rw [hq] at hst henv
  unfold exW at hr
  have iht := ih.t hT a
  rw [hq] at iht
  refine while_turn ?_
  unfold bndE at hr
  cases he : evT Φ n t ρ σ with
  | none => rw [he] at hr; cases hr
  | some r₀ =>
    rw [he] at hr iht
    cases r₀ with
    | exc x σ' =>
      cases hr
      refine iht _ _ _ rfl ?_
      exact fun e L' h' tk' st' af' X => exc_noted a.ar P (henv.aft af') st' af'.nil_mono (henv.aft af').live X
    | ok c σ₁ =>
      refine iht _ _ _ rfl ?_
      intro c' L₁ h₁ tk₁ st₁ af₁ rel
      have : c' = c := rel
      subst this
      have er₁ := henv.aft af₁
      have P₁ := P.next (tk := tk₁) st₁ af₁.nil_mono er₁.live
      simp only at hr
      cases c' with
      | false =>
        simp only [Bool.false_eq_true, if_false] at hr ⊢
        cases hr
        exact P₁ L₁ h₁ tk₁ er₁ st₁ (.refl _ _ _)
      | true =>
        simp only [if_true] at hr ⊢
        have a₁ : At W Φ k A env fs ρ L₁ σ₁ { s with heap := h₁, toks := tk₁ } := ⟨a.ar, a.hq, by rw [hq]; exact er₁, by rw [hq]; exact st₁, a.code_⟩
        cases hb : exs Φ n b ρ σ₁ with
        | none => rw [hb] at hr; cases hr
        | some r₁ =>
          rw [hb] at hr
          refine ihx.xs hB a₁ hb ?_
          cases r₁ with
          | nxt ρ' σ' =>
            rw [hq]
            intro L' h' tk' er' st' af'
            have a' : At W Φ k A env fs ρ' L' σ' { s with heap := h', toks := tk' } := ⟨a.ar, a.hq, by rw [hq]; exact er', by rw [hq]; exact st', a.code_⟩
            exact ihl.w hq hT hB a' hr (P₁.next st' af' er'.live)
          | ret vv ρ' σ' =>
            simp only [Option.some.injEq] at hr
            subst hr
            rw [hq]
            exact fun vv' L' h' tk' er' st' af' rel => P₁ vv' L' h' tk' er' st' af' rel
          | exc x ρ' σ' =>
            simp only [Option.some.injEq] at hr
            subst hr
            rw [hq]
            intro e L' h' tk' er' st' af' X
            exact exc_noted (s := { s with heap := h₁, toks := tk₁ }) a.ar P₁ er' st' af' er'.live X
/-- what comes back from a loop -/
theorem came_ok {fa : List Addr} (P : PostS W false fs env L s rs Q E) (hsub : ∀ {L' : Lo} {h' : Heap}, Aft fa L s.heap L' h' → Aft (faOf env) L s.heap L' h') :
    FPost W fs env fa (fun r s' => match r with | .ok f => Q f s' | .error e => cameBackBy (model W.prog W.w) A env E e s') L s rs := by
  cases rs with
  | nxt ρ' σ' => exact fun L' h' tk er st af => P L' h' tk er st (hsub af)
  | ret v ρ' σ' => exact fun vv L' h' tk er st af r => P vv L' h' tk er st (hsub af) r
  | exc x ρ' σ' =>
    intro e L' h' tk er st af X
    show cameBackBy _ _ _ _ _ _
    unfold cameBackBy
    obtain ⟨oe, vs, vv, ho, hd, hv, z⟩ := X.tb
    refine wpAny_bind (wpAny_field (s := { s with heap := h', toks := tk }) ho hd hv ?_)
    rcases z with ⟨z, _⟩ | ⟨T', rfl⟩
    · cases z
    rw [if_neg (by simp)]
    have h2 := hsub af
    exact flight_ok (s := { s with heap := h', toks := tk }) (fs := fs) X fun h₅ n5 X5 => P e L' h₅ tk (er.nt X n5 st.fr) (st.nt X n5) (h2.nt X n5 st.fr) X5.weak
theorem exF_item {xs : List Nat} {tt : Bool} {src : PV} {i : Nat} {b : List CS} {r : RS} (h : exF Φ n xs tt src i b ρ σ = some r) : ∃ o, itemAt σ tt src i = some o := by
  cases n with
  | zero => unfold exF at h; cases h
  | succ n =>
    unfold exF at h
    cases z : itemAt σ tt src i with
    | none => rw [z] at h; cases h
    | some o => exact ⟨o, rfl⟩
theorem sx_forr (ih : SE W Φ k n) (ihl : SL W Φ k n) {xs : List Nat} {tt : Bool} {it : CE} {b : List CS} (h : ChkS W.nm (m + 1) env.kindOf (.forr xs tt it b) st) (a : At W Φ k A env fs ρ L σ s) (hr : ex Φ (n + 1) (.forr xs tt it b) ρ σ = some rs) (P : PostS W Φ.q fs env L s rs Q E) :
    wpAny (model W.prog W.w) A (exec st env) Q E s := by
  obtain ⟨tg, iv, bs, pos, rfl, h1, h2, h3⟩ := h
  · skip
    change @ite _ _ _ _ _ = some rs at hr
    split at hr
    · cases hr
    rename_i hq
    have hq := q_false hq
    have er := a.env
    have ihe := ih.e h2 a
    rw [hq] at P er ihe
    refine wpAny_For (bndE_ok hr ihe er P fun p σ₁ vv L₁ h₁ tk hf st₁ af rel er₁ P₁ => ?_) (notSet h2)
    obtain ⟨o, ho⟩ := exF_item hf
    refine iter_ok (s := { s with heap := h₁, toks := tk }) ho st₁.lay rel fun I h₂ hI k12 it2 => ?_
    have hIo : I ∉ own L₁ := fun z => by
      obtain ⟨o, ho⟩ := st₁.lay.live z
      rw [show h₁.get? I = none from hI] at ho; cases ho
    have hIb : W.b0.get? I = none := by
      cases z : W.b0.get? I with
      | none => rfl
      | some o => have := st₁.base I o z; rw [show h₁.get? I = none from hI] at this; cases this
    have er₂ := er₁.ka k12
    have st₂ := st₁.ka k12
    have a₂ : At W Φ k A env fs ρ L₁ σ₁ { s with heap := h₂, toks := tk } := ⟨a.ar, a.hq, by rw [hq]; exact er₂, by rw [hq]; exact st₂, a.code_⟩
    have P₂ := P₁.next (tk := tk) er₂ st₂ (k12.aft (faOf env) L₁)
    refine ihl.f hq h1 h3 a₂ (k12.rel rel) it2 hIo hIb hf ?_
    -- the iterator is new since h₁
    have P₁' := came_ok (A := A) (fa := I :: faOf env) (s := { s with heap := h₁, toks := tk }) P₁ fun {L' h'} af => ⟨af.pre, fun b hb hf o e => by
      have hbI : b ≠ I := fun z => by rw [z, show h₁.get? I = none from hI] at e; cases e
      exact af.kept b hb (fun z => (List.mem_cons.mp z).elim hbI hf) o e⟩
    exact P₁'.next st₂ (k12.aft _ L₁) fun b hb => by
      rcases List.mem_cons.mp hb with rfl | hb
      · obtain ⟨o, _, _, ho, _⟩ := it2.obj
        exact ⟨o, ho⟩
      · exact er₂.live b hb
theorem sx_whil (ihl : SL W Φ k n) {t : CE} {b : List CS} (h : ChkS W.nm (m + 1) env.kindOf (.whil t b) st) (a : At W Φ k A env fs ρ L σ s) (hr : ex Φ (n + 1) (.whil t b) ρ σ = some rs) (P : PostS W Φ.q fs env L s rs Q E) :
    wpAny (model W.prog W.w) A (exec st env) Q E s := by
  obtain ⟨tv, bs, pos, rfl, h1, h2⟩ := h
  · change @ite _ _ _ _ _ = some rs at hr
    split at hr
    · cases hr
    rename_i hq
    have hq := q_false hq
    rw [hq] at P
    exact wpAny_While (ihl.w hq h1 h2 a hr (came_ok P fun af => af))
end
end Mine
end
/-! M17: a function is called -/
section
set_option autoImplicit false
set_option linter.unusedVariables false
set_option linter.unusedSimpArgs false
set_option maxRecDepth 100000
namespace Mine
open PySem PySem.W PyProof.Rows

structure FnAt (W : Wd) (K : Frag) (f : Addr) (fd : FuncData) (xs : List Nat) (body : List Stmt) : Prop where
  obj : ∃ c d sl, K.lookup f = some ⟨c, d, .func fd, sl⟩
  hbody : fd.body = .stmts body
  clo : fd.closure = []
  glob : fd.globals = mainGlobals
  bi : fd.builtins = builtinsNs
  kind : fd.scope.kind = .function
  co : fd.scope.isCoroutine = false
  gen : fd.scope.isGenerator = false
  code : codeIn K fd.code fd.qualname = true
  bind : ∀ vs, vs.length = xs.length → bindArgs fd ⟨vs, []⟩ = pure ((xs.map W.nm).zip vs)
  par : ∀ x ∈ xs, fd.scope.names.lookup (W.nm x) = some .local ∨ fd.scope.names.lookup (W.nm x) = some .cell
  nd : xs.Nodup


theorem bindL_eq (ko : Str → Option NameKind) : ∀ (binds : List (Str × Value)) (m : Str → Option Value) (y : Str), (binds.map (·.1)).Nodup → bindL ko binds m y = if ko y = some .local then (match binds.lookup y with | some v => some v | none => m y) else m y
  | [], m, y, _ => by simp [bindL]
  | (n, v) :: r, m, y, h => by
    rw [List.map_cons, List.nodup_cons] at h
    unfold bindL
    rw [bindL_eq ko r _ y h.2, List.lookup_cons]
    by_cases e : y = n
    · subst e
      have hr : r.lookup y = none := by
        cases z : r.lookup y with
        | none => rfl
        | some v' => exact absurd (List.mem_map.mpr ⟨_, mem_of_lookup z, rfl⟩) h.1
      by_cases hk : ko y = some .local
      · simp [hk, hr]
      · simp [hk]
    · have e' : (y == n) = false := by simpa using e
      rw [e']
      by_cases hk : ko n = some .local
      · simp [hk, e]
      · simp [hk]
theorem bindC_eq (ko : Str → Option NameKind) : ∀ (binds : List (Str × Value)) (m : Str → Option Value) (y : Str), (binds.map (·.1)).Nodup → bindC ko binds m y = if ko y = some .local then m y else (match binds.lookup y with | some v => some v | none => m y)
  | [], m, y, _ => by simp [bindC]
  | (n, v) :: r, m, y, h => by
    rw [List.map_cons, List.nodup_cons] at h
    unfold bindC
    rw [bindC_eq ko r _ y h.2, List.lookup_cons]
    by_cases e : y = n
    · subst e
      have hr : r.lookup y = none := by
        cases z : r.lookup y with
        | none => rfl
        | some v' => exact absurd (List.mem_map.mpr ⟨_, mem_of_lookup z, rfl⟩) h.1
      by_cases hk : ko y = some .local
      · simp [hk]
      · simp [hk, hr]
    · have e' : (y == n) = false := by simpa using e
      rw [e']
      by_cases hk : ko n = some .local
      · simp [hk]
      · simp [hk, e]
theorem zip_lk {W : Wd} (wok : WOk W) {L : Lo} {h : Heap} : ∀ {xs : List Nat} {vs : List Value} {args : List PV}, RelVs false L h vs args → ∀ {x : Nat} {pv : PV}, lk (xs.zip args) x = some pv → x ∈ xs ∧ ∃ v, ((xs.map W.nm).zip vs).lookup (W.nm x) = some v ∧ RelV false L h v pv
  | [], _, _, _, x, pv, e => by simp [lk] at e
  | _ :: _, [], [], _, x, pv, e => by simp [lk] at e
  | y :: xs, v :: vs, p :: args, r, x, pv, e => by
    simp only [RelVs] at r
    simp only [List.zip_cons_cons, lk] at e
    split at e
    · rename_i q; subst q
      cases e
      exact ⟨List.mem_cons_self .., v, by simp [List.lookup_cons], r.1⟩
    · rename_i q
      obtain ⟨a, v', b, c⟩ := zip_lk wok r.2 e
      refine ⟨List.mem_cons_of_mem _ a, v', ?_, c⟩
      have : (W.nm x == W.nm y) = false := by
        simp only [beq_eq_false_iff_ne, ne_eq]
        exact fun z => q (wok.inj _ _ z).symm
      rw [List.map_cons, List.zip_cons_cons, List.lookup_cons, this]
      exact b
  | _ :: _, [], _ :: _, r, _, _, _ => by simp [RelVs] at r
  | _ :: _, _ :: _, [], r, _, _, _ => by simp [RelVs] at r
theorem nodup_map {α β : Type} {f : α → β} (hf : ∀ a b, f a = f b → a = b) : ∀ {l : List α}, l.Nodup → (l.map f).Nodup
  | [], _ => List.nodup_nil
  | a :: l, h => by
    rw [List.nodup_cons] at h
    rw [List.map_cons, List.nodup_cons]
    refine ⟨fun z => ?_, nodup_map hf h.2⟩
    obtain ⟨b, hb, e⟩ := List.mem_map.mp z
    rw [hf _ _ e] at hb
    exact h.1 hb
theorem zip_fst {α β : Type} : ∀ {l : List α} {m : List β}, m.length = l.length → (l.zip m).map (·.1) = l
  | [], [], _ => rfl
  | a :: l, b :: m, h => by simp [zip_fst (l := l) (m := m) (by simpa using h)]
  | [], _ :: _, h => by simp at h
  | _ :: _, [], h => by simp at h

section
variable {W : Wd} {K : Frag} {Φ : Sig} {k n m : Nat}
theorem frok_cons {b0 : Heap} {L : Lo} {h : Heap} {env : Env} {fs : List Env} (x : FrOk b0 L h (env :: fs)) : FrOk b0 L h fs := fun e he => x e (List.mem_cons_of_mem _ he)
theorem St.pop {env : Env} {fs : List Env} {L : Lo} {σ : Store} {h : Heap} (x : St W false (env :: fs) L σ h) : St W false fs L σ h := ⟨x.base, x.offb, x.lay, frok_cons x.fr⟩

/-- what a call asks of what is around it -/
structure Ar0 (A : Around) (fs : List Env) (k : Nat) : Prop where
  frames : A.frames = some fs
  depth : A.depth + k < recursionLimit
  units : A.units + 16 * k + 64 < cLine
theorem Ar.zero {A : Around} {env : Env} {fs : List Env} {k : Nat} (a : Ar A env fs k) : Ar0 A fs k := ⟨a.frames, a.depth, a.units⟩
theorem fn_code (wk : WK W K) {f : Addr} {fd : FuncData} {xs : List Nat} {body : List Stmt} (F : FnAt W K f fd xs body) (hq : Φ.q = false) (htop : Φ.top = true → fd.code = .ref W.lc)
    {σ : Store} {rs : RS} {ρ0 : Loc} {A : Around} {fs : List Env} {s : Shared} {L : Lo} {vs : List Value} {Q E : Value → Shared → Prop} (ar : Ar0 A fs (k + 1)) (hh : A.handled = none) (st : St W false fs L σ s.heap) (hvl : vs.length = xs.length)
    (hρ : ∀ x pv, lk ρ0 x = some pv → x ∈ xs ∧ ∃ v, ((xs.map W.nm).zip vs).lookup (W.nm x) = some v ∧ RelV false L s.heap v pv)
    (P : Post W false fs (RelV false) L s (resOf rs) Q E)
    (hb : ∀ env h₁ tk Q' E', At W Φ k (A.deeper env) env (env :: fs) ρ0 L σ { s with heap := h₁, toks := tk } → env.kindOf = (fun x => fd.scope.names.lookup x) → KA s.heap h₁ → (∀ x ∈ xs, ∀ v, ((xs.map W.nm).zip vs).lookup (W.nm x) = some v → NameAt env h₁ (W.nm x) v) → (∀ b ∈ faOf env, s.heap.get? b = none) →
      PostS W false (env :: fs) env L { s with heap := h₁, toks := tk } rs Q' E' → wpAny (model W.prog W.w) (A.deeper env) (execs body env) Q' E' { s with heap := h₁, toks := tk }) :
    codeAny (model W.prog W.w) A (.call (.ref f) ⟨vs, []⟩) (fun r s' => match r with | .ok (.ret v) => Q v s' | .ok _ => False | .error e => E e s') s := by
  obtain ⟨c, d, sl, ho⟩ := F.obj
  have X := wk.kin.keeps st.base
  have hsize := fresh_none s.heap
  refine codeAny_call_cells (by have := ar.depth; exact Nat.lt_of_le_of_lt (Nat.le_add_right ..) this) (X _ _ ho) rfl (wk.nolimit.keeps st.base) (codeRec_of X F.code) F.hbody (F.bind vs hvl) F.clo (fun y hy => ?_) (fun s₁ ic => ?_) F.co F.gen F.kind
  · have hm : y.1 ∈ xs.map W.nm := by
      have : y.1 ∈ ((xs.map W.nm).zip vs).map (·.1) := List.mem_map.mpr ⟨y, hy, rfl⟩
      rw [zip_fst (by simpa using hvl)] at this
      exact this
    obtain ⟨x, hx, e⟩ := List.mem_map.mp hm
    rw [← e]
    refine (F.par x hx).imp id fun z => ⟨z, cellsFrom_some _ _ _ (.inl z)⟩
  · generalize henv : callEnvC fd s.heap.objs.size f = env at ic ⊢
    obtain ⟨tk, h₁, rfl⟩ : ∃ tk h₁, s₁ = { s with heap := h₁, toks := tk } := by
      obtain ⟨h₁, tk, e⟩ := ic.toInCall.same
      exact ⟨tk, h₁, e⟩
    have hloc : env.locals = s.heap.objs.size := by rw [← henv]; rfl
    have hko : ∀ y, env.kindOf y = fd.scope.names.lookup y := fun y => by rw [← henv]; rfl
    have kk : KA s.heap h₁ := ic.toInCall.keep
    have st₁ := st.ka kk
    have newC : ∀ n c, (n, c) ∈ env.cells → s.heap.get? c = none := fun n c hm => Heap.get?_none_of_le (Nat.le_of_lt (by rw [← hloc]; exact ic.above n c hm))
    have new : ∀ b ∈ faOf env, s.heap.get? b = none := fun b hb => by
      rcases List.mem_cons.mp hb with rfl | hb
      · rw [hloc]; exact hsize
      · obtain ⟨n, hn⟩ := faOf_cell hb
        exact newC n b (mem_of_lookup hn)
    have b0no : ∀ b ∈ faOf env, W.b0.get? b = none := fun b hb => by
      cases z : W.b0.get? b with
      | none => rfl
      | some o => have := st.base b o z; rw [new b hb] at this; cases this
    have offL : ∀ b ∈ faOf env, b ∉ own L := fun b hb z => by
      obtain ⟨o, ho⟩ := st.lay.live z
      rw [new b hb] at ho; cases ho
    have nd : (((xs.map W.nm).zip vs).map (·.1)).Nodup := by
      rw [zip_fst (by simpa using hvl)]
      exact nodup_map wk.inj F.nd
    have cellAt : ∀ y, env.kindOf y = some .cell → ∃ c, env.cells.lookup y = some c := fun y hy => by
      rw [hko] at hy
      have := cellsFrom_some (x := y) fd.scope.names (s.heap.objs.size + 1) [] (.inl hy)
      rw [← henv]
      exact Option.isSome_iff_exists.mp this
    obtain ⟨oL, esL, epL, hoL, hdL, _⟩ := id ic.toInCall.ns
    have nameAt : ∀ x ∈ xs, ∀ v, ((xs.map W.nm).zip vs).lookup (W.nm x) = some v → NameAt env h₁ (W.nm x) v := fun x hx v hv => by
      rcases F.par x hx with hk | hk
      · refine .inl ⟨by rw [hko]; exact hk, _, ic.toInCall.ns, ?_⟩
        rw [bindL_eq _ _ _ _ nd, if_pos (by rw [hko]; exact hk), hv]
      · have hk' : env.kindOf (W.nm x) = some .cell := by rw [hko]; exact hk
        obtain ⟨cc, hcc⟩ := cellAt _ hk'
        refine .inr ⟨.inl hk', cc, hcc, ?_⟩
        have := ic.cell _ cc hcc
        rw [bindC_eq _ _ _ _ nd, if_neg (by rw [hk']; simp), hv] at this
        exact this
    have er : EnvRel W false env ρ0 L h₁ := by
      refine ⟨by rw [← henv]; exact F.kind, by rw [← henv]; exact F.glob, by rw [← henv]; exact F.bi, ⟨_, ic.toInCall.ns⟩, fun x pv e => ?_, fun y cc e => ⟨_, ic.cell y cc e⟩, fun y z cc e1 e2 => name_of_addr ic.apart (mem_of_lookup e1) (mem_of_lookup e2), offL, fun b hb' => ?_, b0no, cellAt⟩
      · obtain ⟨hx, v, hv, rv⟩ := hρ x pv e
        exact ⟨v, nameAt x hx v hv, kk.rel rv⟩
      · rcases List.mem_cons.mp hb' with rfl | hb'
        · exact ⟨oL, hoL, .inl ⟨_, _, hdL⟩⟩
        · obtain ⟨n, hn⟩ := faOf_cell hb'
          obtain ⟨o, ho, hd⟩ := ic.cell n b hn
          exact ⟨o, ho, .inr ⟨_, hd⟩⟩
    have hfr : env.frame = some env.locals := by rw [← henv]; rfl
    have stE : St W false (env :: fs) L σ h₁ := ⟨st₁.base, st₁.offb, st₁.lay, fun e he => by
      rcases List.mem_cons.mp he with rfl | he
      · exact ⟨by rw [er.kind]; decide, e.locals, oL, hfr, b0no _ (List.mem_cons_self ..), offL _ (List.mem_cons_self ..), hoL, _, _, hdL⟩
      · exact st₁.fr e he⟩
    have aE : At W Φ k (A.deeper env) env (env :: fs) ρ0 L σ { s with heap := h₁, toks := tk } := by
      refine ⟨⟨by show A.frames.map _ = _; rw [ar.frames]; rfl, ⟨env, fs, rfl, rfl⟩, ⟨_, hfr⟩, ?_, ?_⟩, fun _ => hh, by rw [hq]; exact er, by rw [hq]; exact stE, fun z => by rw [← henv]; exact htop z⟩
      · show A.depth + 1 + k < recursionLimit
        have := ar.depth; (clear hvl htop; lia)
      · show A.units + 3 + 16 * k + 64 < cLine
        have := ar.units; (clear hvl htop; lia)
    have lift : ∀ {L' : Lo} {h' : Heap}, Aft (faOf env) L h₁ L' h' → Aft [] L s.heap L' h' := fun {L' h'} af => by
      obtain ⟨⟨T, rfl, hT⟩, hk⟩ := af
      refine ⟨⟨T, rfl, fun a ha => ?_⟩, fun b hb _ o e => ?_⟩
      · cases z : s.heap.get? a with
        | none => rfl
        | some o => have := kk a o z; rw [hT a ha] at this; cases this
      · exact hk b hb (fun z => by rw [new b z] at e; cases e) o (kk b o e)
    refine hb env h₁ tk _ _ aE (funext hko) kk nameAt new ?_
    cases rs with
    | nxt ρ' σ' => exact fun L' h' tk' er' st' af' => P .none L' h' tk' st'.pop (lift af') rfl
    | ret v ρ' σ' => exact fun vv L' h' tk' er' st' af' r => P vv L' h' tk' st'.pop (lift af') r
    | exc x ρ' σ' =>
      intro e L' h' tk' er' st' af' Xe
      show wpAny _ _ (leaving env (.ref e)) _ _ _
      unfold leaving
      refine wpAny_bind (noted_ok (s := { s with heap := h', toks := tk' }) aE.ar st' af' er'.live Xe fun h₂ n₂ st₂ af₂ X₂ => ?_)
      refine flight_ok (s := { s with heap := h₂, toks := tk' }) (fs := env :: fs) X₂ fun h₃ n₃ X₃ => ?_
      have st₃ := st₂.nt X₂ n₃
      have af₃ := af₂.nt X₂ n₃ st₂.fr
      exact P e L' h₃ tk' st₃.pop (lift af₃) (X₃.weak.back fun a z => by
        cases q : s.heap.get? a with
        | none => rfl
        | some o => have := kk a o q; rw [z] at this; cases this)
theorem fn_enter (wk : WK W K) {f : Addr} {fd : FuncData} {xs : List Nat} {body : List Stmt} (F : FnAt W K f fd xs body) (hq : Φ.q = false) (htop : Φ.top = true → fd.code = .ref W.lc)
    {σ : Store} {rs : RS} {ρ0 : Loc} {A : Around} {env0 : Env} {fs : List Env} {s : Shared} {L : Lo} {vs : List Value} {Q E : Value → Shared → Prop} (ar : Ar A env0 fs (k + 1)) (hh : A.handled = none) (st : St W false fs L σ s.heap) (hvl : vs.length = xs.length)
    (hρ : ∀ x pv, lk ρ0 x = some pv → x ∈ xs ∧ ∃ v, ((xs.map W.nm).zip vs).lookup (W.nm x) = some v ∧ RelV false L s.heap v pv)
    (P : Post W false fs (RelV false) L s (resOf rs) Q E)
    (hb : ∀ env h₁ tk Q' E', At W Φ k (A.deeper env) env (env :: fs) ρ0 L σ { s with heap := h₁, toks := tk } → env.kindOf = (fun x => fd.scope.names.lookup x) → KA s.heap h₁ → (∀ x ∈ xs, ∀ v, ((xs.map W.nm).zip vs).lookup (W.nm x) = some v → NameAt env h₁ (W.nm x) v) → (∀ b ∈ faOf env, s.heap.get? b = none) →
      PostS W false (env :: fs) env L { s with heap := h₁, toks := tk } rs Q' E' → wpAny (model W.prog W.w) (A.deeper env) (execs body env) Q' E' { s with heap := h₁, toks := tk }) :
    wpAny (model W.prog W.w) A (call (.ref f) vs) Q E s := wpAny_call (fn_code wk F hq htop ar.zero hh st hvl hρ P hb)
noncomputable def CodeOk (W : Wd) (k : Nat) (f : Value) (args : List PV) (σ : Store) (r : R PV) : Prop :=
  ∀ A env fs s L vs Q E, Ar A env fs k → A.handled = none → St W false fs L σ s.heap → RelVs false L s.heap vs args → Post W false fs (RelV false) L s r Q E → codeAny (model W.prog W.w) A (.call f ⟨vs, []⟩) (fun r s' => match r with | .ok (.ret v) => Q v s' | .ok _ => False | .error e => E e s') s
theorem fn_ok (wk : WK W K) {f : Addr} {fd : FuncData} {xs : List Nat} {body : List Stmt} (F : FnAt W K f fd xs body) (ihx : SX W Φ k n) (hq : Φ.q = false) (htop : Φ.top = true → fd.code = .ref W.lc) {b : List CS} (hc : ChkSs W.nm m (fun x => fd.scope.names.lookup x) b body)
    {args : List PV} {σ : Store} {rs : RS} (hlen : args.length = xs.length) (hr : exs Φ n b (xs.zip args) σ = some rs) : CallOk W (k + 1) (.ref f) args σ (resOf rs) := by
  intro A env0 fs s L vs Q E ar hh st rel P
  refine fn_enter wk F hq htop ar hh st (by rw [rel.length, hlen]) (fun x pv e => zip_lk wk.toWOk rel e) P fun env h₁ tk Q' E' aE hk _ _ _ P' => ?_
  exact ihx.xs (by rw [hk]; exact hc) aE hr (by rw [hq]; exact P')
theorem fn_okC (wk : WK W K) {f : Addr} {fd : FuncData} {xs : List Nat} {body : List Stmt} (F : FnAt W K f fd xs body) (ihx : SX W Φ k n) (hq : Φ.q = false) (htop : Φ.top = true → fd.code = .ref W.lc) {b : List CS} (hc : ChkSs W.nm m (fun x => fd.scope.names.lookup x) b body)
    {args : List PV} {σ : Store} {rs : RS} (hlen : args.length = xs.length) (hr : exs Φ n b (xs.zip args) σ = some rs) : CodeOk W (k + 1) (.ref f) args σ (resOf rs) := by
  intro A env0 fs s L vs Q E ar hh st rel P
  refine fn_code wk F hq htop ar.zero hh st (by rw [rel.length, hlen]) (fun x pv e => zip_lk wk.toWOk rel e) P fun env h₁ tk Q' E' aE hk _ _ _ P' => ?_
  exact ihx.xs (by rw [hk]; exact hc) aE hr (by rw [hq]; exact P')
theorem fn_okT (wk : WK W K) {f : Addr} {fd : FuncData} {xs : List Nat} {body : List Stmt} (F : FnAt W K f fd xs body) (ihx : SX W Φ k n) (hq : Φ.q = false) (htop : Φ.top = true → fd.code = .ref W.lc) {b : List CS} (hc : ChkSs W.nm m (fun x => fd.scope.names.lookup x) b body)
    {args : List PV} {σ : Store} {rs : RS} (hlen : args.length = xs.length) (hr : exs Φ n b (xs.zip args) σ = some rs) {A : Around} {fs : List Env} {s : Shared} {L : Lo} {vs : List Value} {Q E : Value → Shared → Prop} (ar : Ar0 A fs (k + 1)) (hh : A.handled = none) (st : St W false fs L σ s.heap) (rel : RelVs false L s.heap vs args) (P : Post W false fs (RelV false) L s (resOf rs) Q E) :
    wpAny (model W.prog W.w) A (call (.ref f) vs) Q E s := by
  refine wpAny_call (fn_code wk F hq htop ar hh st (by rw [rel.length, hlen]) (fun x pv e => zip_lk wk.toWOk rel e) P fun env h₁ tk Q' E' aE hk _ _ _ P' => ?_)
  exact ihx.xs (by rw [hk]; exact hc) aE hr (by rw [hq]; exact P')
end
end Mine
end
/-! M18: raise, and the one try -/
section
set_option autoImplicit false
set_option linter.unusedVariables false
set_option linter.unusedSimpArgs false
set_option maxRecDepth 100000
namespace Mine
open PySem PySem.W PyProof.Rows

/-- behind except the store stays -/
noncomputable def Same {α : Type} (m : Option (R α)) (σ : Store) : Prop := ∀ a σ', m = some (.ok a σ') → σ' = σ
theorem same_bnd {α β : Type} {m : Option (R α)} {f : α → Store → Option (R β)} {σ : Store} (h : Same m σ) (hf : ∀ a, Same (f a σ) σ) : Same (bnd m f) σ := by
  intro b σ' e
  cases m with
  | none => cases e
  | some r =>
    cases r with
    | ok a σ₁ =>
      obtain rfl := h a σ₁ rfl
      exact hf a b σ' e
    | exc x σ₁ => cases e
theorem same_rok {α : Type} {o : Option α} {σ : Store} : Same (rok o σ) σ := by
  intro a σ' e
  obtain ⟨b, _, z⟩ := rok_some e
  cases z; rfl
theorem same_none {α : Type} {σ : Store} : Same (.none : Option (R α)) σ := fun _ _ e => by cases e
theorem same_ok {α : Type} {a : α} {σ : Store} : Same (some (.ok a σ)) σ := fun _ _ e => by cases e; rfl
theorem quiet_store (Φ : Sig) (hq : Φ.q = true) : ∀ n, (∀ e ρ σ, Same (ev Φ n e ρ σ) σ) ∧ (∀ e ρ σ, Same (evT Φ n e ρ σ) σ) ∧ (∀ c l ρ σ, Same (evTs Φ n c l ρ σ) σ) ∧ (∀ c l ρ σ, Same (evB Φ n c l ρ σ) σ) ∧ (∀ l ρ σ, Same (evs Φ n l ρ σ) σ) ∧ (∀ o ρ σ, Same (evO Φ n o ρ σ) σ)
  | 0 => ⟨fun e ρ σ => same_none, fun e ρ σ => same_none, fun c l ρ σ => same_none, fun c l ρ σ => same_none, fun l ρ σ => same_none, fun o ρ σ => same_none⟩
  | n + 1 => by
    obtain ⟨h1, h2, h3, h4, h5, h6⟩ := quiet_store Φ hq n
    have ife : ∀ {α : Type} {p : Prop} [Decidable p] {a b : Option (R α)} {σ : Store}, Same a σ → Same b σ → Same (if p then a else b) σ := fun {α p _ a b σ} x y => by split <;> assumption
    have qn : ∀ {α : Type} {x : Option (R α)} {σ : Store}, Same (if Φ.q = true then .none else x) σ := fun {α x σ} => by rw [if_pos hq]; exact same_none
    have qo : ∀ {α : Type} {p : Prop} [Decidable p] {x : Option (R α)} {σ : Store}, Same (if Φ.q = true ∨ p then .none else x) σ := fun {α p _ x σ} => by rw [if_pos (.inl hq)]; exact same_none
    refine ⟨fun e ρ σ => ?_, fun e ρ σ => ?_, fun c l ρ σ => ?_, fun c l ρ σ => ?_, fun l ρ σ => ?_, fun o ρ σ => ?_⟩
    · cases e
      case loc => exact same_rok
      case glo => exact same_rok
      case cnone => exact same_ok
      case cbool => exact same_ok
      case cint => exact same_ok
      case cstr => exact same_ok
      case neg => exact same_bnd (h1 _ _ _) fun _ => same_rok
      case not => exact same_bnd (h1 _ _ _) fun _ => same_rok
      case bin => exact same_bnd (h1 _ _ _) fun _ => same_bnd (h1 _ _ _) fun _ => same_rok
      case cmp => exact same_bnd (h1 _ _ _) fun _ => same_bnd (h1 _ _ _) fun _ => same_rok
      case cmpNil => exact same_bnd (h1 _ _ _) fun _ => same_rok
      case bop => exact h4 _ _ _ _
      case ite => exact same_bnd (h2 _ _ _) fun _ => ife (h1 _ _ _) (h1 _ _ _)
      case tup => exact same_bnd (h5 _ _ _) fun _ => ife same_ok same_none
      case lst => exact qn
      case sub => exact same_bnd (h1 _ _ _) fun _ => same_bnd (h1 _ _ _) fun _ => same_rok
      case slice => exact same_bnd (h1 _ _ _) fun _ => same_bnd (h6 _ _ _) fun _ => same_bnd (h6 _ _ _) fun _ => same_rok
      case call => exact qo
      case bi => exact ife same_none (same_bnd (h5 _ _ _) fun _ => same_rok)
      case meth => exact qn
      case mdig =>
        refine same_bnd (h1 _ _ _) fun v => ?_
        split
        · exact ife same_ok same_none
        · exact same_none
      case mjoin =>
        refine same_bnd (h1 _ _ _) fun v => ?_
        split
        · refine same_bnd (h1 _ _ _) fun u => ?_
          split
          · split
            · exact ife same_ok same_none
            · exact same_none
          · exact same_none
        · exact same_none
      case mapp => exact qn
      case mpop => exact qn
      case attr => exact same_bnd (h1 _ _ _) fun _ => same_rok
      case fstr =>
        refine same_bnd (h1 _ _ _) fun v => ?_
        split
        · exact ife same_ok same_none
        · exact same_none
      case fstrs =>
        refine same_bnd (h1 _ _ _) fun v => ?_
        split
        · exact ife same_ok same_none
        · exact same_none
      case comp => exact qn
      case heard => exact qo
    · cases e
      case not => exact same_bnd (h2 _ _ _) fun _ => same_ok
      case bop => exact h3 _ _ _ _
      case ite => exact same_bnd (h2 _ _ _) fun _ => ife (h2 _ _ _) (h2 _ _ _)
      all_goals exact same_bnd (h1 _ _ _) fun _ => same_rok
    · cases l
      · exact same_ok
      · exact same_bnd (h2 _ _ _) fun _ => ife (h3 _ _ _ _) same_ok
    · match l with
      | [] => exact same_none
      | [x] => exact h1 _ _ _
      | x :: y :: r =>
        refine same_bnd (h1 _ _ _) fun v => ?_
        split
        · exact ife (h4 _ _ _ _) same_ok
        · exact same_none
    · cases l
      · exact same_ok
      · exact same_bnd (h1 _ _ _) fun _ => same_bnd (h5 _ _ _) fun _ => same_ok
    · cases o
      · exact same_ok
      · exact same_bnd (h1 _ _ _) fun _ => same_ok

mutual
noncomputable def noExn : PV → Bool
  | .exn _ => false
  | .tup l => noExns l
  | .lst l => noExns l
  | _ => true
noncomputable def noExns : List PV → Bool
  | [] => true
  | p :: l => noExn p && noExns l
end
mutual
theorem RelV.noExn {L : Lo} {h : Heap} : ∀ {v : Value} {p : PV}, RelV false L h v p → noExn p = true
  | _, .none, _ => by simp [Mine.noExn]
  | _, .bool _, _ => by simp [Mine.noExn]
  | _, .int _, _ => by simp [Mine.noExn]
  | _, .str _, _ => by simp [Mine.noExn]
  | _, .tup l, x => by
    simp only [RelV] at x
    obtain ⟨a, vs, _, _, _, hr⟩ := x
    simp only [Mine.noExn]
    exact RelVs.noExns hr
  | _, .lst l, x => by
    simp only [RelV] at x
    obtain ⟨a, vs, _, _, _, hr⟩ := x
    simp only [Mine.noExn]
    exact RelVs.noExns hr
  | _, .rng _, _ => by simp [Mine.noExn]
  | _, .ref _, _ => by simp [Mine.noExn]
  | _, .exn i, x => by
    simp only [RelV] at x
    exact absurd x.1 (by simp)
theorem RelVs.noExns {L : Lo} {h : Heap} : ∀ {vs : List Value} {ps : List PV}, RelVs false L h vs ps → noExns ps = true
  | [], [], _ => by simp [Mine.noExns]
  | _ :: _, _ :: _, x => by
    simp only [RelVs] at x
    simp only [Mine.noExns, Bool.and_eq_true]
    exact ⟨RelV.noExn x.1, RelVs.noExns x.2⟩
  | [], _ :: _, x => by simp [RelVs] at x
  | _ :: _, [], x => by simp [RelVs] at x
end
mutual
theorem RelV.loud {L : Lo} {h : Heap} : ∀ {v : Value} {p : PV}, RelV true L h v p → noExn p = true → RelV false L h v p
  | _, .none, x, _ => x
  | _, .bool _, x, _ => x
  | _, .int _, x, _ => x
  | _, .str _, x, _ => x
  | _, .tup l, x, e => by
    simp only [RelV] at x ⊢
    simp only [Mine.noExn] at e
    obtain ⟨a, vs, z, ha, ht, hr⟩ := x
    exact ⟨a, vs, z, ha, ht, RelVs.loud hr e⟩
  | _, .lst l, x, e => by
    simp only [RelV] at x ⊢
    simp only [Mine.noExn] at e
    obtain ⟨a, vs, z, ha, ht, hr⟩ := x
    exact ⟨a, vs, z, ha, ht, RelVs.loud hr e⟩
  | _, .rng n, x, _ => x
  | _, .ref j, x, _ => x
  | _, .exn i, _, e => by simp [Mine.noExn] at e
theorem RelVs.loud {L : Lo} {h : Heap} : ∀ {vs : List Value} {ps : List PV}, RelVs true L h vs ps → noExns ps = true → RelVs false L h vs ps
  | [], [], _, _ => by simp [RelVs]
  | _ :: _, _ :: _, x, e => by
    simp only [RelVs] at x ⊢
    simp only [Mine.noExns, Bool.and_eq_true] at e
    exact ⟨RelV.loud x.1 e.1, RelVs.loud x.2 e.2⟩
  | [], _ :: _, x, _ => by simp [RelVs] at x
  | _ :: _, [], x, _ => by simp [RelVs] at x
end
section
variable {W : Wd} {fs : List Env} {L : Lo} {σ : Store} {h h' : Heap} {env : Env} {ρ : Loc}
theorem Ents.quiet : ∀ {es : List DictEntry} {l : List (Nat × PV)}, Ents W false L h es l → Ents W true L h es l
  | [], [], _ => by simp [Ents]
  | _ :: _, (_, _) :: _, x => by
    simp only [Ents] at x ⊢
    exact ⟨x.1, x.2.1.quiet, Ents.quiet x.2.2⟩
  | [], _ :: _, x => by simp [Ents] at x
  | _ :: _, [], x => by simp [Ents] at x
theorem LayO.quiet {p : LO} {o : PO} (x : LayO W false L h p o) : LayO W true L h p o := by
  cases o with
  | lst l =>
    obtain ⟨e, vs, hl, r⟩ := x
    exact ⟨e, vs, hl, r.quiet⟩
  | inst c l =>
    obtain ⟨e, h1, es, n, h2, hn, r⟩ := x
    exact ⟨e, h1, es, n, h2, hn, r.quiet⟩
  | tab l => exact x
theorem St.quiet (x : St W false fs L σ h) : St W true fs L σ h := ⟨x.base, x.offb, ⟨x.lay.len, x.lay.apart, fun i p o e1 e2 => (x.lay.objs i p o e1 e2).quiet, x.lay.hidden⟩, x.fr⟩
theorem EnvRel.quiet (x : EnvRel W false env ρ L h) : EnvRel W true env ρ L h :=
  ⟨x.kind, x.globals, x.builtins, x.ns, fun y pv e => let ⟨v, a, b⟩ := x.names y pv e; ⟨v, a, b.quiet⟩, x.cells, x.apart, x.off, x.low, x.fresh, x.have_⟩
theorem Ents.noExn : ∀ {es : List DictEntry} {l : List (Nat × PV)}, Ents W false L h es l → ∀ y ∈ l, noExn y.2 = true
  | [], [], _ => fun y hy => by cases hy
  | _ :: _, (_, _) :: _, x => by
    simp only [Ents] at x
    intro y hy
    rcases List.mem_cons.mp hy with rfl | hy
    · exact x.2.1.noExn
    · exact Ents.noExn x.2.2 y hy
  | [], _ :: _, x => by simp [Ents] at x
  | _ :: _, [], x => by simp [Ents] at x
theorem Ents.loud : ∀ {es : List DictEntry} {l : List (Nat × PV)}, Ents W true L h es l → (∀ y ∈ l, Mine.noExn y.2 = true) → Ents W false L h es l
  | [], [], _, _ => by simp [Ents]
  | _ :: _, (_, _) :: _, x, e => by
    simp only [Ents] at x ⊢
    exact ⟨x.1, x.2.1.loud (e _ (List.mem_cons_self ..)), Ents.loud x.2.2 fun y hy => e y (List.mem_cons_of_mem _ hy)⟩
  | [], _ :: _, x, _ => by simp [Ents] at x
  | _ :: _, [], x, _ => by simp [Ents] at x
/-- what was without exceptions stays so -/
theorem St.loud {L' : Lo} (x : St W true fs L' σ h') (y : St W false fs L σ h) : St W false fs L' σ h' := by
  refine ⟨x.base, x.offb, ⟨x.lay.len, x.lay.apart, fun i p o e1 e2 => ?_, x.lay.hidden⟩, x.fr⟩
  have z := x.lay.objs i p o e1 e2
  have hi : i < L.l.length := by rw [y.lay.len]; exact (List.getElem?_eq_some_iff.mp e2).1
  have z' := y.lay.objs i L.l[i] o (List.getElem?_eq_getElem hi) e2
  cases o with
  | lst l =>
    obtain ⟨_, vs', _, r'⟩ := z'
    obtain ⟨e, vs, hl, r⟩ := z
    exact ⟨e, vs, hl, r.loud r'.noExns⟩
  | inst c l =>
    obtain ⟨_, _, es', n', _, _, r'⟩ := z'
    obtain ⟨e, h1, es, n, h2, hn, r⟩ := z
    exact ⟨e, h1, es, n, h2, hn, r.loud r'.noExn⟩
  | tab l => exact z
end
end Mine
end
/-! M19: raise, and the one try, walked -/
section
set_option autoImplicit false
set_option linter.unusedVariables false
set_option linter.unusedSimpArgs false
set_option maxRecDepth 100000
namespace Mine
open PySem PySem.W PyProof.Rows

structure ExcCls (W : Wd) (K : Frag) (c : Nat) : Prop where
  mro : mroIn K (W.cls c) (.type "BaseException") = some true
  meta_ : typeIn K (.ref (W.cls c)) = some (.type "type")
  self : mroIn K (W.cls c) (.ref (W.cls c)) = some true
noncomputable def RaiseOk (W : Wd) (k : Nat) (C : Value) (args : List PV) (x : PX) : Prop :=
  ∀ A env fs σ s L vs Q E, Ar A env fs k → A.handled = none → St W false fs L σ s.heap → RelVs false L s.heap vs args →
    (∀ e h' tk, St W false fs L σ h' → Aft [] L s.heap L h' → ExcAt W s.heap L h' e x false → Q (.ref e) { s with heap := h', toks := tk }) → wpAny (model W.prog W.w) A (call C vs) Q E s
structure XOk (W : Wd) (K : Frag) (Φ : Sig) (k : Nat) : Prop where
  ex : ∀ c, Φ.kx c = true → W.mg (W.nm c) = some (.ref (W.cls c)) ∧ keepIn K (.ref (W.cls c)) = true ∧ ExcCls W K c ∧ ∀ args x, Φ.exc c args = some x → x.cls = c ∧ RaiseOk W k (.ref (W.cls c)) args x

section
variable {W : Wd} {K : Frag} {L : Lo} {h0 h : Heap} {e : Addr} {x : PX} {m : Bool} {M : Model}
theorem ExcAt.typ (X : ExcAt W h0 L h e x m) : Looks M h (typeOf (.ref e)) (.ref (W.cls x.cls)) := by
  obtain ⟨_, _, _, vs, d, ho, _⟩ := X
  exact (Looks.ld (part := none) ho).andThen .now
theorem ExcAt.inst (X : ExcAt W h0 L h e x m) (kin : K.In h) (c : ExcCls W K x.cls) : Looks M h (isInstance (.ref e) (.type "BaseException")) true := X.typ.andThen (looks_mroIn kin c.mro)
theorem ExcAt.held (X : ExcAt W h0 L h e x m) (kin : K.In h) (c : ExcCls W K x.cls) : Looks M h (raisedInstance (.ref e)) (.ref e) := by
  unfold raisedInstance
  exact X.typ.andThen ((looks_typeIn kin c.meta_).andThen (Looks.of_pure rfl))
theorem ExcAt.notCls (X : ExcAt W h0 L h e x m) : Looks M h (isType (.ref e)) false := fun A Q E s k q => by
  obtain ⟨_, _, _, vs, d, ho, _⟩ := X
  obtain ⟨hh, g, dr, t, os⟩ := s
  exact ks_wpAny_isType_inst (k _ _ ho) (fun c z => by cases z) q
end
section
variable {W : Wd} {K : Frag} {Φ : Sig} {k n m : Nat} {A : Around} {env : Env} {fs : List Env} {ρ : Loc} {L : Lo} {σ : Store} {s : Shared} {st : Stmt} {rs : RS} {Q : Flow → Shared → Prop} {E : Value → Shared → Prop}
theorem raise_ok {t : Sem Value} (hh : A.handled = none)
    (h : wpAny (model W.prog W.w) A t (fun v s₁ => ∃ e x L' h0, v = .ref e ∧ ExcAt W h0 L' s₁.heap e x false ∧ K.In s₁.heap ∧ ExcCls W K x.cls ∧ ∀ h', Nt fs e s₁.heap h' → ExcAt W h0 L' h' e x false → E (.ref e) { s₁ with heap := h' }) E s) :
    wpAny (model W.prog W.w) A (raiseStmt env (some t) none) Q E s := by
  unfold raiseStmt
  refine wpAny_bind (wpAny_mono h (fun v s₁ hv => ?_) fun _ _ z => z)
  obtain ⟨e, x, L', h0, rfl, X, kin, c, hE⟩ := hv
  have L1 := X.notCls (M := model W.prog W.w)
  have L2 := X.inst (M := model W.prog W.w) kin c
  have L3 := X.held (M := model W.prog W.w) kin c
  refine wpAny_bind (wpAny_pure (wpAny_bind (wpAny_holding ?_)))
  unfold excFromValue isExcClass
  refine wpAny_bind (wpAny_bind (L1.here (wpAny_pure ?_)))
  refine wpAny_bind (L2.here (wpAny_pure ?_))
  refine wpAny_bind (L1.here ?_)
  refine wpAny_bind (L3.here ?_)
  refine wpAny_bind (flight_ok (fs := fs) X fun h' n' X' => ?_)
  exact wpAny_raiseNew_none hh (hE h' n' X')
theorem sx_rais (wk : WK W K) (xo : XOk W K Φ k) (ih : SE W Φ k n) {c : Nat} {l : List CE} (h : ChkS W.nm (m + 1) env.kindOf (.rais c l) st) (a : At W Φ k A env fs ρ L σ s) (hr : ex Φ (n + 1) (.rais c l) ρ σ = some rs) (P : PostS W Φ.q fs env L s rs Q E) :
    wpAny (model W.prog W.w) A (exec st env) Q E s := by
  obtain ⟨ip, es, cp, pos, rfl, hk, hd, hl⟩ := h
  · skip
    change @ite _ _ _ _ _ = some rs at hr
    split at hr
    · cases hr
    rename_i hq
    rw [not_or] at hq
    have hq' := q_false hq.1
    have hkx : Φ.kx c = true := by simpa using hq.2
    obtain ⟨hmg, hkeep, hcls, hex⟩ := xo.ex c hkx
    have er := a.env
    have ihe := ih.es (pos := cp) hl a
    rw [hq'] at P er ihe
    show wpAny _ A (do standAt pos; raiseStmt env (some (do let v ← eval (.Call (.Name (W.nm c) ip) es [] cp) env; standAt pos; pure v)) none) Q E s
    refine wpAny_bind (wpAny_standAt ?_)
    refine raise_ok (W := W) (K := K) (fs := fs) (a.hq hq') (wpAny_bind ?_)
    rw [arm_eval_Call_Name']
    refine wpAny_bind (wpAny_Name (glob_ok wk.toWOk a hk hmg ?_) hd)
    refine callWith_of (P := fun h => W.b0.StaysIn h) (by rw [chkL_star hl]; rfl) (fun h hb => keeps_K hkeep h (wk.kin.keeps hb)) ?_
    refine evalArgs_of (chkL_star hl) (bndE_ok hr ihe er P fun ps σ₁ vs L₁ h₁ tk hf st₁ af rel er₁ P₁ => ⟨st₁.base, ?_⟩)
    split at hf
    · rename_i x hx
      cases hf
      obtain ⟨hxc, ro⟩ := hex ps x hx
      refine ro A env fs σ₁ { s with heap := h₁, toks := tk } L₁ vs _ _ a.ar (a.hq hq') st₁ rel fun e h' tk' st' af' X => ?_
      refine wpAny_bind (wpAny_standAt (wpAny_pure ?_))
      refine ⟨e, x, L₁, h₁, rfl, X, wk.kin.keeps st'.base, by rw [hxc]; exact hcls, fun h₂ n₂ X₂ => ?_⟩
      exact P₁ e L₁ h₂ tk' ((er₁.aft af').nt X n₂ st'.fr) (st'.nt X n₂) (af'.nt X n₂ st'.fr).nil_mono X₂
    · cases hf
end

theorem cls_of_mro {K : Frag} {C : Addr} {b : Value} {r : Bool} (h : mroIn K C b = some r) : ∃ oc od cd sl, K.lookup C = some ⟨oc, od, .cls cd, sl⟩ := by
  unfold mroIn at h
  cases z : clsIn K C with
  | none => rw [z] at h; cases h
  | some cd =>
    unfold clsIn at z
    split at z
    · rename_i oc od cd' sl ho
      exact ⟨oc, od, cd', sl, ho⟩
    · cases z
section
variable {W : Wd} {K : Frag} {L : Lo} {h0 : Heap} {e : Addr} {x : PX} {m : Bool} {M : Model} {A : Around} {s : Shared} {E : Value → Shared → Prop} {Q : Bool → Shared → Prop}
/-- a class's except clause: does it hold this one? -/
theorem matches_ok {c : Nat} {b : Bool} (X : ExcAt W h0 L s.heap e x m) (kin : K.In s.heap) (hc : ExcCls W K c) (hs : mroIn K (W.cls x.cls) (.ref (W.cls c)) = some b) (h : Q b s) : wpAny M A (excMatches (.ref e) (.ref (W.cls c))) Q E s := by
  have Lt : Looks M s.heap (isInstance (.ref (W.cls c)) (.type "tuple")) false := looks_instIn kin (by unfold instIn; rw [hc.meta_]; rfl)
  have Lm := looks_mroIn (M := M) kin hc.mro
  have Ls := looks_mroIn (M := M) kin hs
  have Le := X.typ (M := M)
  have Li : Looks M s.heap (isType (.ref (W.cls c))) true := fun A Q E s' k q => by
    obtain ⟨oc, od, cd, sl, ho⟩ := cls_of_mro hc.mro
    obtain ⟨hh, g, dr, t, os⟩ := s'
    exact ks_wpAny_isType_cls (k _ _ (kin _ _ ho)) rfl q
  unfold excMatches isExcClass
  refine wpAny_bind (Lt.here ?_)
  rw [if_neg (by decide)]
  refine wpAny_bind (wpAny_pure ?_)
  show wpAny M A (forIn [Value.ref (W.cls c)] PUnit.unit _ >>= _) Q E s
  rw [List.forIn_cons]
  refine wpAny_bind (wpAny_bind (wpAny_bind (wpAny_bind (Li.here ?_))))
  rw [if_pos rfl]
  refine Lm.here ?_
  simp only [Bool.not_true, Bool.false_eq_true, if_false, List.forIn_nil]
  refine wpAny_pure (wpAny_pure (wpAny_bind (Le.here ?_)))
  simp only [List.forIn_cons, List.forIn_nil]
  refine wpAny_bind (wpAny_bind (wpAny_bind (Ls.here ?_)))
  cases b with
  | true => exact wpAny_pure (wpAny_pure (wpAny_pure h))
  | false => exact wpAny_pure (wpAny_pure (wpAny_pure h))
end
end Mine
end
/-! M20: the one try -/
section
set_option autoImplicit false
set_option linter.unusedVariables false
set_option linter.unusedSimpArgs false
set_option maxRecDepth 100000
namespace Mine
open PySem PySem.W PyProof.Rows

section
variable {W : Wd} {K : Frag} {Φ : Sig} {k n m : Nat} {A : Around} {env : Env} {fs : List Env} {ρ : Loc} {L : Lo} {σ : Store} {s : Shared} {st : Stmt} {rs : RS} {Q : Flow → Shared → Prop} {E : Value → Shared → Prop}
/-- a caught exception is bound to a local name -/
theorem store_exn {M : Model} {x : Nat} {e : Addr} {px : PX} {m : Bool} {i : Int} {h0 : Heap} {Q : Unit → Shared → Prop} (wok : WOk W) (er : EnvRel W false env ρ L s.heap) (X : ExcAt W h0 L s.heap e px m) (hi : px.spot = some i) (hloc : ∃ o, h0.get? env.locals = some o)
    (hk : env.kindOf (W.nm x) = some .local)
    (h : ∀ h' tk, Chg [env.locals] s.heap h' → EnvRel W true env (setL ρ x (.exn i)) L h' → Q () { s with heap := h', toks := tk }) : wpAny M A (storeName env (W.nm x) (.ref e)) Q E s := by
  obtain ⟨mm, hm⟩ := er.ns
  refine wpAny_storeName_local hk hm (fun h' hm' hs => ?_) (by rw [er.kind]; rfl)
  have c1 : Chg [env.locals] s.heap h' := by
    obtain ⟨o', es', ep', ho', hd', _⟩ := id hm'
    obtain ⟨o, es, ep, ho, hd, _⟩ := id hm
    refine ⟨fun b o hb e' => sameBut_ka hs b o (fun z => hb (List.mem_singleton.mpr z)) e', fun b ob e' z => sameBut_ka hs b ob (fun q => ?_) e', fun b ob es1 n1 e1 d1 => ?_⟩
    · subst q
      rw [ho] at e'; cases e'
      rcases z with ⟨_, _, z⟩ | ⟨_, _, _, _, rfl⟩
      · rw [hd] at z; cases z
      · cases hd
    · by_cases q : b = env.locals
      · subst q; exact ⟨o', es', ep', ho', hd'⟩
      · exact ⟨ob, es1, n1, sameBut_ka hs b ob q e1, d1⟩
  obtain ⟨x1, x2, x3, vs, d, ho, hsz, htb, hd1, hd2, hd3, hsp⟩ := X
  obtain ⟨oL, hoL⟩ := hloc
  have ne : e ≠ env.locals := fun z => by rw [z, hoL] at x1; cases x1
  have nd : d ≠ env.locals := fun z => by rw [z, hoL] at hd1; cases hd1
  obtain ⟨hcls, od, es, nn, t, g1, g2, g3, g4⟩ := hsp i hi
  refine h h' _ c1 ⟨er.kind, er.globals, er.builtins, ⟨_, hm'⟩, fun y py ey => ?_, fun y cc ec => ?_, er.apart, er.off, fun b hb => ?_, er.fresh, er.have_⟩
  · rw [lk_setL] at ey
    split at ey
    · rename_i q; subst q
      cases ey
      refine ⟨.ref e, .inl ⟨hk, _, hm', by simp⟩, ?_⟩
      simp only [RelV]
      refine ⟨trivial, e, d, rfl, x3, hd2, vs, od, es, nn, t, ?_, sameBut_ka hs d od nd g1, g2, g3, g4⟩
      rw [← hcls]
      exact sameBut_ka hs e _ ne ho
    · rename_i q
      obtain ⟨v', hn, rv⟩ := er.names y py ey
      refine ⟨v', ?_, (c1.rel rv).quiet⟩
      rcases hn with ⟨hk', m', hn', hv'⟩ | ⟨hk', c', hc', hv'⟩
      · refine .inl ⟨hk', _, hm', ?_⟩
        have : ¬ W.nm y = W.nm x := fun z => q (wok.inj _ _ z)
        rw [if_neg this]
        obtain ⟨o1, es1, ep1, ho1, hd1, hk1, hf1⟩ := hn'
        obtain ⟨o2, es2, ep2, ho2, hd2, hk2, hf2⟩ := hm
        rw [ho1] at ho2; cases ho2
        rw [hd1] at hd2; cases hd2
        rw [← hf2, hf1]; exact hv'
      · exact .inr ⟨hk', c', hc', (Slt.of_some fun o e' => sameBut_ka hs c' o (isCell_ne hv' hm) e' : Slt s.heap h' c').cell hv'⟩
  · obtain ⟨v', hv'⟩ := er.cells y cc ec
    exact ⟨v', (Slt.of_some fun o e' => sameBut_ka hs cc o (isCell_ne hv' hm) e' : Slt s.heap h' cc).cell hv'⟩
  · by_cases q : b = env.locals
    · subst q
      obtain ⟨o', es', ep', ho', hd', _⟩ := hm'
      exact ⟨o', ho', .inl ⟨_, _, hd'⟩⟩
    · obtain ⟨o, ho, z⟩ := er.low b hb
      exact ⟨o, sameBut_ka hs b o q ho, z⟩

theorem sx_tryy (wk : WK W K) (xo : XOk W K Φ k) (ihx : SX W Φ k n) (ihq : SE W Φ.quiet k n) {b : List CS} {c y : Nat} {e : CE} (h : ChkS W.nm (m + 1) env.kindOf (.tryy b c y e) st) (a : At W Φ k A env fs ρ L σ s) (hr : ex Φ (n + 1) (.tryy b c y e) ρ σ = some rs) (P : PostS W Φ.q fs env L s rs Q E) :
    wpAny (model W.prog W.w) A (exec st env) Q E s := by
  obtain ⟨bs, ip, v, rp, hp, pos, rfl, hb, hk, hd, hkl, hv⟩ := h
  · skip
    change @ite _ _ _ _ _ = some rs at hr
    split at hr
    · cases hr
    rename_i hq
    rw [not_or] at hq
    have hq' := q_false hq.1
    have hkx : Φ.kx c = true := by simpa using hq.2
    obtain ⟨hmg, hkeep, hcls, hex⟩ := xo.ex c hkx
    have er := a.env
    rw [hq'] at P er
    refine wpAny_Try_except ?_
    cases he : exs Φ n b ρ σ with
    | none => rw [he] at hr; cases hr
    | some r₁ =>
      rw [he] at hr
      refine ihx.xs hb a he ?_
      rw [hq']
      cases r₁ with
      | nxt ρ' σ' =>
        simp only [Option.some.injEq] at hr
        subst hr
        exact fun L' h' tk er' st' af' => wpAny_execs_nil (P L' h' tk er' st' af')
      | ret vv ρ' σ' =>
        simp only [Option.some.injEq] at hr
        subst hr
        exact P
      | exc x ρ' σ' =>
        simp only at hr
        split at hr
        rotate_left
        · cases hr
        rename_i hxc
        split at hr
        rotate_left
        · cases hr
        rename_i i hi
        split at hr
        rotate_left
        · cases hr
        rename_i bb σ'' hev
        simp only [Option.some.injEq] at hr
        subst hr
        obtain rfl : σ'' = σ' := (quiet_store Φ.quiet rfl n).1 _ _ _ _ _ hev
        intro ee L' h' tk er' st' af' X
        refine noted_ok (s := { s with heap := h', toks := tk }) a.ar st' af' er'.live X fun h1 n1 st1 af1 X1 => ?_
        have er1 := er'.nt X n1 st'.fr
        refine flight_ok (s := { s with heap := h1, toks := tk }) (fs := fs) X1 fun h2 n2 X2 => ?_
        have er2 := er1.nt X1 n2 st1.fr
        have st2 := st1.nt X1 n2
        have af2 := af1.nt X1 n2 st1.fr
        refine wpAny_handleBy_cons (codeAny_handlers_test ?_) (by intro z; cases z)
        have aq2 : At W Φ.quiet k (A.mark (some (.ref ee))) env fs ρ' L' σ'' { s with heap := h2, toks := tk } := ⟨⟨a.ar.frames, a.ar.top, a.ar.frame, a.ar.depth, a.ar.units⟩, (fun z => by cases z), er2.quiet, st2.quiet, a.code_⟩
        refine wpAny_Name (glob_ok wk.toWOk aq2 hk hmg ?_) hd
        have kin2 := wk.kin.keeps st2.base
        refine matches_ok (s := { s with heap := h2, toks := tk }) X2 kin2 hcls (by rw [hxc]; exact hcls.self) ?_
        simp only [if_true]
        refine codeAny_handlers_suite_as ?_
        refine flight_ok (s := { s with heap := h2, toks := tk }) (fs := fs) X2 fun h3 n3 X3 => ?_
        have er3 := er2.nt X2 n3 st2.fr
        have st3 := st2.nt X2 n3
        have af3 := af2.nt X2 n3 st2.fr
        have hloc : ∃ o, s.heap.get? env.locals = some o := let ⟨o, ho, _⟩ := er.low _ (List.mem_cons_self ..); ⟨o, ho⟩
        refine store_exn (s := { s with heap := h3, toks := tk }) wk.toWOk er3 X3 hi hloc hkl fun h4 tk4 c4 er4 => ?_
        have offl : ∀ b ∈ [env.locals], b ∉ own L' ∧ W.b0.get? b = none := fun b hb => by rw [List.mem_singleton.mp hb]; exact ⟨er3.off _ (List.mem_cons_self ..), er3.fresh _ (List.mem_cons_self ..)⟩
        have st4 := st3.chg c4 offl
        have af34 : Aft (faOf env) L' h3 L' h4 := (c4.aft L').mono fun b hb => by rw [List.mem_singleton.mp hb]; exact List.mem_cons_self ..
        have af4 := af3.trans af34 st3.lay er3.live
        have aq4 : At W Φ.quiet k (A.mark (some (.ref ee))) env fs (setL ρ' y (.exn i)) L' σ'' { s with heap := h4, toks := tk4 } := ⟨⟨a.ar.frames, a.ar.top, a.ar.frame, a.ar.depth, a.ar.units⟩, (fun z => by cases z), er4, st4.quiet, a.code_⟩
        refine wpAny_execs_cons (wpAny_Return_some (ihq.e hv aq4 _ _ _ hev ?_))
        intro vv L5 h5 tk5 st5 af5 rel5
        have : vv = .bool bb := rel5
        subst this
        have st5' := st5.loud st4
        have er5 := er4.aft af5
        obtain ⟨m5, hm5⟩ := er5.ns
        refine wpAny_nameGoes (s := { s with heap := h5, toks := tk5 }) hkl hm5 (by rw [er5.kind]; rfl) fun h6 m6 hm6 hs6 => ?_
        have c6 : Chg [env.locals] h5 h6 := by
          obtain ⟨o', es', ep', ho', hd', _⟩ := id hm6
          obtain ⟨o, es, ep, ho, hd, _⟩ := id hm5
          refine ⟨fun b o hb e' => sameBut_ka hs6 b o (fun z => hb (List.mem_singleton.mpr z)) e', fun b ob e' z => sameBut_ka hs6 b ob (fun q => ?_) e', fun b ob es1 n1 e1 d1 => ?_⟩
          · subst q
            rw [ho] at e'; cases e'
            rcases z with ⟨_, _, z⟩ | ⟨_, _, _, _, rfl⟩
            · rw [hd] at z; cases z
            · cases hd
          · by_cases q : b = env.locals
            · subst q; exact ⟨o', es', ep', ho', hd'⟩
            · exact ⟨ob, es1, n1, sameBut_ka hs6 b ob q e1, d1⟩
        have offl5 : ∀ b ∈ [env.locals], b ∉ own L5 ∧ W.b0.get? b = none := fun b hb => by rw [List.mem_singleton.mp hb]; exact ⟨er5.off _ (List.mem_cons_self ..), er5.fresh _ (List.mem_cons_self ..)⟩
        have st6 := st5'.chg c6 offl5
        have af56 : Aft (faOf env) L5 h5 L5 h6 := (c6.aft L5).mono fun b hb => by rw [List.mem_singleton.mp hb]; exact List.mem_cons_self ..
        have af6 := (af4.trans af5.nil_mono st4.lay er4.live).trans af56 st5.lay er5.live
        have er6 : EnvRel W false env [] L5 h6 := by
          refine ⟨er5.kind, er5.globals, er5.builtins, ⟨_, hm6⟩, fun y py ey => (by cases ey), fun y cc ec => ?_, er5.apart, er5.off, fun b hb => ?_, er5.fresh, er5.have_⟩
          · obtain ⟨v', hv'⟩ := er5.cells y cc ec
            exact ⟨v', (Slt.of_some fun o e' => sameBut_ka hs6 cc o (isCell_ne hv' hm5) e' : Slt h5 h6 cc).cell hv'⟩
          · by_cases q : b = env.locals
            · subst q
              obtain ⟨o', es', ep', ho', hd', _⟩ := hm6
              exact ⟨o', ho', .inl ⟨_, _, hd'⟩⟩
            · obtain ⟨o, ho, z⟩ := er5.low b hb
              exact ⟨o, sameBut_ka hs6 b o q ho, z⟩
        exact P (.bool bb) L5 h6 _ er6 st6 af6 rfl
end
end Mine
end
/-! M21: _law_heard(lambda: ...) -/
section
set_option autoImplicit false
set_option linter.unusedVariables false
set_option linter.unusedSimpArgs false
set_option maxRecDepth 100000
namespace Mine
open PySem PySem.W PySem.Calls PyProof.Rows

/-- the text of the one that hears -/
noncomputable def heardText (nm : Nat → Str) (ask : Nat) (k : Nat → Nat) (q : Nat → Pos) : List Stmt :=
  [.Try [.Return (some (.Tuple [.Constant (.str ⟨sTold.toArray⟩) (k 0) (q 0), .Call (.Name (nm ask) (q 1)) [] [] (q 2)] (k 1) (q 3))) (q 4)] [.ExceptHandler (some (.Name (nm 3) (q 5))) none [.Return (some (.Tuple [.Constant (.str ⟨sLimit.toArray⟩) (k 2) (q 6), .Constant .none (k 3) (q 7)] (k 4) (q 8))) (q 9)] (q 10), .ExceptHandler (some (.Name (nm 4) (q 11))) none [.Return (some (.Tuple [.Constant (.str ⟨sTerm.toArray⟩) (k 5) (q 12), .Constant .none (k 6) (q 13)] (k 7) (q 14))) (q 15)] (q 16)] [] [] (q 17)]
def HeardAt (nm : Nat → Str) (ask : Nat) (b : List Stmt) : Prop :=
  ∃ k q, b = heardText nm ask k q ∧ (nm ask == dbg) = false ∧ (nm 3 == dbg) = false ∧ (nm 4 == dbg) = false

structure LawOk (W : Wd) (K : Frag) (HA : Addr) (fdH : FuncData) (ask : Nat) (bodyH : List Stmt) : Prop where
  hd : CodeHd W.b0 W.lc W.tab
  ba : W.b0.BuiltinsAt W.mg W.tab
  hmg : W.mg ("_law_heard" : Str) = some (.ref HA)
  keep : keepIn K (.ref HA) = true
  fn : FnAt W K HA fdH [ask] bodyH
  body : HeardAt W.nm ask bodyH
  kask : fdH.scope.names.lookup (W.nm ask) = some .local
  k3 : fdH.scope.names.lookup (W.nm 3) = some .globalImplicit
  k4 : fdH.scope.names.lookup (W.nm 4) = some .globalImplicit
  g3 : W.mg (W.nm 3) = some (.ref (W.cls 3))
  g4 : W.mg (W.nm 4) = some (.ref (W.cls 4))
  c3 : ExcCls W K 3
  c4 : ExcCls W K 4
  m43 : mroIn K (W.cls 4) (.ref (W.cls 3)) = some false

theorem codeAmong_other {pos : Pos} {a b : Int} {c : Value} (h : a ≠ pos.line) : ∀ (n : Nat) (l : List Value), l.length ≤ n → TriplesOk l → codeAmong pos l = none → codeAmong pos (l ++ [rawInt a, rawInt b, c]) = none := by
  have h' : (a == (pos.line : Int)) = false := beq_false_of_ne h
  have h0 : codeAmong pos [rawInt a, rawInt b, c] = none := by
    simp [codeAmong, rawInt, h']
  intro n
  induction n with
  | zero =>
    intro l hl _ _
    rw [List.length_eq_zero_iff.mp (Nat.le_zero.mp hl)]
    exact h0
  | succ n ih =>
    intro l hl ht hn
    cases l with
    | nil => exact h0
    | cons x l =>
    cases x <;> try exact (ht : False).elim
    cases l with
    | nil => exact (ht : False).elim
    | cons y l =>
    cases y <;> try exact (ht : False).elim
    cases l with
    | nil => exact (ht : False).elim
    | cons v r =>
      simp only [codeAmong] at hn
      simp only [List.cons_append, codeAmong]
      split at hn
      · cases hn
      · rename_i q
        rw [if_neg q]
        exact ih r (Nat.le_of_succ_le_succ (Nat.le_trans (Nat.le_succ_of_le (Nat.le_succ _)) hl)) ht hn

section
variable {M : Model} {A : Around} {E : Value → Shared → Prop} {s : Shared} {env : Env}
theorem ret_pair {d : Str} {k1 k2 kk : Nat} {p1 p2 pp rp : Pos} {Q : Flow → Shared → Prop}
    (h : ∀ t tk, Q (.ret (.ref s.heap.objs.size)) { s with heap := s.heap.push { cls := .type "tuple", data := .seq [Value.str d t, Value.none].toArray }, toks := tk }) :
    wpAny M A (execs [.Return (some (.Tuple [.Constant (.str d) k1 p1, .Constant .none k2 p2] kk pp)) rp] env) Q E s := by
  refine wpAny_execs_cons (wpAny_Return_some (wpAny_Tuple ?_))
  refine wpAny_items_cons (wpAny_Constant_str ?_) rfl
  refine wpAny_items_cons (wpAny_Constant_none ?_) rfl
  exact wpAny_items_nil ⟨by show 2 ≤ sizeLine; rw [sizeLine_eq]; decide, h _ _⟩
end

section
variable {W : Wd} {K : Frag} {Φ : Sig} {k n m : Nat} {A : Around} {env : Env} {fs : List Env} {ρ : Loc} {L : Lo} {σ : Store} {s : Shared} {x : Expr}
/-- the lambda's own names -/
theorem lamEnv_rel {sc : Scope} {fv : List Nat} {cl : List (Str × Addr)} {C : Addr} {ρ' : Loc} {L' : Lo} {h h' : Heap} {qual : Str} {f : Option Addr} {code : Value} (he : EnvRel W false env ρ L h) (hf : freeOk W.nm env.kindOf fv sc = true)
    (c2 : ∀ y c, cl.lookup y = some c → env.cells.lookup y = some c) (c3 : ∀ y ∈ sc.names, y.2 = .free → (cl.lookup y.1).isSome = true)
    (hcap : capture ρ fv = some ρ') (kk : ∀ b ∈ faOf env, Slt h h' b) (rl : ∀ {v : Value} {p : PV}, RelV false L h v p → RelV false L' h' v p) (hC : ∃ m, h'.Ns C m) (hCo : C ∉ own L') (hCb : W.b0.get? C = none) (hown : ∀ b ∈ faOf env, b ∉ own L') :
    EnvRel W false (newEnv sc C mainGlobals cl qual f code none builtinsNs) ρ' L' h' := by
  obtain ⟨f1, f2, f3⟩ := free_names hf
  refine ⟨f1, rfl, rfl, hC, fun x pv e => ?_, fun y c e => ?_, fun y z c e1 e2 => he.apart y z c (c2 y c e1) (c2 z c e2), fun b hb => ?_, fun b hb => ?_, fun b hb => ?_, fun y e => ?_⟩
  · obtain ⟨hx, hl⟩ := capture_lk hcap x pv e
    obtain ⟨g1, g2⟩ := f2 x hx
    obtain ⟨v, hn, rv⟩ := he.names x pv hl
    refine ⟨v, .inr ⟨.inr g1, ?_⟩, rl rv⟩
    rcases hn with ⟨hk, _⟩ | ⟨_, c, hc, hv⟩
    · rw [g2] at hk; cases hk
    · obtain ⟨c', hc'⟩ := Option.isSome_iff_exists.mp (c3 (W.nm x, .free) (mem_of_lookup g1) rfl)
      have := c2 _ _ hc'
      rw [hc] at this; cases this
      exact ⟨c, hc', (kk c (cell_mem hc)).cell hv⟩
  · obtain ⟨v, hv⟩ := he.cells y c (c2 y c e)
    exact ⟨v, (kk c (cell_mem (c2 y c e))).cell hv⟩
  · rcases List.mem_cons.mp hb with rfl | hb
    · exact hCo
    · obtain ⟨y, hy⟩ := faOf_cell (env := newEnv sc C mainGlobals cl qual f code none builtinsNs) hb
      exact hown b (cell_mem (c2 y b hy))
  · rcases List.mem_cons.mp hb with rfl | hb
    · obtain ⟨mm, o, es, ep, ho, hd, _⟩ := hC
      exact ⟨o, ho, .inl ⟨_, _, hd⟩⟩
    · obtain ⟨y, hy⟩ := faOf_cell (env := newEnv sc C mainGlobals cl qual f code none builtinsNs) hb
      obtain ⟨o, ho, z⟩ := he.low b (cell_mem (c2 y b hy))
      obtain ⟨sl, e1, _⟩ := kk b (cell_mem (c2 y b hy)) o ho
      exact ⟨_, e1, z⟩
  · rcases List.mem_cons.mp hb with rfl | hb
    · exact hCb
    · obtain ⟨y, hy⟩ := faOf_cell (env := newEnv sc C mainGlobals cl qual f code none builtinsNs) hb
      exact he.fresh b (cell_mem (c2 y b hy))
  · exact absurd rfl (f3 _ (mem_of_lookup e)).2.2

/-- the lambda is made: the table of codes is turned, all else stays -/
theorem lam_made (wk : WK W K) {HA : Addr} {fdH : FuncData} {ask : Nat} {bodyH : List Stmt} (lo : LawOk W K HA fdH ask bodyH) {l : List Nat} {i : Nat} {sc : Scope} {b : Expr} {lp : Pos} {cl : List (Str × Addr)} {Q : Value → Shared → Prop} {E : Value → Shared → Prop}
    (er : EnvRel W false env ρ L s.heap) (st : St W false fs L σ s.heap) (hcode : env.code = .ref W.lc) (htab : σ[0]? = some (PO.tab l)) (hi : i ∉ l) (hlp : lp.line = i) (hcl : closureFor sc env = pure cl)
    (h : ∀ f c' ctv pm h' tk, s.heap.get? f = none → h'.get? f = some (kla_obj "<lambda>" (env.qual ++ "<lambda>") ⟨[], [], none, [], [], none, []⟩ b sc cl pm c' ctv) → h'.CodeRec (.ref c') (env.qual ++ "<lambda>") →
      St W false fs L (σ.set 0 (.tab (i :: l))) h' → Aft [] L s.heap L h' → Q (.ref f) { s with heap := h', toks := tk }) :
    wpAny (model W.prog W.w) A (eval (.Lambda ⟨[], [], none, [], [], none, []⟩ b sc lp) env) Q E s := by
  have hL0 : ∃ p, L.l[0]? = some p := by
    have : 0 < L.l.length := by rw [st.lay.len]; exact (List.getElem?_eq_some_iff.mp htab).1
    exact ⟨L.l[0], List.getElem?_eq_getElem this⟩
  obtain ⟨p, hp⟩ := hL0
  obtain ⟨hda, hpa, ps, hP, htr, hnf⟩ := st.lay.objs 0 p _ hp htab
  rw [hpa] at hP
  have hg := wk.g.keeps st.base
  have hgP : mainGlobals ≠ W.tab := fun q => by
    obtain ⟨o, es, ep, e, hd, _⟩ := hg
    rw [q, hP] at e; cases e; cases hd
  obtain ⟨bm, ob, b1, b2, b3, b4, b5, b6⟩ := lo.ba
  refine kla_eval rfl (kla_makeFunction (mg := W.mg) hcl er.globals hg hcode (lo.hd.keeps st.base) hP htr (hnf lp (by rw [hlp]; exact hi)) hgP ⟨bm, ob, b1, b2, b3, b4, st.base _ _ b5, b6⟩ fun c' ctv h' tk hx hge hlt hrec htb => ?_)
  have fresh : s.heap.get? h'.objs.size = none := Heap.get?_none_of_le (Nat.le_trans hge (Nat.le_of_lt hlt))
  have keep : ∀ b' o, b' ≠ p.a → b' ≠ p.d → s.heap.get? b' = some o → (h'.push (kla_obj "<lambda>" (env.qual ++ "<lambda>") ⟨[], [], none, [], [], none, []⟩ b sc cl ((W.mg "__name__").getD .none) c' ctv)).get? b' = some o := fun b' o hb _ e =>
    Heap.get?_push_of_some _ (hx b' o (by rw [← hpa]; exact hb) e)
  obtain ⟨st', af'⟩ := st_upd (o := .tab l) (o' := .tab (i :: l)) st hp keep fun rl rls => ⟨hda, hpa, ps ++ #[rawInt lp.line, rawInt lp.col, .ref c'], by rw [hpa]; exact Heap.get?_push_of_some _ htb, by
      have := TriplesOk_snoc (lp.line : Int) (lp.col : Int) (.ref c') ps.toList htr
      simpa using this, fun pos hpos => by
      rw [List.mem_cons, not_or] at hpos
      have := codeAmong_other (pos := pos) (a := (lp.line : Int)) (b := (lp.col : Int)) (c := .ref c') (by rw [hlp]; exact fun z => hpos.1 (by exact_mod_cast z.symm)) _ ps.toList (Nat.le_refl _) htr (hnf pos hpos.2)
      simpa using this⟩
  refine h h'.objs.size c' ctv _ _ tk fresh (Heap.get?_push_size _ rfl) ?_ st' af'
  obtain ⟨c2, oc, vs, t, e2, hoc, hd, hv⟩ := hrec
  exact ⟨c2, oc, vs, t, e2, Heap.get?_push_of_some _ hoc, hd, hv⟩
end
end Mine
end
/-! M22: what _law_heard makes of what it asks -/
section
set_option autoImplicit false
set_option linter.unusedVariables false
set_option linter.unusedSimpArgs false
set_option maxRecDepth 100000
namespace Mine
open PySem PySem.W PySem.Calls PyProof.Rows

section
variable {W : Wd} {K : Frag} {Φ : Sig} {k n m : Nat}
/-- a pair made last -/
theorem pair_rel {q : Bool} {fs : List Env} {L : Lo} {σ : Store} {h : Heap} {d : List Nat} {t : Tok} {v : Value} {p : PV} (st : St W q fs L σ h) (rv : RelV q L h v p) :
    KA h (h.push { cls := .type "tuple", data := .seq [Value.str ⟨d.toArray⟩ t, v].toArray }) ∧ RelV q L (h.push { cls := .type "tuple", data := .seq [Value.str ⟨d.toArray⟩ t, v].toArray }) (.ref h.objs.size) (.tup [.str d, p]) := by
  have k1 : KA h (h.push { cls := .type "tuple", data := .seq [Value.str ⟨d.toArray⟩ t, v].toArray }) := KA.push _ _
  refine ⟨k1, ?_⟩
  simp only [RelV]
  refine ⟨_, _, rfl, own_fresh st.lay, ⟨_, Heap.get?_push_size _ rfl, rfl, 0, rfl⟩, ?_⟩
  simp only [RelVs, and_true]
  exact ⟨⟨t, rfl⟩, k1.rel rv⟩

/-- the lambda is called -/
theorem lam_call (wk : WK W K) (ihl : SE W Φ.low k n) (hq : Φ.q = false) {fd0 : Env} {env : Env} {ρ ρ' : Loc} {fv : List Nat} {sc : Scope} {cl : List (Str × Addr)} {b : Expr} {e : CE} {f : Addr} {c' : Addr} {ctv pm : Value} {qual : Str} {A : Around} {envH : Env} {fs : List Env} {L : Lo} {σ : Store} {s : Shared} {r : R PV} {Q E : Value → Shared → Prop}
    (ar : Ar A envH fs (k + 1)) (hh : A.handled = none) (st : St W false fs L σ s.heap) (er : EnvRel W false env ρ L s.heap) (hf : freeOk W.nm env.kindOf fv sc = true)
    (hge : sc.isGenerator = false) (hco : sc.isCoroutine = false) (c2 : ∀ y c, cl.lookup y = some c → env.cells.lookup y = some c) (c3 : ∀ y ∈ sc.names, y.2 = .free → (cl.lookup y.1).isSome = true) (hcap : capture ρ fv = some ρ')
    (hchk : Chk W.nm m (fun y => sc.names.lookup y) e b) (ho : s.heap.get? f = some (kla_obj "<lambda>" qual ⟨[], [], none, [], [], none, []⟩ b sc cl pm c' ctv)) (hcd : s.heap.CodeRec (.ref c') qual)
    (hr : ev Φ.low n e ρ' σ = some r) (P : Post W false fs (RelV false) L s r Q E) : wpAny (model W.prog W.w) A (call (.ref f) []) Q E s := by
  obtain ⟨f1, f2, f3⟩ := free_names hf
  refine wpAny_call (kla_callFunE (by have := ar.depth; exact Nat.lt_of_le_of_lt (Nat.le_add_right ..) this) ho rfl hco hge rfl hcd (wpAny_of_eq (a := []) (by rfl) ?_))
  refine wpAny_newFunctionEnv (fun y hy => (f3 y hy).2.2) (by intro y hy; simp at hy) (fun h₁ hns hsb => ?_) f1
  have hC0 := fresh_none s.heap
  dsimp only at hns hsb ⊢
  generalize hCC : s.heap.objs.size = C at hC0 hns hsb ⊢
  have kk : KA s.heap h₁ := fun b o e => by
    have hb : b ≠ C := fun z => by rw [z, hC0] at e; cases e
    exact (hsb.2 b hb).trans (Heap.get?_push_of_some _ e)
  have b0C : W.b0.get? C = none := by
    cases z : W.b0.get? C with
    | none => rfl
    | some o => have := st.base C o z; rw [hC0] at this; cases this
  have offC : C ∉ own L := fun z => by
    obtain ⟨o, ho⟩ := st.lay.live z
    rw [hC0] at ho; cases ho
  generalize he3 : newEnv sc C mainGlobals cl (qual ++ ".<locals>.") (some f) (.ref c') none builtinsNs = env3
  have st₁ := st.ka kk
  have er3 : EnvRel W false env3 ρ' L h₁ := he3 ▸ lamEnv_rel er hf c2 c3 hcap (fun b _ => kk.slt b) kk.rel ⟨_, hns⟩ offC b0C er.off
  have hloc : env3.locals = C := by rw [← he3]; rfl
  have hfr : env3.frame = some C := by rw [← he3]; rfl
  have hko : env3.kindOf = fun y => sc.names.lookup y := by rw [← he3]; rfl
  obtain ⟨oC, esC, epC, hoC, hdC, _⟩ := id hns
  have stE : St W false (env3 :: fs) L σ h₁ := ⟨st₁.base, st₁.offb, st₁.lay, fun e he => by
    rcases List.mem_cons.mp he with rfl | he
    · exact ⟨by rw [er3.kind]; decide, C, oC, hfr, b0C, offC, hoC, _, _, hdC⟩
    · exact st₁.fr e he⟩
  refine ⟨wk.nolimit.keeps st₁.base, kla_codeExpr ?_⟩
  have aE : At W Φ.low k (A.deeper env3) env3 (env3 :: fs) ρ' L σ { s with heap := h₁, toks := s.toks + ([] : List (Str × Value)).length } := by
    refine ⟨⟨by show A.frames.map _ = _; rw [ar.frames]; rfl, ⟨env3, fs, rfl, rfl⟩, ⟨_, hfr⟩, ?_, ?_⟩, fun _ => hh, ?_, ?_, fun z => by cases z⟩
    · show A.depth + 1 + k < recursionLimit
      have := ar.depth; (clear offC hCC; lia)
    · show A.units + 3 + 16 * k + 64 < cLine
      have := ar.units; (clear offC hCC; lia)
    · rw [show Φ.low.q = false from hq]; exact er3
    · rw [show Φ.low.q = false from hq]; exact stE
  have lift : ∀ {L' : Lo} {h' : Heap}, Aft [] L h₁ L' h' → Aft [] L s.heap L' h' := fun {L' h'} af => by
    obtain ⟨⟨T, rfl, hT⟩, hk⟩ := af
    refine ⟨⟨T, rfl, fun a ha => ?_⟩, fun b hb _ o e => hk b hb (fun z => by cases z) o (kk b o e)⟩
    cases z : s.heap.get? a with
    | none => rfl
    | some o => have := kk a o z; rw [hT a ha] at this; cases this
  refine ihl.e (by rw [hko]; exact hchk) aE r _ _ hr ?_
  rw [show Φ.low.q = false from hq]
  cases r with
  | ok v σ' => exact fun vv L' h' tk' st' af' rel => P vv L' h' tk' st'.pop (lift af') rel
  | exc px σ' =>
    intro ee L' h' tk' st' af' X
    show wpAny _ _ (leaving env3 (.ref ee)) _ _ _
    unfold leaving
    refine wpAny_bind (noted_ok (s := { s with heap := h', toks := tk' }) (fa := []) aE.ar st' af' (fun _ z => by cases z) X fun h₂ n₂ st₂ af₂ X₂ => ?_)
    refine flight_ok (s := { s with heap := h₂, toks := tk' }) (fs := env3 :: fs) X₂ fun h₃ n₃ X₃ => ?_
    have st₃ := st₂.nt X₂ n₃
    have af₃ := af₂.nt X₂ n₃ st₂.fr
    exact P ee L' h₃ tk' st₃.pop (lift af₃) (X₃.weak.back fun a z => by
      cases q : s.heap.get? a with
      | none => rfl
      | some o => have := kk a o q; rw [z] at this; cases this)

theorem glob_env (wok : WOk W) {q : Bool} {env : Env} {ρ : Loc} {L : Lo} {A : Around} {s : Shared} {y : Str} {v : Value} {Q : Value → Shared → Prop} {E : Value → Shared → Prop} (er : EnvRel W q env ρ L s.heap) (hb : W.b0.StaysIn s.heap) (hk : env.kindOf y = some .globalImplicit) (hv : W.mg y = some v) (h : Q v s) :
    wpAny (model W.prog W.w) A (loadName env y) Q E s :=
  ks_loadName_global er.kind hk (Calls.loadGlobal_global (by rw [er.globals]; exact wok.g.keeps hb) hv h)

/-- one clause of _law_heard that holds -/
theorem clause_ok (wk : WK W K) {c : Nat} {px : PX} {d : List Nat} {A : Around} {envH : Env} {fs : List Env} {L0 L : Lo} {h0 : Heap} {σ : Store} {s : Shared} {ee : Addr} {mm : Bool} {np cp p1 p2 pp rp : Pos} {k1 k2 kk : Nat} {rest : List ExceptHandler} {Q : Flow → Shared → Prop} {E : Value → Shared → Prop}
    (er : EnvRel W false envH [] L s.heap) (st : St W false fs L σ s.heap) (af : Aft (faOf envH) L0 h0 L s.heap) (X : ExcAt W h0 L s.heap ee px mm) (hk : envH.kindOf (W.nm c) = some .globalImplicit) (hv : W.mg (W.nm c) = some (.ref (W.cls c))) (hd : (W.nm c == dbg) = false) (hc : ExcCls W K c) (hx : px.cls = c)
    (P : ∀ vv L' h' tk, EnvRel W false envH [] L' h' → St W false fs L' σ h' → Aft (faOf envH) L0 h0 L' h' → RelV false L' h' vv (.tup [.str d, .none]) → Q (.ret vv) { s with heap := h', toks := tk }) :
    wpAny (model W.prog W.w) A (handleBy (.ref ee) envH (.ExceptHandler (some (.Name (W.nm c) np)) none [.Return (some (.Tuple [.Constant (.str ⟨d.toArray⟩) k1 p1, .Constant .none k2 p2] kk pp)) rp] cp :: rest)) Q E s := by
  refine wpAny_handleBy_cons (codeAny_handlers_test ?_) (by intro z; cases z)
  refine wpAny_Name (glob_env wk.toWOk er st.base hk hv ?_) hd
  refine matches_ok X (wk.kin.keeps st.base) hc (by rw [hx]; exact hc.self) ?_
  simp only [if_true]
  refine codeAny_handlers_suite ?_
  refine flight_ok (fs := fs) X fun h1 n1 X1 => ?_
  have st1 := st.nt X n1
  have er1 := er.nt X n1 st.fr
  have af1 := af.nt X n1 st.fr
  refine ret_pair fun t tk => ?_
  obtain ⟨k1, rp⟩ := pair_rel (d := d) (t := t) (p := .none) (v := .none) st1 rfl
  exact P _ L _ _ (er1.ka k1) (st1.ka k1) (af1.trans (k1.aft _ L) st1.lay er1.live) rp

theorem se_heard (wk : WK W K) {HA : Addr} {fdH : FuncData} {ask : Nat} {bodyH : List Stmt} (lo : LawOk W K HA fdH ask bodyH) (ihl : SE W Φ.low k n) {A : Around} {env : Env} {fs : List Env} {ρ : Loc} {L : Lo} {σ : Store} {s : Shared} {x : Expr} {i : Nat} {fv : List Nat} {e : CE}
    (h : Chk W.nm (m + 1) env.kindOf (.heard i fv e) x) (a : At W Φ (k + 2) A env fs ρ L σ s) : Snd W Φ.q fs A (eval x env) (ev Φ (n + 1) (.heard i fv e) ρ σ) (RelV Φ.q) L s := by
  intro r Q E hr P
  obtain ⟨ip, b, sc, lp, cp, rfl, hlp, hk, hge, hco, hf, hc⟩ := h
  · have hd : (("_law_heard" : Str) == dbg) = false := by decide
    change @ite _ _ _ _ _ = some r at hr
    split at hr
    · cases hr
    rename_i hq
    rw [not_or] at hq
    have hq' := q_false hq.1
    have htop : Φ.top = true := by simpa using hq.2
    split at hr
    rotate_left
    · cases hr
    rename_i ρ' l hcap htab
    split at hr
    · cases hr
    rename_i hil
    have hil : i ∉ l := fun z => hil (by simpa using z)
    have er := a.env
    have st := a.st
    rw [hq'] at P er st
    obtain ⟨f1, f2, f3⟩ := free_names hf
    obtain ⟨cl, d1, d2, d3, d4⟩ := closure_ok (env := env) (sc := sc) fun y hy e => by
      obtain ⟨c, hc⟩ := er.have_ _ ((f3 y hy).2.1 e)
      rw [hc]; rfl
    -- what is asked
    cases hr₀ : ev Φ.low n e ρ' (σ.set 0 (PO.tab (i :: l))) with
    | none => rw [hr₀] at hr; cases hr
    | some r₀ =>
    rw [hr₀] at hr
    obtain ⟨tv, σ₂, rfl⟩ : ∃ tv σ₂, r = .ok tv σ₂ := by
      cases r₀ with
      | ok v σ₂ => simp only [heardOf, Option.some.injEq] at hr; exact ⟨_, _, hr.symm⟩
      | exc px σ₂ =>
        simp only [heardOf] at hr
        split at hr
        · simp only [Option.some.injEq] at hr; exact ⟨_, _, hr.symm⟩
        · split at hr
          · simp only [Option.some.injEq] at hr; exact ⟨_, _, hr.symm⟩
          · cases hr
    rw [arm_eval_Call_Name']
    refine wpAny_bind (wpAny_Name (glob_ok wk.toWOk a hk lo.hmg ?_) hd)
    refine callWith_of (P := fun h => W.b0.StaysIn h) rfl (fun h hb => keeps_K lo.keep h (wk.kin.keeps hb)) ?_
    refine evalArgs_of rfl ?_
    refine wpAny_items_cons (lam_made wk lo er st (a.code_ htop) htab hil hlp d1 fun f c' ctv pm h₁ tk₁ hf0 hf1 hrec st₁ af₁ => ?_) rfl
    refine wpAny_items_nil ⟨st₁.base, ?_⟩
    have er₁ := er.aft af₁
    have P₁ := P.next (tk := tk₁) st₁ af₁
    show wpAny _ _ (call (.ref HA) [.ref f]) _ _ _
    refine fn_enter (k := k + 1) (Φ := Φ.low) (rs := .ret tv [] σ₂) (ρ0 := []) wk lo.fn hq' (fun z => by cases z) (s := { s with heap := h₁, toks := tk₁ }) a.ar (a.hq hq') st₁ rfl (fun x pv e => by cases e) P₁ fun envH h₂ tk₂ Q' E' aH hkH kk₂ nameAt newH PS => ?_
    have erH := aH.env
    have stH := aH.st
    rw [show Φ.low.q = false from hq'] at erH stH
    obtain ⟨qk, qp, rfl, hd1, hd3, hd4⟩ := lo.body
    have hkask : envH.kindOf (W.nm ask) = some .local := by rw [hkH]; exact lo.kask
    have hname : NameAt envH h₂ (W.nm ask) (.ref f) := nameAt ask (List.mem_singleton.mpr rfl) _ (by simp [List.lookup_cons])
    have hho : h₂.get? f = some (kla_obj "<lambda>" (env.qual ++ "<lambda>") ⟨[], [], none, [], [], none, []⟩ b sc cl pm c' ctv) := kk₂ _ _ hf1
    refine wpAny_execs_cons (wpAny_Try_except ?_)
    refine wpAny_execs_cons (wpAny_Return_some (wpAny_Tuple ?_))
    refine wpAny_items_cons (wpAny_Constant_str ?_) rfl
    refine wpAny_items_cons ?_ rfl
    rw [arm_eval_Call_Name']
    refine wpAny_bind (wpAny_Name ?_ hd1)
    rcases hname with ⟨_, mm, hm, hv⟩ | ⟨hk', _⟩
    rotate_left
    · rw [hkask] at hk'; rcases hk' with hk' | hk' <;> cases hk'
    refine wpAny_loadName_local erH.kind hkask hm hv ?_
    refine callWith_of (P := fun h => h.get? f = some (kla_obj "<lambda>" (env.qual ++ "<lambda>") ⟨[], [], none, [], [], none, []⟩ b sc cl pm c' ctv)) rfl (fun h hp => ⟨.frame, .inl rfl, (Looks.ld (part := none) hp).andThen .now⟩) ?_
    refine evalArgs_of rfl (Calls.spliced_nil ⟨hho, ?_⟩)
    show wpAny _ _ (call (.ref f) []) _ _ _
    have stT : St W false (envH :: fs) L (σ.set 0 (PO.tab (i :: l))) h₂ := stH
    refine lam_call (s := { s with heap := h₂, toks := tk₂ + 1 }) wk ihl hq' (fd0 := env) aH.ar (aH.hq hq') stT (er₁.ka kk₂) hf hge hco d2 d3 hcap hc hho (by
      obtain ⟨c2, oc, vs, t, e2, hoc, hd, hv⟩ := hrec
      exact ⟨c2, oc, vs, t, e2, kk₂ _ _ hoc, hd, hv⟩) hr₀ ?_
    cases r₀ with
    | ok v σ₃ =>
      simp only [heardOf, Option.some.injEq, R.ok.injEq] at hr
      obtain ⟨rfl, rfl⟩ := hr
      intro vv L' h' tk' st' af' rel
      refine wpAny_items_nil ⟨by show 2 ≤ sizeLine; rw [sizeLine_eq]; decide, ?_⟩
      obtain ⟨k1, rp⟩ := pair_rel (d := sTold) (t := tk₂) st' rel
      have er' := erH.aft af'
      exact PS _ L' _ _ (er'.ka k1) (st'.ka k1) (((af'.trans0 (k1.aft [] L') st'.lay).nil_mono)) rp
    | exc px σ₃ =>
      simp only [heardOf] at hr
      intro ee L' h' tk' st' af' X
      have er' := erH.aft af'
      refine noted_ok (s := { s with heap := h', toks := tk' }) (fa := []) aH.ar st' af' (fun _ z => by cases z) X fun h3 n3 st3 af3 X3 => ?_
      have er3 := er'.nt X n3 st'.fr
      refine flight_ok (s := { s with heap := h3, toks := tk' }) (fs := envH :: fs) X3 fun h4 n4 X4 => ?_
      have er4 := er3.nt X3 n4 st3.fr
      have st4 := st3.nt X3 n4
      have af4 := af3.nt X3 n4 st3.fr
      have hk3 : envH.kindOf (W.nm 3) = some .globalImplicit := by rw [hkH]; exact lo.k3
      have hk4 : envH.kindOf (W.nm 4) = some .globalImplicit := by rw [hkH]; exact lo.k4
      have X4' : ExcAt W h₂ L' h4 ee px true := X4
      split at hr
      · rename_i hx
        simp only [Option.some.injEq, R.ok.injEq] at hr
        obtain ⟨rfl, rfl⟩ := hr
        exact clause_ok (s := { s with heap := h4, toks := tk' }) wk er4 st4 af4.nil_mono X4' hk3 lo.g3 hd3 lo.c3 hx fun vv L5 h5 tk5 er5 st5 af5 rel5 => PS vv L5 h5 tk5 er5 st5 af5 rel5
      · rename_i hx3
        split at hr
        · rename_i hx
          simp only [Option.some.injEq, R.ok.injEq] at hr
          obtain ⟨rfl, rfl⟩ := hr
          refine wpAny_handleBy_cons (codeAny_handlers_test ?_) (by intro z; cases z)
          refine wpAny_Name (glob_env (s := { s with heap := h4, toks := tk' }) wk.toWOk er4 st4.base hk3 lo.g3 ?_) hd3
          refine matches_ok (s := { s with heap := h4, toks := tk' }) X4' (wk.kin.keeps st4.base) lo.c3 (by rw [hx]; exact lo.m43) ?_
          simp only [Bool.false_eq_true, if_false]
          exact clause_ok (s := { s with heap := h4, toks := tk' }) wk er4 st4 af4.nil_mono X4' hk4 lo.g4 hd4 lo.c4 hx fun vv L5 h5 tk5 er5 st5 af5 rel5 => PS vv L5 h5 tk5 er5 st5 af5 rel5
        · cases hr
end
end Mine
end
/-! M23: all forms are sound -/
section
set_option autoImplicit false
set_option linter.unusedVariables false
set_option linter.unusedSimpArgs false
set_option maxRecDepth 100000
namespace Mine
open PySem PySem.W PySem.Calls PyProof.Rows

theorem Ar.le {A : Around} {env : Env} {fs : List Env} {k k' : Nat} (a : Ar A env fs k') (h : k ≤ k') : Ar A env fs k :=
  ⟨a.frames, a.top, a.frame, by have := a.depth; lia, by have := a.units; lia⟩
theorem CallOk.le {W : Wd} {k k' : Nat} {f : Value} {args : List PV} {σ : Store} {r : R PV} (x : CallOk W k f args σ r) (h : k ≤ k') : CallOk W k' f args σ r :=
  fun A env fs s L vs Q E ar => x A env fs s L vs Q E (ar.le h)
theorem RaiseOk.le {W : Wd} {k k' : Nat} {f : Value} {args : List PV} {p : PX} (x : RaiseOk W k f args p) (h : k ≤ k') : RaiseOk W k' f args p :=
  fun A env fs σ s L vs Q E ar => x A env fs σ s L vs Q E (ar.le h)
theorem SigOk.le {W : Wd} {K : Frag} {Φ : Sig} {k k' : Nat} (x : SigOk W K Φ k) (h : k ≤ k') : SigOk W K Φ k' :=
  ⟨x.glo, fun f hf => let ⟨v, a, b, c⟩ := x.kn f hf; ⟨v, a, b, fun args σ r e => (c args σ r e).le h⟩,
    fun c m hm => let ⟨f, a, b, d, e, g⟩ := x.km c m hm; ⟨f, a, b, d, e, fun j args σ r z => (g j args σ r z).le h⟩⟩
theorem XOk.le {W : Wd} {K : Frag} {Φ : Sig} {k k' : Nat} (x : XOk W K Φ k) (h : k ≤ k') : XOk W K Φ k' :=
  ⟨fun c hc => let ⟨a, b, d, e⟩ := x.ex c hc; ⟨a, b, d, fun args p z => let ⟨g, r⟩ := e args p z; ⟨g, r.le h⟩⟩⟩

structure World_ (W : Wd) (K : Frag) : Prop where
  wk : WK W K
  set : SetOk W K
  law : ∃ HA fdH ask bodyH, LawOk W K HA fdH ask bodyH
structure Good (W : Wd) (K : Frag) (Φ : Sig) (k : Nat) : Prop where
  so : SigOk W K Φ k
  xo : XOk W K Φ k
  top : Φ.top = true → ∃ k', k = k' + 2 ∧ SigOk W K Φ k' ∧ XOk W K Φ k'
theorem Good.quiet {W : Wd} {K : Frag} {Φ : Sig} {k : Nat} (g : Good W K Φ k) : Good W K Φ.quiet k :=
  ⟨⟨g.so.glo, g.so.kn, g.so.km⟩, ⟨g.xo.ex⟩, fun h => let ⟨k', e, a, b⟩ := g.top h; ⟨k', e, ⟨a.glo, a.kn, a.km⟩, ⟨b.ex⟩⟩⟩
theorem Good.low {W : Wd} {K : Frag} {Φ : Sig} {k : Nat} (g : Good W K Φ (k + 2)) (h : Φ.top = true) : Good W K Φ.low k := by
  obtain ⟨k', e, a, b⟩ := g.top h
  obtain rfl : k = k' := by lia
  exact ⟨⟨a.glo, a.kn, a.km⟩, ⟨b.ex⟩, fun z => by cases z⟩

theorem all_ok {W : Wd} {K : Frag} (w : World_ W K) : ∀ (n : Nat) (Φ : Sig) (k : Nat), Good W K Φ k → SE W Φ k n ∧ SC W Φ k n ∧ SX W Φ k n ∧ SL W Φ k n
  | 0, Φ, k, _ => by
    refine ⟨⟨?_, ?_, ?_, ?_, ?_, ?_⟩, ⟨?_⟩, ⟨?_, ?_⟩, ⟨?_, ?_⟩⟩
    · intros; intro r Q E hr; cases hr
    · intros; intro r Q E hr; cases hr
    · intros; intro r Q E hr; cases hr
    · intros; intro r Q E hr; cases hr
    · intros; intro r Q E hr; cases hr
    · intros; intro r Q E hr; cases hr
    · intro m A env fs ρ L σ s elt xs tt ce src i acc x tg ifs iter scope pos I D v vs Rr r _ _ _ _ _ _ _ _ _ _ _ _ _ _ hr
      cases hr
    · intro m A env fs ρ L σ s cs st rs Q E _ _ hr; cases hr
    · intro m A env fs ρ L σ s cs st rs Q E _ _ hr; cases hr
    · intro m A env fs ρ L σ s xs tt src i b bs tg I v Rr rs _ _ _ _ _ _ _ _ hr; cases hr
    · intro m A env fs ρ L σ s t b tv bs Rr rs _ _ _ _ hr; cases hr
  | n + 1, Φ, k, g => by
    obtain ⟨ih, ihc, ihx, ihl⟩ := all_ok w n Φ k g
    obtain ⟨ihq, _, _, _⟩ := all_ok w n Φ.quiet k g.quiet
    have wk := w.wk
    refine ⟨⟨?_, se_t ih, se_ts ih, se_b ih, se_es ih, se_o ih⟩, sc_c wk.toWOk ih ihc, ⟨?_, sx_cons ihx⟩, ⟨sl_f wk.toWOk ihx ihl, sl_w ih ihx ihl⟩⟩
    · intro m A env fs ρ L σ s ce x h a
      cases m with
      | zero => exact h.elim
      | succ m =>
      cases ce with
      | loc => exact se_loc wk.toWOk h a
      | glo => exact se_glo wk.toWOk g.so.glo h a
      | cnone => exact se_cnone h a
      | cbool => exact se_cbool h a
      | cint => exact se_cint h a
      | cstr => exact se_cstr h a
      | neg => exact se_neg ih h a
      | not => exact se_not ih h a
      | bin => exact se_bin ih h a
      | cmp => exact se_cmp ih h a
      | cmpNil => exact se_cmpNil ih h a
      | bop => exact se_bop ih h a
      | ite => exact se_ite ih h a
      | tup => exact se_tup ih h a
      | lst => exact se_lst ih h a
      | sub => exact se_sub ih h a
      | slice => exact se_slice ih h a
      | call => exact se_call wk g.so ih h a
      | bi => exact se_bi wk.toWOk ih h a
      | meth => exact se_meth wk g.so ih h a
      | mdig => exact se_mdig ih h a
      | mjoin => exact se_mjoin ih h a
      | mapp => exact se_mapp ih h a
      | mpop => exact se_mpop ih h a
      | attr => exact se_attr wk ih h a
      | fstr => exact se_fstr ih h a
      | fstrs => exact se_fstrs ih h a
      | comp => exact se_comp wk ih ihc h a
      | heard i fv e =>
        intro r Q E hr P
        have htop : Φ.top = true := by
          change @ite _ _ _ _ _ = some r at hr
          split at hr
          · cases hr
          · rename_i hq
            rw [not_or] at hq
            simpa using hq.2
        obtain ⟨k', rfl, _, _⟩ := g.top htop
        obtain ⟨HA, fdH, ask, bodyH, lo⟩ := w.law
        obtain ⟨ihl', _, _, _⟩ := all_ok w n Φ.low k' (g.low htop)
        exact se_heard wk lo ihl' h a r Q E hr P
    · intro m A env fs ρ L σ s cs st rs Q E h a hr P
      cases m with
      | zero => exact h.elim
      | succ m =>
      cases cs with
      | asg => exact sx_asg wk.toWOk ih h a hr P
      | asgT => exact sx_asgT wk.toWOk ih h a hr P
      | seta => exact sx_seta wk w.set ih h a hr P
      | seti => exact sx_seti ih h a hr P
      | exp => exact sx_exp ih h a hr P
      | ret => exact sx_ret ih h a hr P
      | iff => exact sx_iff ih ihx h a hr P
      | forr => exact sx_forr ih ihl h a hr P
      | whil => exact sx_whil ihl h a hr P
      | rais => exact sx_rais wk g.xo ih h a hr P
      | tryy => exact sx_tryy wk g.xo ihx ihq h a hr P
end Mine
end
/-! M24: an exception of one's own is made -/
section
set_option autoImplicit false
set_option linter.unusedVariables false
set_option linter.unusedSimpArgs false
set_option maxRecDepth 100000
namespace Mine
open PySem PySem.W PySem.Calls PyProof.Rows

section
variable {M : Model} {A : Around} {E : Value → Shared → Prop} {h : Heap} {g : Array GenState} {d : Drawn} {t : Nat} {os : OsState}
variable {nm q : Str} {C N : Addr} {bs bm : List Value} {hdct : Bool} {sn : List Str} {sub : List Value} {ab : Bool} {col : Option Bool} {dd : Option Addr} {k0 k1 k2 k3 k5 : Option Value} {B newId initId : String} {bmB : List Value}
theorem check_new_own (F : ExcBaseFacts B newId initId bmB) (hcont : (Value.ref C :: bm).contains (.type B) = true) {rest : List Value} {Q : Unit → Shared → Prop} (hC : h.get? C = some (excClassObj nm q C N bs bm hdct sn sub ab col dd k0 k1 k2 k3 k5 newId))
    (hq : Q () ⟨h, g, d, t, os⟩) : wpAny M A (checkBuiltinCall newId ⟨.ref C :: rest, []⟩) Q E ⟨h, g, d, t, os⟩ := by
  have hstar := F.noStar
  simp only [checkBuiltinCall, F.newKind, F.newSplit, F.newRow]
  repeat (first | refine wpAny_loadPart_at hC ?_ | (refine wpAny_isSubtype_exc hC ?_; rw [hcont]) | refine wpAny_staticBase_exc hC ?_ | refine wpAny_madeBy_exc hC ?_ | simp only [bne_self_eq_false, Bool.false_eq_true, if_false] | wp_step)
  exact hq
end
section
variable {prog : Program} {w : World} {A : Around} {R : Result → Shared → Prop} {h : Heap} {g : Array GenState} {d : Drawn} {t : Nat} {os : OsState}
variable {nm q : Str} {C N : Addr} {bs bm : List Value} {hdct : Bool} {sn : List Str} {sub : List Value} {ab : Bool} {col : Option Bool} {dd : Option Addr} {k0 k1 k2 k3 k5 : Option Value} {B newId initId : String} {bmB : List Value}
theorem exc_new_own (F : ExcBaseFacts B newId initId bmB) (hcB : (Value.ref C :: bm).contains (.type B) = true) (hcA : (Value.ref C :: bm).contains (.type "AttributeError") = false) (hcN : (Value.ref C :: bm).contains (.type "NameError") = false) {rest : List Value}
    (hC : h.get? C = some (excClassObj nm q C N bs bm hdct sn sub ab col dd k0 k1 k2 k3 k5 newId))
    (hq : R (.ok (.ret (.ref (h.objs.size + 1)))) ⟨(h.push { cls := .type "tuple", data := .seq rest.toArray }).push
      { cls := .ref C, data := .fields #[.ref h.objs.size, .none, .none, .none, .bool false, .none] }, g, d, t, os⟩) (hrest : rest.length ≤ sizeLine := by size_fits) :
    codeAny (model prog w) A (.builtin newId ⟨.ref C :: rest, []⟩) R ⟨h, g, d, t, os⟩ := by
  have hends := F.ends
  refine codeAny_builtinAt F.entry ?_
  unfold Builtin.«BaseException.__new__»
  refine PySem.wpAt_bind ?_
  show PySem.wpAt _ _ _ (stack >>= _) _ _ _
  refine PySem.wpAt_bind (PySem.wpAt_stack fun p below => PySem.wpAt_of_wpAny ?_)
  wp_walk
  refine PySem.wpAt_of_wpAny ?_
  rw [F.owner]
  repeat (first | with_reducible refine wpAny_madeHere_exc F.canon hC ?_ | with_reducible refine wpAny_loadPart_at hC ?_ | (with_reducible refine wpAny_isSubtype_exc hC ?_; first | rw [hcB] | rw [hcA] | rw [hcN]) | wp_step)
  show R _ _
  rw [Heap.size_push]
  exact hq
/-- an exception of a class with an __init__ of its own text -/
theorem exc_make (F : ExcBaseFacts B newId initId bmB) (hcB : (Value.ref C :: bm).contains (.type B) = true) (hcA : (Value.ref C :: bm).contains (.type "AttributeError") = false) (hcN : (Value.ref C :: bm).contains (.type "NameError") = false) {rest : List Value} {fI : Addr}
    (hC : h.get? C = some (excClassObj nm q C N bs bm hdct sn sub ab col dd k0 k1 k2 k3 k5 newId))
    (hi : Looks (model prog w) h (typeLookup (.ref C) "__init__") (some (.ref fI))) (hb : ∀ self, Looks (model prog w) h (bindSpecial (.ref fI) self) (.ref fI, [self]))
    (hq : codeAny (model prog w) (A.under (.builtin "type.__call__" ⟨.ref C :: rest, []⟩)) (.call (.ref fI) ⟨.ref (h.objs.size + 1) :: rest, []⟩) (InitBack (h.objs.size + 1) R) ⟨(h.push { cls := .type "tuple", data := .seq rest.toArray }).push
      { cls := .ref C, data := .fields #[.ref h.objs.size, .none, .none, .none, .bool false, .none] }, g, d, t, os⟩) (hrest : rest.length ≤ sizeLine := by size_fits) :
    codeAny (model prog w) A (.call (.ref C) ⟨rest, []⟩) R ⟨h, g, d, t, os⟩ := by
  have f1 := tc_lookup
  have f2 := tc_bind (.ref C)
  have hT : (⟨h, g, d, t, os⟩ : Shared).TypeIs (.ref C) "type" := ⟨_, hC, rfl⟩
  refine codeAny_of_tree ?_
  show wpAny _ _ (callAny (.ref C) _) _ _ _
  repeat (any_goals (first | assumption | with_reducible refine wpAny_loadPart_at hC ?_ | wp_step))
  refine ⟨rfl, ?_⟩
  refine codeAny_call_builtin_at (Code.quiet_builtin _ (by decide +kernel)) entry_typeCall (wpAny_check_type_call_sub hC ?_)
  repeat (first | with_reducible refine wpAny_loadPart_at hC ?_ | with_reducible refine wpAny_madeBy_exc hC ?_ | wp_step)
  refine codeAny_call_builtin_code (Code.quiet_builtin _ F.quiet) (check_new_own F hcB hC ?_)
  refine exc_new_own F hcB hcA hcN hC ?_ hrest
  show wpAny _ _ _ _ _ _
  have hC₁ := Heap.get?_push_of_some { cls := .ref C, data := .fields #[.ref h.objs.size, .none, .none, .none, .bool false, .none] }
    (Heap.get?_push_of_some { cls := .type "tuple", data := .seq rest.toArray } hC)
  have hget : ((h.push { cls := .type "tuple", data := .seq rest.toArray }).push
      { cls := .ref C, data := .fields #[.ref h.objs.size, .none, .none, .none, .bool false, .none] }).get? (h.objs.size + 1) = some
      { cls := .ref C, data := .fields #[.ref h.objs.size, .none, .none, .none, .bool false, .none] } := by heap_get
  have hcC : (Value.ref C :: bm).contains (.ref C) = true := by simp
  have k : ∀ b o, h.get? b = some o → ((h.push { cls := .type "tuple", data := .seq rest.toArray }).push
      { cls := .ref C, data := .fields #[.ref h.objs.size, .none, .none, .none, .bool false, .none] }).get? b = some o := fun b o e => Heap.get?_push_of_some _ (Heap.get?_push_of_some _ e)
  unfold isInstance
  repeat (first | with_reducible refine wpAny_loadPart_at hget ?_ | (with_reducible refine wpAny_isSubtype_exc hC₁ ?_; rw [hcC]) | wp_step)
  show wpAny _ _ (isSubtype (.ref C) (.ref C)) _ _ _
  refine wpAny_isSubtype_exc hC₁ ?_
  rw [hcC]
  simp only [Bool.not_true, Bool.false_eq_true, if_false]
  unfold callSpecial? specialOf
  repeat (first | with_reducible refine wpAny_loadPart_at hget ?_ | wp_step)
  show wpAny _ _ (typeLookup (.ref C) _) _ _ _
  refine (hi.keeps k).at ?_
  refine wpAny_holding (wpAny_bind (((hb (.ref (h.objs.size + 1))).keeps k).at ?_))
  refine wpAny_bind (wpAny_call (codeAny_mono hq fun r s' z => ?_))
  rcases r with e | (v | _ | _ | _) <;> first | exact z | exact z.elim | skip
  obtain ⟨rfl, z⟩ := z
  exact wpAny_pure (wpAny_pure z)
end
end Mine
end
/-! M25: super().__init__(what) of Exception -/
section
set_option autoImplicit false
set_option linter.unusedVariables false
set_option linter.unusedSimpArgs false
set_option maxRecDepth 100000
namespace Mine
open PySem PySem.W PySem.Calls PyProof.Rows

theorem xi_type : typeOf (.builtin "Exception.__init__") = pure (.type "wrapper_descriptor") := by show builtinType _ = _; rw [builtinType_eq_fast]; kernel_rfl
theorem xi_slot : Slot "wrapper_descriptor" "__get__" "wrapper_descriptor.__get__" :=
  .of (owner := "wrapper_descriptor") (n := "__get__") (by rw [typeLookup_type, builtinLookup_eq_fast]; kernel_rfl) (by decide +kernel) (by decide +kernel) (by decide +kernel)
    (by first | exact .inl (by decide +kernel) | exact .inr (by decide +kernel)) (by rw [isSubtype_type]; kernel_rfl)
theorem xi_entry : entryFor table "wrapper_descriptor.__get__" = some Builtin.«wrapper_descriptor.__get__» := entryFor_of_tree (by kernel_rfl)
theorem xi_args (a b c : Value) : argsOk "wrapper_descriptor.__get__" ⟨[a, b, c], []⟩ := by unfold argsOk; kernel_rfl

section
variable {prog : Program} {w : World} {A : Around} {E : Value → Shared → Prop} {h : Heap} {g : Array GenState} {d : Drawn} {t : Nat} {os : OsState}
abbrev wrapObj (x : Addr) : Obj := { cls := .type "method-wrapper", dict := none, data := .fields #[.builtin "Exception.__init__", .ref x], slots := #[] }
theorem xi_name : ".".intercalate ("Exception.__init__".cutAt '.').dropLast = "Exception" := by decide +kernel
theorem xi_get {x C Ca : Addr} {ox : Obj} {Q : Value → Shared → Prop} (hx : h.get? x = some ox) (hc : ox.cls = .ref C) (hs : Looks (model prog w) h (isSubtype (.ref C) (.type "Exception")) true)
    (hq : Q (.ref h.objs.size) ⟨h.push (wrapObj x), g, d, t, os⟩) :
    wpAny (model prog w) A (call (.builtin "wrapper_descriptor.__get__") [.builtin "Exception.__init__", .ref x, .ref Ca]) Q E ⟨h, g, d, t, os⟩ := by
  refine wpAny_call_entry xi_slot (show Shared.TypeIs _ (.builtin "Exception.__init__") "wrapper_descriptor" from xi_type) xi_entry ?_ (xi_args _ _ _)
  unfold Builtin.«wrapper_descriptor.__get__»
  repeat wp_step
  rw [hc, xi_name]
  refine hs.at ?_
  rw [if_neg (by decide)]
  refine wpAny_pure (wpAny_bind ?_)
  exact wpAny_newObj_type (wpAny_pure ⟨_, rfl, hq⟩) (by size_fits)

theorem xi_super {so D x C : Addr} {ox : Obj} {l₀ l : List Value} {K : Frag} {tk : Tok} {Q : Fin → Shared → Prop}
    (hso : h.get? so = some { cls := .type "super", dict := none, data := .fields #[.ref D, .ref x, .ref C], slots := #[] }) (hno : Looks (model prog w) h (opaqueClassAbove (.ref C)) none)
    (hC : Looks (model prog w) h (mroOf (.ref C)) l₀) (hl : (l₀.dropWhile (· != .ref D)).drop 1 = l) (X : K.In h)
    (hf : alongIn K "__init__" l = some (some (.builtin "Exception.__init__"))) (hx : h.get? x = some ox) (hc : ox.cls = .ref C) (hs : Looks (model prog w) h (isSubtype (.ref C) (.type "Exception")) true) (hxC : x ≠ C)
    (hq : Q (.done (.ret (.ref h.objs.size))) ⟨h.push (wrapObj x), g, d, t, os⟩) :
    wpAny (model prog w) A (Builtin.«super.__getattribute__» ⟨[.ref so, .str "__init__" tk], []⟩) Q E ⟨h, g, d, t, os⟩ := by
  have hlk := xi_slot.lookup
  have hne : (Value.ref x == Value.ref C) = false := by simp [hxC]
  have hn : (("__init__" : Str) == ("__class__" : Str)) = false := by decide +kernel
  have hdt : ({ cls := .type "super", dict := none, data := .fields #[.ref D, .ref x, .ref C], slots := #[] } : Obj).data = .fields #[.ref D, .ref x, .ref C] := rfl
  have f0 : (#[.ref D, .ref x, .ref C] : Array Value)[0]? = some (.ref D) := rfl
  have f1 : (#[.ref D, .ref x, .ref C] : Array Value)[1]? = some (.ref x) := rfl
  have f2 : (#[.ref D, .ref x, .ref C] : Array Value)[2]? = some (.ref C) := rfl
  have ht := xi_type
  unfold Builtin.«super.__getattribute__»
  repeat (first
    | (with_reducible refine wpAny_field hso hdt f0 ?_) | (with_reducible refine wpAny_field hso hdt f1 ?_) | (with_reducible refine wpAny_field hso hdt f2 ?_)
    | (with_reducible refine ks_wpAny_notOpaque hno ?_)
    | (with_reducible refine Looks.at hC ?_; rw [hl])
    | (refine ks_forIn_along X (fun _ _ => rfl) rfl ?_ hf)
    | (with_reducible refine wpAny_of_eq ht ?_)
    | (with_reducible refine xi_get hx hc hs ?_)
    | (simp only [hn, hne, Bool.or_false, Bool.false_eq_true, if_false])
    | wp_step
    | dsimp only)
  all_goals exact hq
end
end Mine
end
/-! M26: super().__init__(what) of Exception, called -/
section
set_option autoImplicit false
set_option linter.unusedVariables false
set_option linter.unusedSimpArgs false
set_option maxRecDepth 100000
namespace Mine
open PySem PySem.W PySem.Calls PyProof.Rows

section
variable {prog : Program} {w : World} {A : Around} {E : Value → Shared → Prop} {h : Heap} {g : Array GenState} {d : Drawn} {t : Nat} {os : OsState}
theorem xi_method {so D x C : Addr} {ox : Obj} {l₀ l : List Value} {K : Frag} {pl : Sem Bool} {Q : Value × List Value → Shared → Prop}
    (hso : h.get? so = some { cls := .type "super", dict := none, data := .fields #[.ref D, .ref x, .ref C], slots := #[] }) (hno : Looks (model prog w) h (opaqueClassAbove (.ref C)) none)
    (hC : Looks (model prog w) h (mroOf (.ref C)) l₀) (hl : (l₀.dropWhile (· != .ref D)).drop 1 = l) (X : K.In h)
    (hf : alongIn K "__init__" l = some (some (.builtin "Exception.__init__"))) (hx : h.get? x = some ox) (hc : ox.cls = .ref C) (hs : Looks (model prog w) h (isSubtype (.ref C) (.type "Exception")) true) (hxC : x ≠ C)
    (hq : Q (.ref h.objs.size, []) ⟨h.push (wrapObj x), g, d, t + 1, os⟩) :
    wpAny (model prog w) A (getMethod (.ref so) "__init__" pl) Q E ⟨h, g, d, t, os⟩ := by
  have hlk := F.ks_slot_super_ga.lookup
  have hcan := F.ks_canon_super_ga
  have hT : ∀ t', (⟨h, g, d, t', os⟩ : Shared).TypeIs (.ref so) "super" := fun _ => ⟨_, hso, rfl⟩
  unfold getMethod
  refine wpAny_bind (wpAny_specialOf (hT _) hlk ?_)
  show wpAny _ _ (if (Manifest.canonical "super.__getattribute__" != "object.__getattribute__") = true then _ else _) _ _ _
  rw [if_pos hcan]
  unfold getAttr getAttrBy
  refine wpAny_bind (wpAny_bind (wpAny_mkText (wpAny_holding (wpAny_bind (wpAny_typeOf (hT _) (wpAny_bind (wpAny_of_eq hlk ?_)))))))
  show wpAny _ _ (getAttrByItsOwn (.ref so) (.str "__init__" t) (.type "super") (.builtin "super.__getattribute__") true false) _ _ _
  unfold getAttrByItsOwn hookBefore callGetattribute boundAndCalled
  refine wpAny_bind (wpAny_of_eq (show (if onTheHeap (.type "super") then typeLookup (.type "super") "__getattr__" else pure none) = pure none from rfl) ?_)
  refine wpAny_bind (wpAny_attempt (wpAny_holding ?_))
  show wpAny _ _ (bindSpecial (.builtin "super.__getattribute__") (.ref so) >>= _) _ _ _
  refine wpAny_bind (wpAny_of_eq (F.ks_slot_super_ga.bind _) ?_)
  refine wpAny_mono (Q := fun v s' => v = .ref h.objs.size ∧ s' = ⟨h.push (wrapObj x), g, d, t + 1, os⟩) (E := fun _ _ => False)
    (wpAny_call_entry F.ks_slot_super_ga (hT _) F.ks_entry_super_ga (xi_super hso hno hC hl X hf hx hc hs hxC ⟨_, rfl, rfl, rfl⟩) (F.ks_gaArgs_super _ _)) (fun v s' hv => ?_) fun _ _ z => z.elim
  obtain ⟨rfl, rfl⟩ := hv
  exact wpAny_pure (wpAny_pure hq)

theorem xi_base {s : Shared} {e t0 : Addr} {ob : Obj} {vs : Array Value} {v : Value} {Q : Fin → Shared → Prop} (he : s.heap.get? e = some ob) (hd : ob.data = .fields vs) (h0 : vs[0]? = some (.ref t0))
    (h : Q (.done (.ret .none)) { s with heap := (s.heap.push { cls := .type "tuple", data := .seq #[v] }).update e (Obj.mapFields (·.setIfInBounds 0 (.ref s.heap.objs.size))) }) :
    wpAny (model prog w) A (Builtin.«BaseException.__init__» ⟨[.ref e, v], []⟩) Q E s := by
  unfold Builtin.«BaseException.__init__»
  dsimp only
  rw [if_neg (by simp)]
  unfold newTuple Builtin.BaseException.bexcPut
  have hsz : 0 < vs.size := (Array.getElem?_eq_some_iff.mp h0).1
  have he₁ := Heap.get?_push_of_some (h := s.heap) { cls := .type "tuple", data := .seq #[v] } he
  refine wpAny_bind (wpAny_newObj_type (wpAny_bind (wpAny_bind (wpAny_field he₁ hd h0 (wpAny_bind (wpAny_setField he₁ hd hsz ?_))))) (by size_fits))
  exact wpAny_letGo (wpAny_pure h)

section
variable {nm q : Str} {C N : Addr} {bs bm : List Value} {hdct : Bool} {sn : List Str} {sub : List Value} {ab : Bool} {col : Option Bool} {dd : Option Addr} {k0 k1 k2 k3 k5 : Option Value} {newId : String}
theorem xi_check {M : Model} {e : Addr} {oe : Obj} {v : Value} {Q : Unit → Shared → Prop} (hcB : (Value.ref C :: bm).contains (.type "Exception") = true)
    (hC : h.get? C = some (excClassObj nm q C N bs bm hdct sn sub ab col dd k0 k1 k2 k3 k5 newId)) (he : h.get? e = some oe) (hcls : oe.cls = .ref C) (hq : Q () ⟨h, g, d, t, os⟩) :
    wpAny M A (checkBoundCall "Exception.__init__" ⟨[.ref e, v], []⟩) Q E ⟨h, g, d, t, os⟩ := by
  have F := PySem.F.excBase_Exception
  unfold checkBoundCall
  simp only [F.initKind, F.initRow]
  repeat (first | (with_reducible refine wpAny_loadPart_at he ?_; rw [hcls]) | with_reducible refine wpAny_loadPart_at hC ?_ | (with_reducible refine wpAny_isSubtype_exc hC ?_; rw [hcB]) | wp_step)
  exact hq
theorem xi_call {e t0 mw : Addr} {ob : Obj} {vs : Array Value} {v : Value} {Q : Value → Shared → Prop} (hcB : (Value.ref C :: bm).contains (.type "Exception") = true)
    (hC : h.get? C = some (excClassObj nm q C N bs bm hdct sn sub ab col dd k0 k1 k2 k3 k5 newId)) (hm : h.get? mw = some (wrapObj e)) (he : h.get? e = some ob) (hcls : ob.cls = .ref C) (hd : ob.data = .fields vs) (h0 : vs[0]? = some (.ref t0))
    (hq : Q .none ⟨(h.push { cls := .type "tuple", data := .seq #[v] }).update e (Obj.mapFields (·.setIfInBounds 0 (.ref h.objs.size))), g, d, t, os⟩) :
    wpAny (model prog w) A (call (.ref mw) [v]) Q E ⟨h, g, d, t, os⟩ := by
  have F := PySem.F.excBase_Exception
  refine wpAny_call (codeAny_of_tree ?_)
  show wpAny _ A.in1 (callAny (.ref mw) _) _ _ _
  unfold callAny
  refine wpAny_bind (wpAny_load hm ?_)
  show wpAny _ A.in1 (checkBoundCall "Exception.__init__" ⟨[.ref e, v], []⟩ >>= fun _ => again (.builtin "Exception.__init__" ⟨[.ref e, v], []⟩)) _ _ _
  refine wpAny_bind (xi_check hcB hC he hcls ?_)
  refine wpAny_pure ⟨Code.quiet_builtin _ (by decide +kernel), codeAny_builtin F.initEntry ?_⟩
  exact xi_base he hd h0 hq
end
end
end Mine
end
/-! M27: the first field of an object without a dict -/
section
set_option autoImplicit false
set_option linter.unusedVariables false
set_option linter.unusedSimpArgs false
set_option maxRecDepth 100000
namespace Mine
open PySem PySem.W PySem.Calls PyProof.Rows

section
variable {prog : Program} {w : World} {A : Around} {E : Value → Shared → Prop} {s : Shared} {K : Frag} {C x : Addr}
noncomputable def withDict (d : Addr) (o : Obj) : Obj := { o with dict := some d }
theorem osa_fresh {R : Result → Shared → Prop} {vs : Array Value} {name : Str} {tk : Tok} {v : Value} (X : K.In s.heap)
    (hx : s.heap.get? x = some { cls := .ref C, dict := none, data := .fields vs }) (hp : plainOverX K C = true) (ht : takerIn K C name = some none) (hh : hasDictIn K C = true)
    (h : R (.ok (.ret .none)) { s with heap := ((s.heap.push { cls := .type "dict", data := .dict #[] }).update x (withDict s.heap.objs.size)).update s.heap.objs.size (Obj.putName name (PyData.keyHash w.params name) (.str name s.toks) v), toks := s.toks + 1 }) :
    codeAny (model prog w) A (.call (.builtin "object.__setattr__") ⟨[.ref x, .str name tk, v], []⟩) R s := by
  refine osa_openX (od := none) X ⟨hx, rfl, rfl, trivial⟩ hp ht fun b => ?_
  obtain ⟨cd, hc, hd'⟩ := any_some hh
  refine wpAny_bind (wpAny_pure (wpAny_bind (wpAny_bind (wpAny_loadPart hx (wpAny_bind ((looks_clsIn X hc).here ?_))))))
  rw [hd']
  show wpAny _ _ (alloc { cls := .type "dict", data := .dict #[] } >>= fun d => update x (fun o => { o with dict := some d }) >>= fun _ => pure (some d)) _ _ s
  refine wpAny_bind (wpAny_alloc (wpAny_bind ?_))
  have hx' := Heap.get?_push_of_some (h := s.heap) { cls := .type "dict", data := .dict #[] } hx
  refine wpAny_update hx' (wpAny_pure ?_)
  have hne : x ≠ s.heap.objs.size := Nat.ne_of_lt (Heap.lt_size hx)
  have D : ((s.heap.push { cls := .type "dict", data := .dict #[] }).update x (withDict s.heap.objs.size)).get? s.heap.objs.size = some { cls := .type "dict", dict := none, data := .dict ([] : List DictEntry).toArray 0, slots := #[] } := by
    rw [Heap.get?_update_other _ _ hne]
    exact Heap.get?_push_size _ rfl
  show wpAny _ _ (Builtin.ObjectAttr.storeInDict s.heap.objs.size (.str name tk) name v) _ _ _
  refine wpAny_bind (wpAny_pure (wpAny_bind ?_))
  unfold nsSet
  refine wpAny_bind (wpAny_bind (wpAny_askSetting (wpAny_pure (wpAny_bind (wpAny_mkText (wpAny_bind (wpAny_loadPart D ?_)))))))
  dsimp only
  have c : (!([] : List DictEntry).toArray.any (·.key.isStr name) && ([] : List DictEntry).toArray.any (·.refKey)) = false := by simp
  rw [aRefKeyMayBeTheName_at, c]
  refine wpAny_updatePart D ?_
  have e := putName_at name (PyData.keyHash w.params name) (.str name s.toks) v (.type "dict") none #[] [] 0
  have D' := Heap.get?_update_self (Obj.putName name (PyData.keyHash w.params name) (.str name s.toks) v) D (by rw [e]; rfl)
  refine wpAny_bind (wpAny_lookBehind D' (by rw [e]; exact pastItsLine_dict (by rw [List.size_toArray, sizeLine_eq]; simp [putL])) ?_)
  exact wpAny_pure h
end
end Mine
end
/-! M28: an __init__ of one's own that calls super().__init__(what) -/
section
set_option autoImplicit false
set_option linter.unusedVariables false
set_option linter.unusedSimpArgs false
set_option maxRecDepth 100000
namespace Mine
open PySem PySem.W PySem.Calls PyProof.Rows

structure SupAt (W : Wd) (K : Frag) (f D cc : Addr) (fd : FuncData) (body : List Stmt) : Prop where
  obj : ∃ c d sl, K.lookup f = some ⟨c, d, .func fd, sl⟩
  hbody : fd.body = .stmts body
  clo : fd.closure = [(("__class__" : Str), cc)]
  glob : fd.globals = mainGlobals
  bi : fd.builtins = builtinsNs
  kind : fd.scope.kind = .function
  co : fd.scope.isCoroutine = false
  gen : fd.scope.isGenerator = false
  cell : ∃ c d sl, K.lookup cc = some ⟨c, d, .cell (some (.ref D)), sl⟩
  code : codeIn K fd.code fd.qualname = true
  cfile : ∃ cda c d vs sl file tf, fd.code = .ref cda ∧ K.lookup cda = some ⟨c, d, .fields vs, sl⟩ ∧ vs[2]? = some (.str file tf) ∧ ((W.prog.main.file : Str) == file) = true
  self : (fd.params.posonlyargs ++ fd.params.args).head?.map (·.arg) = some ("self" : Str)
  ks : fd.scope.names.lookup ("super" : Str) = some .globalImplicit
  kc : fd.scope.names.lookup ("__class__" : Str) = some .free
  ka : fd.scope.names.lookup ("self" : Str) = some .local
  ko : fd.scope.names.lookup ("what" : Str) = some .local
  nocell : ∀ x ∈ fd.scope.names, x.2 ≠ .cell
  top : (W.prog.main.scope.names.lookup ("super" : Str)).isSome = false
  sg : W.mg ("super" : Str) = none
  sb : W.mb ("super" : Str) = some (.type "super")
  cd : ∃ cd, clsIn K D = some cd
  op : nsIn K cStatics "thirdparty.any" = some none

section
variable {W : Wd} {K : Frag} {A : Around} {E : Value → Shared → Prop} {s : Shared} {f D cc : Addr} {fd : FuncData} {body : List Stmt}
theorem sup_base (wk : WK W K) (S : SupAt W K f D cc fd body) {L e C : Addr} {oe : Obj} {m : Str → Option Value} {p0 p1 : Pos} {whole : Sem Value} {Q : Value → Shared → Prop} (hb : W.b0.StaysIn s.heap) (ns : s.heap.Ns L m) (hm : m "self" = some (.ref e))
    (he : s.heap.get? e = some oe) (hc : oe.cls = .ref C) (hno : ∀ c, oe.data ≠ .cls c) (hsub : mroIn K C (.ref D) = some true)
    (h : ∀ h', h'.get? s.heap.objs.size = some (ks_superObj D e C) → KA s.heap h' → Q (.ref s.heap.objs.size) { s with heap := h' }) :
    PySem.wpAt (model W.prog W.w) A (.func body (callEnv fd L f)) (attributeBase (.Call (.Name "super" p0) [] [] p1) "__init__" (callEnv fd L f) whole) Q E s := by
  obtain ⟨oc, od, osl, hf⟩ := S.obj
  obtain ⟨cl, cld, csl, hcell⟩ := S.cell
  obtain ⟨cda, ccl, cdd, vs, ccs, file, tf, hco, hcode, hvs, hfile⟩ := S.cfile
  obtain ⟨cdD, hD⟩ := S.cd
  obtain ⟨ar, har, hself⟩ := Option.map_eq_some_iff.mp S.self
  have X : K.In s.heap := wk.kin.keeps hb
  have hk : (callEnv fd L f).scope.kind = .function := S.kind
  obtain ⟨hh, g, d, t, os⟩ := s
  obtain ⟨oD, hD1, hD2⟩ : ∃ oD, hh.get? D = some oD ∧ oD.data = .cls cdD := by
    unfold clsIn at hD
    split at hD
    · rename_i c d cd' sl ho
      cases hD
      exact ⟨_, X _ _ ho, rfl⟩
    · cases hD
  refine ks_wpAt_super_base (env := callEnv fd L f) S.ks S.kc (by decide +kernel) rfl (X _ _ hf) rfl har hco (X _ _ hcode) rfl hvs hfile S.top ?_
  refine ks_loadName_global hk S.ks (loadGlobal_builtin (env := callEnv fd L f) (by show Heap.Ns _ fd.globals _; rw [S.glob]; exact wk.g.keeps hb) S.sg (by show Heap.Ns _ fd.builtins _; rw [S.bi]; exact wk.b.keeps hb) S.sb ⟨rfl, ?_⟩)
  refine wpAny_loadName_free hk S.kc (c := cc) (by show fd.closure.lookup _ = _; rw [S.clo]; rfl) ⟨_, X _ _ hcell, rfl⟩ ?_
  rw [hself]
  refine wpAny_loadName_local hk S.ka ns hm ?_
  refine ks_wpAny_isType_cls hD1 hD2 ⟨rfl, ?_⟩
  exact ks_wpAny_call_super hD1 hD2 he hc hno (looks_mroIn X hsub) fun h' e k => h h' e k

theorem keeps_wrap {M : Model} {q e : Addr} (h : Heap) (X : h.get? q = some (wrapObj e)) : ∃ k, (k = Keeper.frame ∨ k = Keeper.machine ∨ k = Keeper.boundFrame) ∧ Looks M h (keeperOf (.ref q)) k := by
  refine ⟨.machine, .inr (.inl rfl), (Looks.ld (part := none) X).andThen ?_⟩
  exact Looks.of_pure rfl
theorem splice_name {M : Model} {env : Env} {x : Str} {pos cp : Pos} {L : Addr} {m : Str → Option Value} {v : Value} {Q : List Value → Shared → Prop} (hk : env.scope.kind = .function) (hl : env.kindOf x = some .local) (hL : env.locals = L) (ns : s.heap.Ns L m) (hv : m x = some v) (hd : (x == ("__debug__" : Str)) = false) (h : Q [v] s) :
    wpAny M A (spliced (backTo cp (starEach [.Name x pos] env))) Q E s := by
  subst hL
  show wpAny M A (spliced [(false, eval (.Name x pos) env)]) Q E s
  unfold spliced
  refine wpAny_bind (wpAny_Name (wpAny_loadName_local hk hl ns hv ?_) hd)
  repeat wp_step
  exact h
end
end Mine
end
/-! M29: HeapError.__init__ -/
section
set_option autoImplicit false
set_option linter.unusedVariables false
set_option linter.unusedSimpArgs false
set_option maxRecDepth 100000
namespace Mine
open PySem PySem.W PySem.Calls PyProof.Rows

section
variable {W : Wd} {K : Frag} {A : Around} {E : Value → Shared → Prop} {s : Shared} {f D cc : Addr} {fd : FuncData} {body : List Stmt}
variable {nm q : Str} {C N : Addr} {bs bm : List Value} {hdct : Bool} {sn : List Str} {sub : List Value} {ab : Bool} {col : Option Bool} {dd : Option Addr} {k0 k1 k2 k3 k5 : Option Value} {newId : String}
/-- what must be known of the exception's class -/
structure ExcK (K : Frag) (C D : Addr) : Prop where
  sub : mroIn K C (.ref D) = some true
  base : mroIn K C (.type "Exception") = some true
  sa : findIn K (.ref C) "__setattr__" = some (some (.builtin "object.__setattr__"))
  po : plainOverX K C = true
  tw : takerIn K C "what" = some none
  ts : takerIn K C "spot" = some none
  hd : hasDictIn K C = true
noncomputable def ent (p : Params) (n : Str) (t : Tok) (v : Value) : List DictEntry := putL n (PyData.keyHash p n) (.str n t) v []
theorem meth_walkAt {M : Model} {c : Code} {env : Env} {o : Expr} {name : Str} {apos pos : Pos} {args : List Expr} {Q : Value → Shared → Prop}
    (hline : (apos.endLine == pos.line) = true) (hn : args.length < 20) (hp : (backTo pos (starEach args env)).any (·.1) = false)
    (h : PySem.wpAt M A c (attributeBase o name env (eval o env)) (fun ov s₁ => ∀ pl, wpAny M A (getMethod ov name pl) (fun f s₂ => wpAny M A (callWith pos f.1 f.2 (backTo pos (starEach args env)) []) Q E s₂) E s₁) E s) :
    PySem.wpAt M A c (eval (.Call (.Attribute o name apos) args [] pos) env) Q E s := by
  rw [arm_eval_Call]
  refine PySem.wpAt_bind (PySem.wpAt_mono h (fun ov s₁ h₁ => PySem.wpAt_of_wpAny ?_) fun _ _ e => e)
  refine wpAny_bind (wpAny_standAt ?_)
  have hform : methodCallForm (args.length + ([] : List Keyword).length) (backTo pos (starEach args env)) (backToKw pos (keywordEach [] env)) = true := by
    unfold methodCallForm
    have h1 : (backTo pos (starEach args env)).all (fun x => !x.1) = true := by
      rw [List.all_eq_not_any_not]
      simpa using hp
    rw [h1]
    simp [backToKw, keywordEach]
    exact Nat.lt_of_lt_of_le hn (by decide)
  have hpos : methodCallPos true o env apos pos = pure pos := by unfold methodCallPos; simp [hline]
  unfold methodCall
  rw [hform]
  unfold calleeOf
  rw [if_pos rfl]
  refine wpAny_bind (wpAny_holding (wpAny_mono (h₁ _) (fun f s₂ h₂ => ?_) fun _ _ e => e))
  exact wpAny_bind (wpAny_of_eq hpos h₂)
theorem not_inter {fd : FuncData} {L a : Addr} (h : fd.scope.kind = .function) : interactive (callEnv fd L a) = false := by
  unfold interactive
  rw [show (callEnv fd L a).scope = fd.scope from rfl, h]
  rfl
theorem init0 (wk : WK W K) {p0 p1 ap p2 cp ep q0 q1 q2 q3 : Pos} (S : SupAt W K f D cc fd [.Expr (.Call (.Attribute (.Call (.Name "super" p0) [] [] p1) "__init__" ap) [.Name "what" p2] [] cp) ep, .Assign [.Attribute (.Name "self" q0) "what" q1] (.Name "what" q2) q3])
    (kc : ExcK K C D) {cd : ClassData} (hcd : clsIn K C = some cd) {l : List Value} (hl : (cd.mro.dropWhile (· != .ref D)).drop 1 = l) (hf : alongIn K "__init__" l = some (some (.builtin "Exception.__init__")))
    (hline : (ap.endLine == cp.line) = true) (hC : K.lookup C = some (excClassObj nm q C N bs bm hdct sn sub ab col dd k0 k1 k2 k3 k5 newId)) (hcB : (Value.ref C :: bm).contains (.type "Exception") = true)
    (hbind : ∀ a b, bindArgs fd ⟨[a, b], []⟩ = pure [(("self" : Str), a), (("what" : Str), b)]) {R : Result → Shared → Prop} {e t0 : Addr} {vs : Array Value} {v : Value}
    (hdep : A.depth < recursionLimit) (hb : W.b0.StaysIn s.heap) (he : s.heap.get? e = some { cls := .ref C, dict := none, data := .fields vs }) (h0 : vs[0]? = some (.ref t0)) (heC : e ≠ C) (heb : W.b0.get? e = none)
    (h : ∀ h' tk d t v0, (∀ b o, s.heap.get? b = some o → b ≠ e → h'.get? b = some o) → h'.get? e = some { cls := .ref C, dict := some d, data := .fields (vs.setIfInBounds 0 v0) } →
      h'.get? d = some { cls := .type "dict", dict := none, data := .dict (ent W.w.params "what" t v).toArray (putN "what" [] 0), slots := #[] } → s.heap.get? d = none → R (.ok (.ret .none)) { s with heap := h', toks := tk }) :
    codeAny (model W.prog W.w) A (.call (.ref f) ⟨[.ref e, v], []⟩) R s := by
  obtain ⟨oc, od, osl, hfo⟩ := S.obj
  have X : K.In s.heap := wk.kin.keeps hb
  refine ks_codeAny_call_defAt (fd := fd) (binds := [(("self" : Str), .ref e), (("what" : Str), v)]) hdep (X _ _ hfo) rfl (wk.nolimit.keeps hb) (codeRec_of X S.code) S.hbody (BindsTo.of_eq (hbind _ _)) S.nocell (fun x hx => ?_) (fun h₀ ns hk₀ => ?_) S.co S.gen S.kind
  · simp only [List.mem_cons, List.not_mem_nil, or_false] at hx
    rcases hx with rfl | rfl
    · exact S.ka
    · exact S.ko
  have hkf : (callEnv fd s.heap.objs.size f).scope.kind = .function := S.kind
  have hb₀ : W.b0.StaysIn h₀ := fun b o z => hk₀ b o (hb b o z)
  have hself : (fun x => ([("self", .ref e), ("what", v)] : List (Str × Value)).reverse.lookup x) ("self" : Str) = some (.ref e) := by rfl
  have hwhat : (fun x => ([("self", .ref e), ("what", v)] : List (Str × Value)).reverse.lookup x) ("what" : Str) = some v := by rfl
  generalize (fun x => ([("self", .ref e), ("what", v)] : List (Str × Value)).reverse.lookup x) = m at ns hself hwhat
  have he₀ := hk₀ _ _ he
  refine ks_wpAt_execs_cons ?_
  refine ks_wpAt_Expr_any (meth_walkAt hline (by show 1 < 20; decide) rfl (sup_base (s := { s with heap := h₀, toks := _ }) wk S hb₀ ns hself he₀ rfl (fun c z => by cases z) kc.sub fun h₁ hso k₁ pl => ?_)) (not_inter S.kind)
  have hb₁ : W.b0.StaysIn h₁ := fun b o z => k₁ b o (hb₀ b o z)
  have X₁ : K.In h₁ := wk.kin.keeps hb₁
  refine xi_method hso (looks_opaque X₁ S.op) (l₀ := cd.mro) ?_ hl X₁ hf (k₁ _ _ he₀) rfl (looks_mroIn X₁ kc.base) heC ?_
  · exact fun A Q E s k q => wpAny_bind ((looks_clsIn X₁ hcd) A _ E s k (wpAny_pure q))
  have k₂ : KA h₁ (h₁.push (wrapObj e)) := KA.push _ _
  have kk₂ : KA h₀ (h₁.push (wrapObj e)) := k₁.trans k₂
  have hw : (h₁.push (wrapObj e)).get? h₁.objs.size = some (wrapObj e) := Heap.get?_push_size _ rfl
  have he₂ := kk₂ _ _ he₀
  have ns₂ := ns.keeps kk₂
  refine callWith_of (P := fun hh => hh.get? h₁.objs.size = some (wrapObj e)) rfl (fun hh z => keeps_wrap hh z) (evalArgs_plain ?_)
  refine splice_name (s := { s with heap := h₁.push (wrapObj e), toks := _ }) hkf S.ko rfl ns₂ hwhat (by decide +kernel) ⟨hw, ?_⟩
  have hC₂ : (h₁.push (wrapObj e)).get? C = some _ := X₁.keeps k₂ _ _ hC
  refine xi_call hcB hC₂ hw he₂ rfl rfl h0 ?_
  generalize hh₃ : ((h₁.push (wrapObj e)).push { cls := .type "tuple", data := .seq #[v] }).update e (Obj.mapFields (·.setIfInBounds 0 (.ref (h₁.push (wrapObj e)).objs.size))) = h₃
  have k₃ : ∀ b o, s.heap.get? b = some o → b ≠ e → h₃.get? b = some o := fun b o z hbe => by
    rw [← hh₃, Heap.get?_update_other _ _ (Ne.symm hbe)]
    exact Heap.get?_push_of_some _ (kk₂ _ _ (hk₀ _ _ z))
  have k₃' : ∀ b o, h₀.get? b = some o → b ≠ e → h₃.get? b = some o := fun b o z hbe => by
    rw [← hh₃, Heap.get?_update_other _ _ (Ne.symm hbe)]
    exact Heap.get?_push_of_some _ (kk₂ _ _ z)
  have he₃ : h₃.get? e = some { cls := .ref C, dict := none, data := .fields (vs.setIfInBounds 0 (.ref (h₁.push (wrapObj e)).objs.size)) } := by
    rw [← hh₃]
    exact Heap.get?_update_self _ (Heap.get?_push_of_some _ he₂) rfl
  have hb₃ : W.b0.StaysIn h₃ := fun b o z => k₃ b o (hb b o z) fun q => by rw [q, heb] at z; cases z
  have X₃ : K.In h₃ := wk.kin.keeps hb₃
  have hLe : s.heap.objs.size ≠ e := fun z => absurd (Heap.lt_size he) (by rw [z]; exact Nat.lt_irrefl _)
  have ns₃ : h₃.Ns s.heap.objs.size m := by
    obtain ⟨oL, es, ep', hL, r⟩ := ns
    exact ⟨oL, es, ep', k₃' _ _ hL hLe, r⟩
  refine ks_wpAt_execs_cons (PySem.wpAt_of_wpAny (plainObj_wpAny_Assign_Attribute (wpAny_Name (wpAny_loadName_local hkf S.ko ns₃ hwhat (wpAny_Name (wpAny_loadName_local hkf S.ka ns₃ hself ?_) (by decide +kernel))) (by decide +kernel))))
  refine set_plain (od := none) X₃ ⟨he₃, rfl, rfl, trivial⟩ kc.sa (osa_fresh X₃ he₃ kc.po kc.tw kc.hd ?_)
  show PySem.wpAt _ _ _ (execs [] _) _ _ _
  refine PySem.wpAt_of_wpAny (show wpAny _ _ (pure Flow.next) _ _ _ from wpAny_pure ?_)
  have hd : h₃.get? h₃.objs.size = none := fresh_none _
  have hde : h₃.objs.size ≠ e := fun z => by rw [z, he₃] at hd; cases hd
  have D : ((h₃.push { cls := .type "dict", data := .dict #[] }).update e (withDict h₃.objs.size)).get? h₃.objs.size = some { cls := .type "dict", dict := none, data := .dict ([] : List DictEntry).toArray 0, slots := #[] } := by
    rw [Heap.get?_update_other _ _ (Ne.symm hde)]
    exact Heap.get?_push_size _ rfl
  refine h _ _ h₃.objs.size ?tq (.ref (h₁.push (wrapObj e)).objs.size) (fun b o z hbe => ?_) ?_ ?_ ?_
  rotate_left
  · have hbd : h₃.objs.size ≠ b := fun q => by rw [← q, ] at z; have := k₃ _ _ z hde; rw [hd] at this; cases this
    rw [Heap.get?_update_other _ _ hbd, Heap.get?_update_other _ _ (Ne.symm hbe)]
    exact Heap.get?_push_of_some _ (k₃ b o z hbe)
  · rw [Heap.get?_update_other _ _ hde]
    exact Heap.get?_update_self _ (Heap.get?_push_of_some _ he₃) rfl
  · refine (Heap.get?_update_self _ D (by rw [putName_at]; rfl)).trans ?_
    rw [putName_at]
    rfl
  · cases z : s.heap.get? h₃.objs.size with
    | none => rfl
    | some o => have := k₃ _ _ z hde; rw [hd] at this; cases this
end
end Mine
end
/-! M30: TextFault.__init__ -/
section
set_option autoImplicit false
set_option linter.unusedVariables false
set_option linter.unusedSimpArgs false
set_option maxRecDepth 100000
namespace Mine
open PySem PySem.W PySem.Calls PyProof.Rows

section
variable {W : Wd} {K : Frag} {A : Around} {E : Value → Shared → Prop} {s : Shared} {f D cc : Addr} {fd : FuncData} {body : List Stmt} {f' D' cc' : Addr} {fd' : FuncData}
variable {nm q : Str} {C N : Addr} {bs bm : List Value} {hdct : Bool} {sn : List Str} {sub : List Value} {ab : Bool} {col : Option Bool} {dd : Option Addr} {k0 k1 k2 k3 k5 : Option Value} {newId : String}
theorem getL_put (name : Str) (hsh : Int) (t : Tok) (v : Value) : ∀ es : List DictEntry, getL name (putL name hsh (.str name t) v es) = some (some v)
  | [] => by simp [putL, getL, Value.isStr]
  | a :: r => by
    simp only [putL]
    split
    · rename_i h
      unfold getL
      rw [List.find?_cons]
      simp [h]
    · rename_i h
      have ih := getL_put name hsh t v r
      have h' : a.key.isStr name = false := by simpa using h
      unfold getL at ih ⊢
      rw [List.find?_cons, h']
      revert ih
      cases z : List.find? (fun x => x.key.isStr name) (putL name hsh (.str name t) v r) with
      | some en => exact fun ih => ih
      | none => intro ih; dsimp only at ih; split at ih <;> cases ih
theorem init1 (wk : WK W K) {p0 p1 ap p2 cp ep q0 q1 q2 q3 : Pos} {P0 P1 AP P2 CP EP Q0 Q1 Q2 Q3 : Pos}
    (S : SupAt W K f D cc fd [.Expr (.Call (.Attribute (.Call (.Name "super" p0) [] [] p1) "__init__" ap) [.Name "what" p2] [] cp) ep, .Assign [.Attribute (.Name "self" q0) "what" q1] (.Name "what" q2) q3])
    (S' : SupAt W K f' D' cc' fd' [.Expr (.Call (.Attribute (.Call (.Name "super" P0) [] [] P1) "__init__" AP) [.Name "what" P2] [] CP) EP, .Assign [.Attribute (.Name "self" Q0) "spot" Q1] (.Name "spot" Q2) Q3])
    (kc : ExcK K C D) (hsub' : mroIn K C (.ref D') = some true) {cd : ClassData} (hcd : clsIn K C = some cd) {l l' : List Value} (hl : (cd.mro.dropWhile (· != .ref D)).drop 1 = l) (hf : alongIn K "__init__" l = some (some (.builtin "Exception.__init__")))
    (hl' : (cd.mro.dropWhile (· != .ref D')).drop 1 = l') (hf' : alongIn K "__init__" l' = some (some (.ref f))) (hfn : fnIn K f = true) (hft : ∃ o, K.lookup f = some o ∧ o.cls = .type "function")
    (hline : (ap.endLine == cp.line) = true) (hline' : (AP.endLine == CP.line) = true) (hC : K.lookup C = some (excClassObj nm q C N bs bm hdct sn sub ab col dd k0 k1 k2 k3 k5 newId)) (hcB : (Value.ref C :: bm).contains (.type "Exception") = true)
    (hks : fd'.scope.names.lookup ("spot" : Str) = some .local)
    (hbind : ∀ a b, bindArgs fd ⟨[a, b], []⟩ = pure [(("self" : Str), a), (("what" : Str), b)]) (hbind' : ∀ a b c, bindArgs fd' ⟨[a, b, c], []⟩ = pure [(("self" : Str), a), (("what" : Str), b), (("spot" : Str), c)]) {R : Result → Shared → Prop} {e t0 : Addr} {vs : Array Value} {v u : Value}
    (hdep : A.depth + 1 < recursionLimit) (hb : W.b0.StaysIn s.heap) (he : s.heap.get? e = some { cls := .ref C, dict := none, data := .fields vs }) (h0 : vs[0]? = some (.ref t0)) (heC : e ≠ C) (heb : W.b0.get? e = none)
    (h : ∀ h' tk d t es n v0, (∀ b o, s.heap.get? b = some o → b ≠ e → h'.get? b = some o) → h'.get? e = some { cls := .ref C, dict := some d, data := .fields (vs.setIfInBounds 0 v0) } →
      h'.get? d = some { cls := .type "dict", dict := none, data := .dict (List.toArray (putL "spot" (PyData.keyHash W.w.params "spot") (.str "spot" t) u es)) n, slots := #[] } → s.heap.get? d = none → R (.ok (.ret .none)) { s with heap := h', toks := tk }) :
    codeAny (model W.prog W.w) A (.call (.ref f') ⟨[.ref e, v, u], []⟩) R s := by
  obtain ⟨oc, od, osl, hfo⟩ := S'.obj
  have X : K.In s.heap := wk.kin.keeps hb
  refine ks_codeAny_call_defAt (fd := fd') (binds := [(("self" : Str), .ref e), (("what" : Str), v), (("spot" : Str), u)]) (by exact Nat.lt_of_succ_lt hdep) (X _ _ hfo) rfl (wk.nolimit.keeps hb) (codeRec_of X S'.code) S'.hbody (BindsTo.of_eq (hbind' _ _ _)) S'.nocell (fun x hx => ?_) (fun h₀ ns hk₀ => ?_) S'.co S'.gen S'.kind
  · simp only [List.mem_cons, List.not_mem_nil, or_false] at hx
    rcases hx with rfl | rfl | rfl
    · exact S'.ka
    · exact S'.ko
    · exact hks
  have hkf : (callEnv fd' s.heap.objs.size f').scope.kind = .function := S'.kind
  have hb₀ : W.b0.StaysIn h₀ := fun b o z => hk₀ b o (hb b o z)
  have hself : (fun x => ([(("self" : Str), .ref e), (("what" : Str), v), (("spot" : Str), u)] : List (Str × Value)).reverse.lookup x) ("self" : Str) = some (.ref e) := by rfl
  have hwhat : (fun x => ([(("self" : Str), .ref e), (("what" : Str), v), (("spot" : Str), u)] : List (Str × Value)).reverse.lookup x) ("what" : Str) = some v := by rfl
  have hspot : (fun x => ([(("self" : Str), .ref e), (("what" : Str), v), (("spot" : Str), u)] : List (Str × Value)).reverse.lookup x) ("spot" : Str) = some u := by rfl
  generalize (fun x => ([(("self" : Str), .ref e), (("what" : Str), v), (("spot" : Str), u)] : List (Str × Value)).reverse.lookup x) = m at ns hself hwhat hspot
  have he₀ := hk₀ _ _ he
  refine ks_wpAt_execs_cons ?_
  refine ks_wpAt_Expr_any (meth_walkAt hline' (by show 1 < 20; decide) rfl (sup_base (s := { s with heap := h₀, toks := _ }) wk S' hb₀ ns hself he₀ rfl (fun c z => by cases z) hsub' fun h₁ hso k₁ pl => ?_)) (not_inter S'.kind)
  have hb₁ : W.b0.StaysIn h₁ := fun b o z => k₁ b o (hb₀ b o z)
  have X₁ : K.In h₁ := wk.kin.keeps hb₁
  obtain ⟨of, hof, hofc⟩ := hft
  refine ks_wpAny_getMethod_super hso (looks_opaque X₁ S'.op) (l₀ := cd.mro) ?_ hl' X₁ hf' (X₁ _ _ hof) hofc heC (by decide +kernel) ?_
  · exact fun A Q E s k q => wpAny_bind ((looks_clsIn X₁ hcd) A _ E s k (wpAny_pure q))
  generalize hmo : ({ cls := .type "method", data := .fields #[.ref f, .ref e] } : Obj) = mo
  have k₂ : KA h₁ (h₁.push mo) := KA.push _ _
  have kk₂ : KA h₀ (h₁.push mo) := k₁.trans k₂
  have hw : (h₁.push mo).get? h₁.objs.size = some mo := Heap.get?_push_size _ (by rw [← hmo]; rfl)
  have he₂ := kk₂ _ _ he₀
  have ns₂ := ns.keeps kk₂
  have hb₂ : W.b0.StaysIn (h₁.push mo) := fun b o z => k₂ b o (hb₁ b o z)
  have X₂ : K.In (h₁.push mo) := wk.kin.keeps hb₂
  refine callWith_of (P := MethP K h₁.objs.size f (.ref e)) rfl (keeps_M hfn) (evalArgs_plain ?_)
  refine splice_name (s := { s with heap := h₁.push mo, toks := _ }) hkf S'.ko rfl ns₂ hwhat (by decide +kernel) ⟨⟨by rw [hw, ← hmo], X₂⟩, ?_⟩
  refine wpAny_call (method_call (f := .ref f) (self := .ref e) (by rw [hw, ← hmo]) ?_)
  refine init0 (s := { s with heap := h₁.push mo, toks := _ }) wk S kc hcd hl hf hline hC hcB hbind (by show A.depth + 1 < _; exact hdep) hb₂ he₂ h0 heC heb (fun h₃ tk d t v0 k₃ he₃ hd₃ hdn => ?_)
  have hLe : s.heap.objs.size ≠ e := fun z => absurd (Heap.lt_size he) (by rw [z]; exact Nat.lt_irrefl _)
  have k₃' : ∀ b o, h₀.get? b = some o → b ≠ e → h₃.get? b = some o := fun b o z hbe => k₃ b o (kk₂ b o z) hbe
  have hb₃ : W.b0.StaysIn h₃ := fun b o z => k₃' b o (hb₀ b o z) fun q => by rw [q, heb] at z; cases z
  have X₃ : K.In h₃ := wk.kin.keeps hb₃
  have ns₃ : h₃.Ns s.heap.objs.size m := by
    obtain ⟨oL, es, ep', hL, r⟩ := ns
    exact ⟨oL, es, ep', k₃' _ _ hL hLe, r⟩
  refine ks_wpAt_execs_cons (PySem.wpAt_of_wpAny (plainObj_wpAny_Assign_Attribute (wpAny_Name (wpAny_loadName_local hkf hks ns₃ hspot (wpAny_Name (wpAny_loadName_local hkf S'.ka ns₃ hself ?_) (by decide +kernel))) (by decide +kernel))))
  have hde : d ≠ e := fun z => by rw [z, he₂] at hdn; cases hdn
  refine set_raw (s := { s with heap := h₃, toks := _ }) X₃ (ox := { cls := .ref C, dict := some d, data := .fields (vs.setIfInBounds 0 v0) }) (dx := d) ⟨he₃, rfl, rfl, hd₃⟩ rfl kc.sa kc.po kc.ts kc.hd ?_ ?_ ?_
  · unfold ent
    simp only [putL]
    rfl
  · unfold ent
    simp [putL]
  refine PySem.wpAt_of_wpAny (show wpAny _ _ (pure Flow.next) _ _ _ from wpAny_pure ?_)
  refine h _ _ d ?tq (ent W.w.params "what" t v) ?nq v0 (fun b o z hbe => ?_) ?_ ?_ ?_
  rotate_left 2
  · have hbd : d ≠ b := fun q => by rw [← q] at z; have := kk₂ _ _ (hk₀ _ _ z); rw [hdn] at this; cases this
    rw [Heap.get?_update_other _ _ hbd]
    exact k₃' b o (hk₀ _ _ z) hbe
  · rw [Heap.get?_update_other _ _ hde]
    exact he₃
  · refine (Heap.get?_update_self _ hd₃ (by rw [putName_at]; rfl)).trans ?_
    rw [putName_at]
  · cases z : s.heap.get? d with
    | none => rfl
    | some o => have := kk₂ _ _ (hk₀ _ _ z); rw [hdn] at this; cases this
end
end Mine
end
/-! M31: an exception of one's own: RaiseOk -/
section
set_option autoImplicit false
set_option linter.unusedVariables false
set_option linter.unusedSimpArgs false
set_option maxRecDepth 100000
namespace Mine
open PySem PySem.W PySem.Calls PyProof.Rows

/-- the class object of an exception's class, and the __init__ that it reaches -/
structure MakeAt (K : Frag) (C D fI f : Addr) : Prop where
  obj : ∃ nm q N bs bm hdct sn sub ab col dd k0 k1 k2 k3 k5, K.lookup C = some (excClassObj nm q C N bs bm hdct sn sub ab col dd k0 k1 k2 k3 k5 "Exception.__new__") ∧ (Value.ref C :: bm).contains (.type "Exception") = true ∧
    (Value.ref C :: bm).contains (.type "AttributeError") = false ∧ (Value.ref C :: bm).contains (.type "NameError") = false
  ini : findIn K (.ref C) "__init__" = some (some (.ref fI))
  fn : typeIn K (.ref fI) = some (.type "function")
  kc : ExcK K C D
  sup : ∃ cd, clsIn K C = some cd ∧ alongIn K "__init__" ((cd.mro.dropWhile (· != .ref D)).drop 1) = some (some (.builtin "Exception.__init__"))
section
variable {W : Wd} {K : Frag} {f D cc : Addr} {fd : FuncData} {f' D' cc' : Addr} {fd' : FuncData} {C : Addr} {k : Nat} {c : Nat}
theorem raise0 (wk : WK W K) {p0 p1 ap p2 cp ep q0 q1 q2 q3 : Pos} (S : SupAt W K f D cc fd [.Expr (.Call (.Attribute (.Call (.Name "super" p0) [] [] p1) "__init__" ap) [.Name "what" p2] [] cp) ep, .Assign [.Attribute (.Name "self" q0) "what" q1] (.Name "what" q2) q3])
    (M : MakeAt K C D f f) (hc : W.cls c = C) (hline : (ap.endLine == cp.line) = true)
    (hbind : ∀ a b, bindArgs fd ⟨[a, b], []⟩ = pure [(("self" : Str), a), (("what" : Str), b)]) (hk : 4 ≤ k) {p : PV} : RaiseOk W k (.ref C) [p] ⟨c, none⟩ := by
  intro A env fs σ s L vs Q E ar hh st rel P
  obtain ⟨nm, q, N, bs, bm, hdct, sn, sub, ab, col, dd, k0, k1, k2, k3, k5, hC, hB, hAE, hNE⟩ := M.obj
  obtain ⟨cd, hcd, hal⟩ := M.sup
  obtain ⟨hp, g, dr, t, os⟩ := s
  match vs, rel with
  | [v], rel =>
    have X : K.In hp := wk.kin.keeps st.base
    have n0 : hp.get? (hp.objs.size + 1) = none := Heap.get?_none_of_le (Nat.le_succ _)
    have hold : ∀ b o, hp.get? b = some o → b ≠ hp.objs.size + 1 := fun b o z q => by rw [q, n0] at z; cases z
    refine wpAny_call (exc_make PySem.F.excBase_Exception hB hAE hNE (X _ _ hC) (looks_findIn X M.ini) (fun self => bind_fn X self M.fn) ?_)
    generalize hh₂ : (hp.push { cls := .type "tuple", data := .seq [v].toArray }).push { cls := .ref C, data := .fields #[.ref hp.objs.size, .none, .none, .none, .bool false, .none] } = h₂
    have k₂ : KA hp h₂ := by rw [← hh₂]; exact (KA.push _ _).trans (KA.push _ _)
    have he : h₂.get? (hp.objs.size + 1) = some { cls := .ref C, dict := none, data := .fields #[.ref hp.objs.size, .none, .none, .none, .bool false, .none] } := by
      rw [← hh₂]
      have := Heap.get?_push_size (hp.push { cls := .type "tuple", data := .seq [v].toArray }) (o := { cls := .ref C, data := .fields #[.ref hp.objs.size, .none, .none, .none, .bool false, .none] }) rfl
      rw [Heap.size_push] at this
      exact this
    have hb₂ : W.b0.StaysIn h₂ := fun b o z => k₂ b o (st.base b o z)
    refine init0 (s := ⟨h₂, g, dr, t, os⟩) wk S M.kc hcd rfl hal hline hC hB hbind ?_ hb₂ he rfl (hold _ _ (X _ _ hC)).symm ?_ (fun h' tk d t' v0 kk he' hd' hdn => ?_)
    · have := ar.depth
      rw [depth_under_make]
      lia
    · cases z : W.b0.get? (hp.objs.size + 1) with
      | none => rfl
      | some o => have := st.base _ _ z; rw [n0] at this; cases this
    · have K' : KA hp h' := fun b o z => kk b o (k₂ b o z) (hold b o z)
      have dn : hp.get? d = none := by
        cases z : hp.get? d with
        | none => rfl
        | some o => have := k₂ _ _ z; rw [hdn] at this; cases this
      have off : ∀ a, hp.get? a = none → a ∉ own L := fun a ha hm => by
        obtain ⟨o, z⟩ := st.lay.live hm
        rw [ha] at z; cases z
      have offb : ∀ a, hp.get? a = none → W.b0.get? a = none := fun a ha => by
        cases z : W.b0.get? a with
        | none => rfl
        | some o => have := st.base _ _ z; rw [ha] at this; cases this
      refine ⟨rfl, P _ h' tk (st.ka K') (K'.aft [] L) ⟨n0, offb _ n0, off _ n0, _, d, by rw [hc]; exact he', by simp, .inl ⟨rfl, by simp⟩, dn, off _ dn, offb _ dn, fun i hi => by cases hi⟩⟩
  | [], rel => simp [RelVs] at rel
  | _ :: _ :: _, rel => simp [RelVs] at rel
end
end Mine
end
/-! M32: TextFault raised -/
section
set_option autoImplicit false
set_option linter.unusedVariables false
set_option linter.unusedSimpArgs false
set_option maxRecDepth 100000
namespace Mine
open PySem PySem.W PySem.Calls PyProof.Rows

section
variable {W : Wd} {K : Frag} {f D cc : Addr} {fd : FuncData} {f' D' cc' : Addr} {fd' : FuncData} {C : Addr} {k : Nat} {c : Nat}
theorem raise1 (wk : WK W K) {p0 p1 ap p2 cp ep q0 q1 q2 q3 : Pos} {P0 P1 AP P2 CP EP Q0 Q1 Q2 Q3 : Pos} (S : SupAt W K f D cc fd [.Expr (.Call (.Attribute (.Call (.Name "super" p0) [] [] p1) "__init__" ap) [.Name "what" p2] [] cp) ep, .Assign [.Attribute (.Name "self" q0) "what" q1] (.Name "what" q2) q3])
    (S' : SupAt W K f' D' cc' fd' [.Expr (.Call (.Attribute (.Call (.Name "super" P0) [] [] P1) "__init__" AP) [.Name "what" P2] [] CP) EP, .Assign [.Attribute (.Name "self" Q0) "spot" Q1] (.Name "spot" Q2) Q3])
    (hsub' : mroIn K C (.ref D') = some true) (hlk : ∃ cd, clsIn K C = some cd ∧ alongIn K "__init__" ((cd.mro.dropWhile (· != .ref D')).drop 1) = some (some (.ref f))) (hfn : fnIn K f = true) (hft : ∃ o, K.lookup f = some o ∧ o.cls = .type "function")
    (hline' : (AP.endLine == CP.line) = true) (hks : fd'.scope.names.lookup ("spot" : Str) = some .local) (hbind' : ∀ a b c, bindArgs fd' ⟨[a, b, c], []⟩ = pure [(("self" : Str), a), (("what" : Str), b), (("spot" : Str), c)]) (htf : C = textFaultA)
    (M : MakeAt K C D f' f) (hc : W.cls c = C) (hline : (ap.endLine == cp.line) = true)
    (hbind : ∀ a b, bindArgs fd ⟨[a, b], []⟩ = pure [(("self" : Str), a), (("what" : Str), b)]) (hk : 4 ≤ k) {p : PV} {i : Int} : RaiseOk W k (.ref C) [p, .int i] ⟨c, some i⟩ := by
  intro A env fs σ s L vs Q E ar hh st rel P
  obtain ⟨nm, q, N, bs, bm, hdct, sn, sub, ab, col, dd, k0, k1, k2, k3, k5, hC, hB, hAE, hNE⟩ := M.obj
  obtain ⟨cd, hcd, hal⟩ := M.sup
  obtain ⟨hp, g, dr, t, os⟩ := s
  match vs, rel with
  | [v, u], rel =>
    obtain ⟨ti, rfl⟩ : ∃ t, u = .int i t := rel.2.1
    obtain ⟨cd'', hcd'', hal'⟩ := hlk
    rw [hcd] at hcd''
    obtain rfl := Option.some.inj hcd''
    have X : K.In hp := wk.kin.keeps st.base
    have n0 : hp.get? (hp.objs.size + 1) = none := Heap.get?_none_of_le (Nat.le_succ _)
    have hold : ∀ b o, hp.get? b = some o → b ≠ hp.objs.size + 1 := fun b o z q => by rw [q, n0] at z; cases z
    refine wpAny_call (exc_make PySem.F.excBase_Exception hB hAE hNE (X _ _ hC) (looks_findIn X M.ini) (fun self => bind_fn X self M.fn) ?_)
    generalize hh₂ : (hp.push { cls := .type "tuple", data := .seq [v, .int i ti].toArray }).push { cls := .ref C, data := .fields #[.ref hp.objs.size, .none, .none, .none, .bool false, .none] } = h₂
    have k₂ : KA hp h₂ := by rw [← hh₂]; exact (KA.push _ _).trans (KA.push _ _)
    have he : h₂.get? (hp.objs.size + 1) = some { cls := .ref C, dict := none, data := .fields #[.ref hp.objs.size, .none, .none, .none, .bool false, .none] } := by
      rw [← hh₂]
      have := Heap.get?_push_size (hp.push { cls := .type "tuple", data := .seq [v, .int i ti].toArray }) (o := { cls := .ref C, data := .fields #[.ref hp.objs.size, .none, .none, .none, .bool false, .none] }) rfl
      rw [Heap.size_push] at this
      exact this
    have hb₂ : W.b0.StaysIn h₂ := fun b o z => k₂ b o (st.base b o z)
    refine init1 (s := ⟨h₂, g, dr, t, os⟩) wk S S' M.kc hsub' hcd rfl hal rfl hal' hfn hft hline hline' hC hB hks hbind hbind' ?_ hb₂ he rfl (hold _ _ (X _ _ hC)).symm ?_ (fun h' tk d t' es n v0 kk he' hd' hdn => ?_)
    · have := ar.depth
      rw [depth_under_make]
      lia
    · cases z : W.b0.get? (hp.objs.size + 1) with
      | none => rfl
      | some o => have := st.base _ _ z; rw [n0] at this; cases this
    · have K' : KA hp h' := fun b o z => kk b o (k₂ b o z) (hold b o z)
      have dn : hp.get? d = none := by
        cases z : hp.get? d with
        | none => rfl
        | some o => have := k₂ _ _ z; rw [hdn] at this; cases this
      have off : ∀ a, hp.get? a = none → a ∉ own L := fun a ha hm => by
        obtain ⟨o, z⟩ := st.lay.live hm
        rw [ha] at z; cases z
      have offb : ∀ a, hp.get? a = none → W.b0.get? a = none := fun a ha => by
        cases z : W.b0.get? a with
        | none => rfl
        | some o => have := st.base _ _ z; rw [ha] at this; cases this
      refine ⟨rfl, P _ h' tk (st.ka K') (K'.aft [] L) ⟨n0, offb _ n0, off _ n0, _, d, by rw [hc]; exact he', by simp, .inl ⟨rfl, by simp⟩, dn, off _ dn, offb _ dn, fun i' hi => ?_⟩⟩
      cases hi
      refine ⟨hc.trans htf, _, _, _, ti, hd', rfl, rfl, getL_put _ _ _ _ _⟩
  | [], rel => simp [RelVs] at rel
  | [_], rel => simp [RelVs] at rel
  | _ :: _ :: _ :: _, rel => simp [RelVs] at rel
end
end Mine
end
/-! M33: a record is made -/
section
set_option autoImplicit false
set_option linter.unusedVariables false
set_option linter.unusedSimpArgs false
set_option maxRecDepth 100000
namespace Mine
open PySem PySem.W PySem.Calls PyProof.Rows

section
variable {W : Wd} {K : Frag} {C f : Addr} {c k : Nat}
theorem Ar.make {A : Around} {env : Env} {fs : List Env} (a : Ar A env fs (k + 1)) (C : Addr) (vs : List Value) : Ar (A.under (.builtin "type.__call__" ⟨.ref C :: vs, []⟩)) env fs k := by
  obtain ⟨a1, a2, a3, a4, a5⟩ := a
  refine ⟨?_, a2, a3, ?_, ?_⟩
  · exact a1
  · rw [depth_under_make]; (clear a5; lia)
  · show A.units + 1 + _ + _ < _
    (clear a4; lia)
theorem make_ok (wk : WK W K) (hc : W.cls c = C) (hm : makesIn K C = true) (hi : findIn K (.ref C) "__init__" = some (some (.ref f))) (hf : typeIn K (.ref f) = some (.type "function"))
    {args : List PV} {σ : Store} {r r' : R PV} (ok : CodeOk W k (.ref f) (.ref σ.length :: args) (σ ++ [.inst c []]) r) (hr : newOf σ.length r = some r') : CallOk W (k + 1) (.ref C) args σ r' := by
  intro A env fs s L vs Q E ar hh st rel P
  obtain ⟨hp, g, dr, t, os⟩ := s
  have X : K.In hp := wk.kin.keeps st.base
  refine wpAny_call (make_core (makes_of X hm) (looks_findIn X hi) (fun self => bind_fn X self hf) (.inl rfl) ?_)
  generalize hh₂ : (hp.push emptyDict).push (instObj C hp.objs.size) = h₂
  have k₂ : KA hp h₂ := by rw [← hh₂]; exact (KA.push _ _).trans (KA.push _ _)
  have n0 : hp.get? hp.objs.size = none := fresh_none _
  have n1 : hp.get? (hp.objs.size + 1) = none := Heap.get?_none_of_le (Nat.le_succ _)
  have e1 : h₂.get? (hp.objs.size + 1) = some (instObj C hp.objs.size) := by
    rw [← hh₂]
    have := Heap.get?_push_size (hp.push emptyDict) (o := instObj C hp.objs.size) rfl
    rw [Heap.size_push] at this
    exact this
  have e0 : h₂.get? hp.objs.size = some emptyDict := by
    rw [← hh₂]
    exact Heap.get?_push_of_some _ (Heap.get?_push_size _ rfl)
  obtain ⟨st₂, af₂⟩ := st_ext (p := ⟨hp.objs.size + 1, hp.objs.size⟩) (o := .inst c []) st k₂ n1 n0 ⟨Nat.succ_ne_self _, by rw [hc]; exact e1, [], 0, e0, by simp, by simp [Ents]⟩
  have rel₂ : RelVs false (L.add ([⟨hp.objs.size + 1, hp.objs.size⟩] : List LO)) h₂ (.ref (hp.objs.size + 1) :: vs) (.ref σ.length :: args) := by
    simp only [RelVs]
    refine ⟨?_, af₂.rels (.nil _) (fun _ => rfl) rel⟩
    simp only [RelV]
    refine ⟨⟨hp.objs.size + 1, hp.objs.size⟩, ?_, rfl⟩
    rw [Lo.l_append, ← st.lay.len]
    simp
  refine codeAny_mono (ok _ env fs ⟨h₂, g, dr, t, os⟩ _ _ (fun v s' => v = .none ∧ Q (.ref (hp.objs.size + 1)) s') E (ar.make C vs) hh st₂ rel₂ ?_) fun r s' z => ?_
  · cases r with
    | ok a σ' =>
      cases a <;> cases hr
      intro v L' h' tk st' af' rv
      refine ⟨rv, P _ L' h' tk st' (af₂.trans0 af' st₂.lay) ?_⟩
      simp only [RelV]
      obtain ⟨⟨T, rfl, _⟩, _⟩ := af'
      refine ⟨⟨hp.objs.size + 1, hp.objs.size⟩, ?_, rfl⟩
      rw [Lo.l_append, Lo.l_append, ← st.lay.len]
      simp
    | exc x σ' =>
      cases hr
      intro e L' h' tk st' af' X'
      exact P e L' h' tk st' (af₂.trans0 af' st₂.lay) (X'.back fun a z => af₂.none_back st₂.lay z)
  · rcases r with e | (v | _ | _ | _) <;> first | exact z | exact z.elim
end
end Mine
end
/-! M34: the program's functions, level by level -/
section
set_option autoImplicit false
set_option linter.unusedVariables false
set_option linter.unusedSimpArgs false
set_option maxRecDepth 100000
namespace Mine
open PySem PySem.W PySem.Calls PyProof.Rows

structure FnIs (W : Wd) (K : Frag) (a : Addr) (d : List Nat × List CS) (lc : Option Addr) : Prop where
  keep : keepIn K (.ref a) = true
  is : ∃ fd body m, FnAt W K a fd d.1 body ∧ ChkSs W.nm m (fun x => fd.scope.names.lookup x) d.2 body ∧ ∀ l, lc = some l → fd.code = .ref l
structure Prg (W : Wd) (K : Frag) (glo : Nat → Option PV) : Prop where
  w : World_ W K
  glo : ∀ x p, glo x = some p → ∃ v, W.mg (W.nm x) = some v ∧ RelV false Lo.nil W.b0 v p
  fn : ∀ f d, fnTab f = some d → ∃ a, W.mg (W.nm f) = some (.ref a) ∧ FnIs W K a d none
  mt : ∀ m d, mtTab m = some d → ∃ a, findIn K (.ref (W.cls 6)) (W.nm m) = some (some (.ref a)) ∧ isFn K (.ref a) = true ∧ plainGet K (W.cls 6) (W.nm m) = true ∧ FnIs W K a d none
  rec_ : W.mg (W.nm 6) = some (.ref (W.cls 6)) ∧ keepIn K (.ref (W.cls 6)) = true ∧ makesIn K (W.cls 6) = true ∧ ∃ a, findIn K (.ref (W.cls 6)) "__init__" = some (some (.ref a)) ∧ typeIn K (.ref a) = some (.type "function") ∧ FnIs W K a r_init none
  ex : ∀ c, c = 3 ∨ c = 4 ∨ c = 5 → W.mg (W.nm c) = some (.ref (W.cls c)) ∧ keepIn K (.ref (W.cls c)) = true ∧ ExcCls W K c ∧ ∀ k args x, 4 ≤ k → excTab c args = some x → RaiseOk W k (.ref (W.cls c)) args x
theorem excTab_cls {c : Nat} {args : List PV} {x : PX} (h : excTab c args = some x) : x.cls = c := by
  rcases excTab_inv h with ⟨_, rfl, _⟩ | ⟨rfl, _, _, rfl, _⟩ <;> rfl

section
variable {W : Wd} {K : Frag} {glo : Nat → Option PV} 
theorem run_ok (P : Prg W K glo) {k : Nat} {l : Nat} (g : Good W K (lev glo k) l) {a : Addr} {d : List Nat × List CS} (F : FnIs W K a d none) {args : List PV} {σ : Store} {r : R PV} (h : runFn (lev glo k) d args σ = some r) : CodeOk W (l + 1) (.ref a) args σ r ∧ CallOk W (l + 1) (.ref a) args σ r := by
  obtain ⟨fd, body, m, FA, hc, _⟩ := F.is
  obtain ⟨hl, rs, hr', rfl⟩ := runFn_inv h
  obtain ⟨N, hr⟩ := EXs_some hr'
  obtain ⟨_, _, sx, _⟩ := all_ok P.w N _ _ g
  have ht : (lev glo k).top = true → fd.code = .ref W.lc := fun z => nomatch z
  exact ⟨fn_okC P.w.wk FA sx rfl ht hc hl hr, fn_ok P.w.wk FA sx rfl ht hc hl hr⟩
theorem lev_good (P : Prg W K glo) : ∀ k, Good W K (lev glo k) (2 * k) := by
  intro k
  induction k with
  | zero => exact ⟨⟨P.glo, fun f z => (nomatch z), fun c m z => (nomatch z)⟩, ⟨fun c z => (nomatch z)⟩, fun z => (nomatch z)⟩
  | succ k g =>
    refine ⟨⟨P.glo, fun f z => ?_, fun c m z => ?_⟩, ⟨fun c z => ?_⟩, fun z => (nomatch z)⟩
    · by_cases h6 : f = 6
      · subst h6
        obtain ⟨m1, m2, m3, a, m4, m5, m6⟩ := P.rec_
        refine ⟨_, m1, m2, fun args σ r e => ?_⟩
        have e : (runFn (lev glo k) r_init (.ref σ.length :: args) (σ ++ [.inst 6 []])).bind (newOf σ.length) = some r := e
        obtain ⟨r0, e0, e1⟩ := Option.bind_eq_some_iff.mp e
        exact make_ok P.w.wk rfl m3 m4 m5 (run_ok P g m6 e0).1 e1
      · have hb : (f == 6) = false := beq_false_of_ne h6
        have z : (f == 6 || (fnTab f).isSome) = true := z
        rw [hb, Bool.false_or] at z
        obtain ⟨d, hd⟩ := Option.isSome_iff_exists.mp z
        obtain ⟨a, a1, a2⟩ := P.fn f d hd
        refine ⟨_, a1, a2.keep, fun args σ r e => ?_⟩
        have e : fnOf (lev glo k) f args σ = some r := e
        unfold fnOf at e
        rw [hb, hd] at e
        exact (run_ok P g a2 e).2.le (Nat.le_succ _)
    · have z : (c == 6 && (mtTab m).isSome) = true := z
      rw [Bool.and_eq_true, beq_iff_eq] at z
      obtain ⟨rfl, h2⟩ := z
      obtain ⟨d, hd⟩ := Option.isSome_iff_exists.mp h2
      obtain ⟨a, a1, a2, a3, a4⟩ := P.mt m d hd
      refine ⟨a, a1, a2, a4.keep, a3, fun j args σ r e => ?_⟩
      have e : onD (mtTab m) (fun d => runFn (lev glo k) d (.ref j :: args) σ) = some r := e
      rw [hd] at e
      exact (run_ok P g a4 e).2.le (Nat.le_succ _)
    · have z : low1 k (c == 3 || c == 4 || c == 5) = true := z
      cases k with
      | zero => cases z
      | succ k =>
      have z : (c == 3 || c == 4 || c == 5) = true := z
      rw [Bool.or_eq_true, Bool.or_eq_true, beq_iff_eq, beq_iff_eq, beq_iff_eq, or_assoc] at z
      obtain ⟨h1, h2, h3, h4⟩ := P.ex c z
      exact ⟨h1, h2, h3, fun args x e => ⟨excTab_cls e, h4 _ args x (by omega) e⟩⟩
end
end Mine
end
/-! M35: the law, called -/
section
set_option autoImplicit false
set_option linter.unusedVariables false
set_option linter.unusedSimpArgs false
set_option maxRecDepth 100000
namespace Mine
open PySem PySem.W PySem.Calls PyProof.Rows
section
variable {W : Wd} {K : Frag} {glo : Nat → Option PV}
theorem law_good (P : Prg W K glo) (k : Nat) : Good W K (lev glo k).law (2 * k + 2) := by
  have g := lev_good P k
  have s0 := g.so.le (show 2 * k ≤ 2 * k + 2 by lia)
  have x0 := g.xo.le (show 2 * k ≤ 2 * k + 2 by omega)
  exact ⟨⟨s0.glo, s0.kn, s0.km⟩, ⟨x0.ex⟩, fun _ => ⟨2 * k, rfl, ⟨g.so.glo, g.so.kn, g.so.km⟩, ⟨g.xo.ex⟩⟩⟩
theorem law_ok (P : Prg W K glo) {a : Addr} (F : FnIs W K a f_law (some W.lc)) {k : Nat} {args : List PV} {σ : Store} {rs : RS} (hl : args.length = f_law.1.length) (hr : EXs (lev glo k).law f_law.2 (f_law.1.zip args) σ = some rs)
    {A : Around} {fs : List Env} {s : Shared} {L : Lo} {vs : List Value} {Q E : Value → Shared → Prop} (ar : Ar0 A fs (2 * k + 3)) (hh : A.handled = none) (st : St W false fs L σ s.heap) (rel : RelVs false L s.heap vs args) (po : Post W false fs (RelV false) L s (resOf rs) Q E) :
    wpAny (model W.prog W.w) A (call (.ref a) vs) Q E s := by
  obtain ⟨fd, body, m, FA, hc, hlc⟩ := F.is
  obtain ⟨N, hr⟩ := EXs_some hr
  obtain ⟨_, _, sx, _⟩ := all_ok P.w N _ _ (law_good P k)
  have hq : (lev glo k).law.q = false := by cases k <;> rfl
  exact fn_okT P.w.wk FA sx hq (fun _ => hlc _ rfl) hc hl hr ar hh st rel po
end
end Mine
end
/-! M36: the ground, names first -/
section
set_option autoImplicit false
set_option linter.unusedVariables false
set_option linter.unusedSimpArgs false
set_option maxRecDepth 100000
namespace Mine
open PySem PySem.W PySem.Calls PyProof.Rows

theorem tbl_nodup : nmTbl.Nodup := by decide +kernel
theorem tbl_first : ∀ s ∈ nmTbl, s ≠ ⟨Array.replicate 1 33⟩ ∧ ¬ (s.1[0]? = some 33) := by decide +kernel
theorem nmOf_inj : ∀ x y, nmOf x = nmOf y → x = y := by
  intro x y h
  unfold nmOf at h
  cases hx : nmTbl[x]? with
  | some s =>
    cases hy : nmTbl[y]? with
    | some s' =>
      rw [hx, hy] at h
      dsimp only at h
      subst h
      obtain ⟨h1, e1⟩ := List.getElem?_eq_some_iff.mp hx
      obtain ⟨h2, e2⟩ := List.getElem?_eq_some_iff.mp hy
      exact (List.getElem_inj tbl_nodup).mp (e1.trans e2.symm)
    | none =>
      rw [hx, hy] at h
      dsimp only at h
      have := (tbl_first s (List.mem_of_getElem? hx)).2
      rw [h] at this
      simp at this
  | none =>
    cases hy : nmTbl[y]? with
    | some s' =>
      rw [hx, hy] at h
      dsimp only at h
      have := (tbl_first s' (List.mem_of_getElem? hy)).2
      rw [← h] at this
      simp at this
    | none =>
      rw [hx, hy] at h
      dsimp only at h
      have := congrArg (fun s : Str => s.1.size) h
      simpa using this
theorem nmOf_nodict : ∀ x, (nmOf x == ("__classdict__" : Str)) = false := by
  intro x
  unfold nmOf
  cases hx : nmTbl[x]? with
  | some s =>
    have : ∀ s ∈ nmTbl, (s == ("__classdict__" : Str)) = false := by decide +kernel
    exact this s (List.mem_of_getElem? hx)
  | none =>
    simp only [beq_eq_false_iff_ne, ne_eq]
    intro h
    have h1 : ¬ ((("__classdict__" : Str)).1[0]? = some 33) := by decide +kernel
    rw [← h] at h1
    simp at h1
end Mine
end
/-! M37: the ground: the world of this text -/
section
set_option autoImplicit false
set_option linter.unusedVariables false
set_option linter.unusedSimpArgs false
set_option maxRecDepth 100000
namespace Mine
open PySem PySem.W PySem.Calls PyProof.Rows

noncomputable def clsOf : Nat → Addr
  | 3 => 93
  | 4 => 81
  | 5 => 69
  | _ => 211
/-- what the head tells -/
structure Gd (prog : Program) (w : World) (h : Heap) (mg mb : Str → Option Value) : Prop where
  X : (KK w.params).In h
  tab : h.get? 270 = some (tabObj #[])
  g : h.Ns mainGlobals mg
  b : h.Ns builtinsNs mb
  nl : h.NoLimit
  bu : ∀ x : Str, x ≠ "__name__" → mb x = bootBuiltins x
  bm : ∃ bm ob, mg "__builtins__" = some (.ref bm) ∧ bm ≠ builtinsNs ∧ h.get? bm = some ob ∧ ob.cls = .type "module" ∧ ob.dict = some builtinsNs ∧ ob.data = .plain
  file : ((prog.main.file : Str) == ("/claim/cut.py" : Str)) = true
  top : (prog.main.scope.names.lookup ("super" : Str)).isSome = false
noncomputable def Wof (prog : Program) (w : World) (h : Heap) (mg mb : Str → Option Value) : Wd := { tab := 270, lc := 272, prog := prog, w := w, b0 := hideAll h [270], nm := nmOf, cls := clsOf, mg := mg, mb := mb }

section
variable {prog : Program} {w : World} {h : Heap} {mg mb : Str → Option Value}
theorem Gd.old (G : Gd prog w h mg mb) : ∀ b o, b ≠ 270 → h.get? b = some o → (hideAll h [270]).get? b = some o := fun b o n e => hideAll_get [270] e (by simpa using n)
theorem Gd.kin (G : Gd prog w h mg mb) : (KK w.params).In (hideAll h [270]) := fun b o e => by
  refine G.old b o (fun q => ?_) (G.X b o e)
  rw [q] at e
  have : (KK w.params).lookup 270 = none := by rfl
  rw [this] at e; cases e
theorem Ns.hid {a : Addr} {m : Str → Option Value} (n : h.Ns a m) (ha : a ≠ 270) : (hideAll h [270]).Ns a m := by
  obtain ⟨o, es, ep, e, r⟩ := n
  exact ⟨o, es, ep, hideAll_get [270] e (by simpa using ha), r⟩
theorem Gd.wok (G : Gd prog w h mg mb) : WOk (Wof prog w h mg mb) where
  inj := nmOf_inj
  nodict := nmOf_nodict
  g := Ns.hid G.g (by decide)
  b := Ns.hid G.b (by decide)
  nolimit := by
    obtain ⟨mc, a, b⟩ := G.nl
    exact ⟨mc, Ns.hid a (by decide), b⟩
  bi := fun b => by
    cases b <;> exact ⟨mg_none_of G.X G.g (by rfl), (G.bu _ (by decide +kernel)).trans (by rfl)⟩
  spot := by rfl
theorem clsOf_mem (c : Nat) : clsOf c = 93 ∨ clsOf c = 81 ∨ clsOf c = 69 ∨ clsOf c = 211 := by
  unfold clsOf
  split <;> simp
theorem att_all (p : Params) (x : Nat) (hx : x < 3) : plainGet (KK p) 211 (nmOf x) = true ∧ hasDictIn (KK p) 211 = true ∧ ∃ attr, findIn (KK p) (.ref 211) (nmOf x) = some attr ∧ noGet (KK p) attr = true := by
  match x, hx with
  | 0, _ => exact ⟨by rfl, by rfl, none, by rfl, by rfl⟩
  | 1, _ => exact ⟨by rfl, by rfl, none, by rfl, by rfl⟩
  | 2, _ => exact ⟨by rfl, by rfl, none, by rfl, by rfl⟩
theorem set_all (p : Params) (x : Nat) (hx : x < 3) : findIn (KK p) (.ref 211) "__setattr__" = some (some (.builtin "object.__setattr__")) ∧ plainOverX (KK p) 211 = true ∧ takerIn (KK p) 211 (nmOf x) = some none := by
  match x, hx with
  | 0, _ => exact ⟨by rfl, by rfl, by rfl⟩
  | 1, _ => exact ⟨by rfl, by rfl, by rfl⟩
  | 2, _ => exact ⟨by rfl, by rfl, by rfl⟩
theorem Gd.wk (G : Gd prog w h mg mb) : WK (Wof prog w h mg mb) (KK w.params) where
  toWOk := G.wok
  kin := G.kin
  att := fun c x hc hx => by subst hc; exact att_all w.params x hx
  fault := ⟨by rfl, by rfl, by rfl, by rfl, none, by rfl, by rfl⟩
theorem Gd.set (G : Gd prog w h mg mb) : SetOk (Wof prog w h mg mb) (KK w.params) where
  st := fun c x hc hx => by subst hc; exact set_all w.params x hx
end
end Mine
end
/-! M37b: rules to build what a text stands for -/
section
set_option autoImplicit false
set_option linter.unusedVariables false
set_option maxRecDepth 100000
namespace Mine
open PySem PySem.W PySem.Calls PyProof.Rows
section
variable {nm : Nat → Str} {m : Nat} {kd : Str → Option NameKind}
theorem c_loc {x : Nat} {p : Pos} (h : (nm x == dbg) = false) : Chk nm (m + 1) kd (.loc x) (.Name (nm x) p) := ⟨p, rfl, h⟩
theorem c_glo {x : Nat} {p : Pos} (h : kd (nm x) = some .globalImplicit) (h2 : (nm x == dbg) = false) : Chk nm (m + 1) kd (.glo x) (.Name (nm x) p) := ⟨p, rfl, h, h2⟩
theorem c_cnone  {a : _} {b : _}  : Chk nm (m + 1) kd (.cnone) (.Constant .none a b) := ⟨a, b, rfl, trivial⟩
theorem c_cbool {v : Bool} {a : _} {b : _}  : Chk nm (m + 1) kd (.cbool v) (.Constant (.bool v) a b) := ⟨a, b, rfl, trivial⟩
theorem c_cint {v : Int} {a : _} {b : _}  : Chk nm (m + 1) kd (.cint v) (.Constant (.int v) a b) := ⟨a, b, rfl, trivial⟩
theorem c_cstr {l : List Nat} {a : _} {b : _} {y : Str} (h : y = ⟨l.toArray⟩) : Chk nm (m + 1) kd (.cstr l) (.Constant (.str y) a b) := h ▸ ⟨a, b, rfl, trivial⟩
theorem c_neg {a : CE} {x : Expr} {p : Pos} (h : Chk nm m kd a x) : Chk nm (m + 1) kd (.neg a) (.UnaryOp .USub x p) := ⟨x, p, rfl, h⟩
theorem c_not {a : CE} {x : Expr} {p : Pos} (h : Chk nm m kd a x) : Chk nm (m + 1) kd (.not a) (.UnaryOp .Not x p) := ⟨x, p, rfl, h⟩
theorem c_bin {op : Operator} {a : CE} {b : CE} {l : Expr} {r : Expr} {p : Pos} (h1 : Chk nm m kd a l) (h2 : Chk nm m kd b r) : Chk nm (m + 1) kd (.bin op a b) (.BinOp l op r p) := ⟨l, r, p, rfl, h1, h2⟩
theorem c_cmp {op : CmpOp} {a : CE} {b : CE} {l : Expr} {r : Expr} {p : Pos} (h1 : Chk nm m kd a l) (h2 : Chk nm m kd b r) : Chk nm (m + 1) kd (.cmp op a b) (.Compare l [op] [r] p) := ⟨l, r, p, rfl, h1, h2⟩
theorem c_cmpNil {op : CmpOp} {a : CE} {l : Expr} {q : Pos} {p : Pos} (h1 : Chk nm m kd a l) : Chk nm (m + 1) kd (.cmpNil op a) (.Compare l [op] [.List [] q] p) := ⟨l, q, p, rfl, h1⟩
theorem c_bopA {l : List CE} {es : List Expr} {p : Pos} (h : ChkL (Chk nm m kd) l es) : Chk nm (m + 1) kd (.bop true l) (.BoolOp .And es p) := ⟨es, p, rfl, h⟩
theorem c_bopO {l : List CE} {es : List Expr} {p : Pos} (h : ChkL (Chk nm m kd) l es) : Chk nm (m + 1) kd (.bop false l) (.BoolOp .Or es p) := ⟨es, p, rfl, h⟩
theorem c_ite {t : CE} {b : CE} {o : CE} {x : Expr} {y : Expr} {z : Expr} {p : Pos} (h1 : Chk nm m kd t x) (h2 : Chk nm m kd b y) (h3 : Chk nm m kd o z) : Chk nm (m + 1) kd (.ite t b o) (.IfExp x y z p) := ⟨x, y, z, p, rfl, h1, h2, h3⟩
theorem c_tup {l : List CE} {es : List Expr} {a : _} {p : Pos} (h : ChkL (Chk nm m kd) l es) : Chk nm (m + 1) kd (.tup l) (.Tuple es a p) := ⟨es, a, p, rfl, h⟩
theorem c_lst {l : List CE} {es : List Expr} {p : Pos} (h : ChkL (Chk nm m kd) l es) : Chk nm (m + 1) kd (.lst l) (.List es p) := ⟨es, p, rfl, h⟩
theorem c_sub {a : CE} {i : CE} {v : Expr} {x : Expr} {p : Pos} (h1 : Chk nm m kd a v) (h2 : Chk nm m kd i x) : Chk nm (m + 1) kd (.sub a i) (.Subscript v x p) := ⟨v, x, p, rfl, h1, h2⟩
theorem c_slice {a : CE} {lo : Option CE} {hi : Option CE} {v : Expr} {l : Option Expr} {u : Option Expr} {q : Pos} {p : Pos} (h1 : Chk nm m kd a v) (h2 : ChkO (Chk nm m kd) lo l) (h3 : ChkO (Chk nm m kd) hi u) : Chk nm (m + 1) kd (.slice a lo hi) (.Subscript v (.Slice l u none q) p) := ⟨v, l, u, q, p, rfl, h1, h2, h3⟩
theorem c_call {f : Nat} {args : List CE} {p : Pos} {es : List Expr} {q : Pos} (h1 : kd (nm f) = some .globalImplicit) (h2 : (nm f == dbg) = false) (h3 : ChkL (Chk nm m kd) args es) : Chk nm (m + 1) kd (.call f args) (.Call (.Name (nm f) p) es [] q) := ⟨p, es, q, rfl, h1, h2, h3⟩
theorem c_bi {b : Bi} {args : List CE} {p : Pos} {es : List Expr} {q : Pos} (h1 : kd (biName b) = some .globalImplicit) (h2 : (biName b == dbg) = false) (h3 : ChkL (Chk nm m kd) args es) : Chk nm (m + 1) kd (.bi b args) (.Call (.Name (biName b) p) es [] q) := ⟨p, es, q, rfl, h1, h2, h3⟩
theorem c_meth {o : CE} {f : Nat} {args : List CE} {v : Expr} {ap : Pos} {es : List Expr} {q : Pos} (h1 : notCall v = true) (h2 : (ap.endLine == q.line) = true) (h3 : es.length < 20) (h4 : Chk nm m kd o v) (h5 : ChkL (Chk nm m kd) args es) : Chk nm (m + 1) kd (.meth o f args) (.Call (.Attribute v (nm f) ap) es [] q) := ⟨v, ap, es, q, rfl, h1, h2, h3, h4, h5⟩
theorem c_mdig {o : CE} {v : Expr} {ap : Pos} {q : Pos} (h1 : notCall v = true) (h2 : (ap.endLine == q.line) = true) (h4 : Chk nm m kd o v) : Chk nm (m + 1) kd (.mdig o) (.Call (.Attribute v ("isdigit" : Str) ap) [] [] q) := ⟨v, ap, q, rfl, h1, h2, h4⟩
theorem c_mjoin {o : CE} {x : CE} {v : Expr} {ap : Pos} {y : Expr} {q : Pos} (h1 : notCall v = true) (h2 : (ap.endLine == q.line) = true) (h4 : Chk nm m kd o v) (h5 : Chk nm m kd x y) : Chk nm (m + 1) kd (.mjoin o x) (.Call (.Attribute v ("join" : Str) ap) [y] [] q) := ⟨v, ap, y, q, rfl, h1, h2, h4, h5⟩
theorem c_mapp {o : CE} {x : CE} {v : Expr} {ap : Pos} {y : Expr} {q : Pos} (h1 : notCall v = true) (h2 : (ap.endLine == q.line) = true) (h4 : Chk nm m kd o v) (h5 : Chk nm m kd x y) : Chk nm (m + 1) kd (.mapp o x) (.Call (.Attribute v ("append" : Str) ap) [y] [] q) := ⟨v, ap, y, q, rfl, h1, h2, h4, h5⟩
theorem c_mpop {o : CE} {v : Expr} {ap : Pos} {q : Pos} (h1 : notCall v = true) (h2 : (ap.endLine == q.line) = true) (h4 : Chk nm m kd o v) : Chk nm (m + 1) kd (.mpop o) (.Call (.Attribute v ("pop" : Str) ap) [] [] q) := ⟨v, ap, q, rfl, h1, h2, h4⟩
theorem c_attr {o : CE} {x : Nat} {vi : Str} {vp : Pos} {p : Pos} (h1 : x < 3) (h4 : Chk nm m kd o (.Name vi vp)) : Chk nm (m + 1) kd (.attr o x) (.Attribute (.Name vi vp) (nm x) p) := ⟨vi, vp, p, rfl, h1, h4⟩
theorem c_fstr {pre : List Nat} {x : CE} {a : _} {b : _} {v : Expr} {d : Pos} {p : Pos} {y : Str} (h0 : y = ⟨pre.toArray⟩) (h1 : pre.length ≤ 1000) (h4 : Chk nm m kd x v) : Chk nm (m + 1) kd (.fstr pre x) (.JoinedStr [.Constant (.str y) a b, .FormattedValue v (-1) none d] p) := h0 ▸ ⟨a, b, v, d, p, rfl, h1, h4⟩
theorem c_fstrs {post : List Nat} {x : CE} {a : _} {b : _} {v : Expr} {d : Pos} {p : Pos} {y : Str} (h0 : y = ⟨post.toArray⟩) (h1 : post.length ≤ 1000) (h4 : Chk nm m kd x v) : Chk nm (m + 1) kd (.fstrs x post) (.JoinedStr [.FormattedValue v (-1) none d, .Constant (.str y) a b] p) := h0 ▸ ⟨v, d, a, b, p, rfl, h1, h4⟩
theorem c_comp0 {elt : CE} {xs : List Nat} {tt : Bool} {fv : List Nat} {it : CE} {x : Expr} {tg : Expr} {iter : Expr} {sc : Scope} {p : Pos} (h1 : Chk nm m kd it iter) (h2 : freeOk nm kd fv sc = true) (h3 : ChkT nm (kdIn kd sc) xs tt tg) (h4 : Chk nm m (kdIn kd sc) elt x) : Chk nm (m + 1) kd (.comp elt xs tt fv it none) (.ListComp x [⟨tg, iter, [], 0⟩] sc p) := ⟨x, tg, iter, [], sc, p, rfl, h1, h2, h3, h4, rfl⟩
theorem c_comp1 {elt : CE} {xs : List Nat} {tt : Bool} {fv : List Nat} {it : CE} {c : CE} {x : Expr} {tg : Expr} {iter : Expr} {t : Expr} {sc : Scope} {p : Pos} (h1 : Chk nm m kd it iter) (h2 : freeOk nm kd fv sc = true) (h3 : ChkT nm (kdIn kd sc) xs tt tg) (h4 : Chk nm m (kdIn kd sc) elt x) (h5 : Chk nm m (kdIn kd sc) c t) : Chk nm (m + 1) kd (.comp elt xs tt fv it (some c)) (.ListComp x [⟨tg, iter, [t], 0⟩] sc p) := ⟨x, tg, iter, [t], sc, p, rfl, h1, h2, h3, h4, t, rfl, h5⟩
theorem c_heard {i : Nat} {fv : List Nat} {x : CE} {p : Pos} {b : Expr} {sc : Scope} {lp : Pos} {q : Pos} (h1 : lp.line = i) (h2 : kd ("_law_heard" : Str) = some .globalImplicit) (h3 : sc.isGenerator = false) (h4 : sc.isCoroutine = false) (h5 : freeOk nm kd fv sc = true) (h6 : Chk nm m (fun y => sc.names.lookup y) x b) : Chk nm (m + 1) kd (.heard i fv x) (.Call (.Name ("_law_heard" : Str) p) [.Lambda ⟨[], [], none, [], [], none, []⟩ b sc lp] [] q) := ⟨p, b, sc, lp, q, rfl, h1, h2, h3, h4, h5, h6⟩
theorem d_asg {x : Nat} {e : CE} {p : Pos} {v : Expr} {q : Pos} (h1 : bound1 kd (nm x) = true) (h2 : notComp v = true) (h3 : Chk nm m kd e v) : ChkS nm (m + 1) kd (.asg x e) (.Assign [.Name (nm x) p] v q) := ⟨p, v, q, rfl, h1, h2, h3⟩
theorem d_asgT {xs : List Nat} {e : CE} {es : List Expr} {a : _} {p : Pos} {v : Expr} {q : Pos} (h1 : notComp v = true) (h2 : NamesAt nm (bound1 kd) xs es) (h3 : SwAt kd es a p v) (h4 : xs.length < 10) (h5 : Chk nm m kd e v) : ChkS nm (m + 1) kd (.asgT xs e) (.Assign [.Tuple es a p] v q) := ⟨es, a, p, v, q, rfl, h1, h2, h3, h4, h5⟩
theorem d_seta {o : CE} {a : Nat} {e : CE} {vi : Str} {vp : Pos} {p : Pos} {v : Expr} {q : Pos} (h1 : a < 3) (h2 : notComp v = true) (h3 : Chk nm m kd o (.Name vi vp)) (h4 : Chk nm m kd e v) : ChkS nm (m + 1) kd (.seta o a e) (.Assign [.Attribute (.Name vi vp) (nm a) p] v q) := ⟨vi, vp, p, v, q, rfl, h1, h2, h3, h4⟩
theorem d_seti {o : CE} {i : CE} {e : CE} {ov : Expr} {iv : Expr} {p : Pos} {v : Expr} {q : Pos} (h1 : notComp v = true) (h2 : Chk nm m kd o ov) (h3 : Chk nm m kd i iv) (h4 : Chk nm m kd e v) : ChkS nm (m + 1) kd (.seti o i e) (.Assign [.Subscript ov iv p] v q) := ⟨ov, iv, p, v, q, rfl, h1, h2, h3, h4⟩
theorem d_exp {e : CE} {v : Expr} {p : Pos} (h1 : notComp v = true) (h2 : Chk nm m kd e v) : ChkS nm (m + 1) kd (.exp e) (.Expr v p) := ⟨v, p, rfl, h1, h2⟩
theorem d_ret {e : CE} {v : Expr} {p : Pos} (h2 : Chk nm m kd e v) : ChkS nm (m + 1) kd (.ret e) (.Return (some v) p) := ⟨v, p, rfl, h2⟩
theorem d_iff {t : CE} {b : List CS} {o : List CS} {tv : Expr} {bs : List Stmt} {os : List Stmt} {p : Pos} (h1 : Chk nm m kd t tv) (h2 : ChkSs nm m kd b bs) (h3 : ChkSs nm m kd o os) : ChkS nm (m + 1) kd (.iff t b o) (.If tv bs os p) := ⟨tv, bs, os, p, rfl, h1, h2, h3⟩
theorem d_forr {xs : List Nat} {tt : Bool} {it : CE} {b : List CS} {tg : Expr} {iv : Expr} {bs : List Stmt} {p : Pos} (h1 : ChkT nm kd xs tt tg) (h2 : Chk nm m kd it iv) (h3 : ChkSs nm m kd b bs) : ChkS nm (m + 1) kd (.forr xs tt it b) (.For tg iv bs [] p) := ⟨tg, iv, bs, p, rfl, h1, h2, h3⟩
theorem d_whil {t : CE} {b : List CS} {tv : Expr} {bs : List Stmt} {p : Pos} (h1 : Chk nm m kd t tv) (h3 : ChkSs nm m kd b bs) : ChkS nm (m + 1) kd (.whil t b) (.While tv bs [] p) := ⟨tv, bs, p, rfl, h1, h3⟩
theorem d_rais {c : Nat} {args : List CE} {p : Pos} {es : List Expr} {q : Pos} {r : Pos} (h1 : kd (nm c) = some .globalImplicit) (h2 : (nm c == dbg) = false) (h3 : ChkL (Chk nm m kd) args es) : ChkS nm (m + 1) kd (.rais c args) (.Raise (some (.Call (.Name (nm c) p) es [] q)) none r) := ⟨p, es, q, r, rfl, h1, h2, h3⟩
theorem d_tryy {b : List CS} {c : Nat} {y : Nat} {e : CE} {bs : List Stmt} {p : Pos} {v : Expr} {q : Pos} {r : Pos} {t : Pos} (h1 : ChkSs nm m kd b bs) (h2 : kd (nm c) = some .globalImplicit) (h3 : (nm c == dbg) = false) (h4 : kd (nm y) = some .local) (h5 : Chk nm m kd e v) : ChkS nm (m + 1) kd (.tryy b c y e) (.Try bs [.ExceptHandler (some (.Name (nm c) p)) (some (nm y)) [.Return (some v) q] r] [] [] t) := ⟨bs, p, v, q, r, t, rfl, h1, h2, h3, h4, h5⟩
theorem l_nil {f : CE → Expr → Prop} : ChkL f [] [] := rfl
theorem l_cons {f : CE → Expr → Prop} {c : CE} {cs : List CE} {e : Expr} {es : List Expr} (h1 : f c e) (h2 : ChkL f cs es) : ChkL f (c :: cs) (e :: es) := ⟨e, es, rfl, h1, h2⟩
theorem o_nil {f : CE → Expr → Prop} : ChkO f none none := rfl
theorem o_some {f : CE → Expr → Prop} {c : CE} {e : Expr} (h1 : f c e) : ChkO f (some c) (some e) := ⟨e, rfl, h1⟩
theorem t_one {x : Nat} {p : Pos} (h : kd (nm x) = some .local) : ChkT nm kd [x] false (.Name (nm x) p) := .inl ⟨x, p, rfl, rfl, rfl, h⟩
theorem t_two {xs : List Nat} {es : List Expr} {a : _} {p : Pos} (h : NamesAt nm (fun id => kd id == some .local) xs es) : ChkT nm kd xs true (.Tuple es a p) := .inr ⟨es, a, p, rfl, rfl, h⟩
theorem n_nil {f : Str → Bool} : NamesAt nm f [] [] := rfl
theorem n_cons {f : Str → Bool} {x : Nat} {xs : List Nat} {p : Pos} {es : List Expr} (h : f (nm x) = true) (h2 : NamesAt nm f xs es) : NamesAt nm f (x :: xs) (.Name (nm x) p :: es) := ⟨p, es, rfl, h, h2⟩
theorem s_nil : ChkSs nm (m + 1) kd [] [] := rfl
theorem s_cons {c : CS} {cs : List CS} {s : Stmt} {ss : List Stmt} (h1 : ChkS nm m kd c s) (h2 : ChkSs nm m kd cs ss) : ChkSs nm (m + 1) kd (c :: cs) (s :: ss) := ⟨s, ss, rfl, h1, h2⟩
theorem vs0 {P : List Value → Prop} (h : P []) : ∀ vs : List Value, vs.length = 0 → P vs := fun vs e => (List.length_eq_zero_iff.mp e).symm ▸ h
theorem vsS {n : Nat} {P : List Value → Prop} (h : ∀ a, ∀ vs : List Value, vs.length = n → P (a :: vs)) : ∀ vs : List Value, vs.length = n + 1 → P vs := fun vs e => by
  cases vs with
  | nil => cases e
  | cons a vs => exact h a vs (Nat.succ.inj e)
theorem vs1 {P : List Value → Prop} (h : ∀ a, P [a]) : ∀ vs : List Value, vs.length = 1 → P vs := vsS fun a => vs0 (h a)
theorem vs2 {P : List Value → Prop} (h : ∀ a b, P [a, b]) : ∀ vs : List Value, vs.length = 2 → P vs := vsS fun a => vs1 (h a)
theorem vs3 {P : List Value → Prop} (h : ∀ a b c, P [a, b, c]) : ∀ vs : List Value, vs.length = 3 → P vs := vsS fun a => vs2 (h a)
theorem vs4 {P : List Value → Prop} (h : ∀ a b c d, P [a, b, c, d]) : ∀ vs : List Value, vs.length = 4 → P vs := vsS fun a => vs3 (h a)
theorem vs5 {P : List Value → Prop} (h : ∀ a b c d e, P [a, b, c, d, e]) : ∀ vs : List Value, vs.length = 5 → P vs := vsS fun a => vs4 (h a)
end
end Mine
end
/-! M38: the ground: the functions -/
section
set_option autoImplicit false
set_option linter.unusedVariables false
set_option linter.unusedSimpArgs false
set_option maxRecDepth 100000
namespace Mine
open PySem PySem.W PySem.Calls PyProof.Rows

local macro_rules | `(tactic| walk_at "chk") => `(tactic| first
  | exact s_nil
  | refine s_cons ?_ ?_
  | exact l_nil
  | refine l_cons ?_ ?_
  | exact o_nil
  | refine o_some ?_
  | exact n_nil
  | refine n_cons (by rfl) ?_
  | refine t_one (by rfl)
  | refine t_two ?_
  | refine c_loc (by rfl)
  | refine c_glo (by rfl) (by rfl)
  | refine c_cnone 
  | refine c_cbool 
  | refine c_cint 
  | refine c_cstr (by rfl)
  | refine c_neg ?_
  | refine c_not ?_
  | refine c_bin ?_ ?_
  | refine c_cmp ?_ ?_
  | refine c_cmpNil ?_
  | refine c_bopA ?_
  | refine c_bopO ?_
  | refine c_ite ?_ ?_ ?_
  | refine c_tup ?_
  | refine c_lst ?_
  | refine c_sub ?_ ?_
  | refine c_slice ?_ ?_ ?_
  | refine c_call (by rfl) (by rfl) ?_
  | refine c_bi (by rfl) (by rfl) ?_
  | refine c_meth (by rfl) (by rfl) (by decide) ?_ ?_
  | refine c_mdig (by rfl) (by rfl) ?_
  | refine c_mjoin (by rfl) (by rfl) ?_ ?_
  | refine c_mapp (by rfl) (by rfl) ?_ ?_
  | refine c_mpop (by rfl) (by rfl) ?_
  | refine c_attr (by decide) ?_
  | refine c_fstr (by rfl) (by decide) ?_
  | refine c_fstrs (by rfl) (by decide) ?_
  | refine c_comp0 ?_ (by rfl) ?_ ?_
  | refine c_comp1 ?_ (by rfl) ?_ ?_ ?_
  | refine c_heard (by rfl) (by rfl) (by rfl) (by rfl) (by rfl) ?_
  | refine d_asg (by rfl) (by rfl) ?_
  | refine d_asgT (by rfl) ?_ ⟨envG _, rfl, rfl, by first | exact .inl rfl | exact .inr ⟨_, _, _, _, rfl, by decide, rfl⟩⟩ (by decide) ?_
  | refine d_seta (by decide) (by rfl) ?_ ?_
  | refine d_seti (by rfl) ?_ ?_ ?_
  | refine d_exp (by rfl) ?_
  | refine d_ret ?_
  | refine d_iff ?_ ?_ ?_
  | refine d_forr ?_ ?_ ?_
  | refine d_whil ?_ ?_
  | refine d_rais (by rfl) (by rfl) ?_
  | refine d_tryy ?_ (by rfl) (by rfl) (by rfl) ?_)
section
variable {prog : Program} {w : World} {h : Heap} {mg mb : Str → Option Value}
theorem par_of {fd : FuncData} {nm : Nat → Str} {xs : List Nat} (h : (xs.all fun x => decide (fd.scope.names.lookup (nm x) = some .local ∨ fd.scope.names.lookup (nm x) = some .cell)) = true) : ∀ x ∈ xs, fd.scope.names.lookup (nm x) = some .local ∨ fd.scope.names.lookup (nm x) = some .cell := by
  intro x hx
  have := List.all_eq_true.mp h x hx
  simpa using this
theorem is_f_is_row_of : FnIs (Wof prog w h mg mb) (KK w.params) 100 f_is_row_of none := by
  refine ⟨by rfl, _, _, 60, ⟨⟨_, _, _, rfl⟩, rfl, rfl, rfl, rfl, rfl, rfl, rfl, by rfl, ?_, par_of (by rfl), by decide⟩, by repeat' (walk_at "chk"), fun l h => by cases h⟩
  exact vs2 (fun _ _ => rfl)
theorem is_f_figures_behind : FnIs (Wof prog w h mg mb) (KK w.params) 107 f_figures_behind none := by
  refine ⟨by rfl, _, _, 60, ⟨⟨_, _, _, rfl⟩, rfl, rfl, rfl, rfl, rfl, rfl, rfl, by rfl, ?_, par_of (by rfl), by decide⟩, by repeat' (walk_at "chk"), fun l h => by cases h⟩
  exact vs2 (fun _ _ => rfl)
theorem is_f_number_by : FnIs (Wof prog w h mg mb) (KK w.params) 114 f_number_by none := by
  refine ⟨by rfl, _, _, 60, ⟨⟨_, _, _, rfl⟩, rfl, rfl, rfl, rfl, rfl, rfl, rfl, by rfl, ?_, par_of (by rfl), by decide⟩, by repeat' (walk_at "chk"), fun l h => by cases h⟩
  exact vs1 (fun _ => rfl)
theorem is_f_index_of : FnIs (Wof prog w h mg mb) (KK w.params) 121 f_index_of none := by
  refine ⟨by rfl, _, _, 60, ⟨⟨_, _, _, rfl⟩, rfl, rfl, rfl, rfl, rfl, rfl, rfl, by rfl, ?_, par_of (by rfl), by decide⟩, by repeat' (walk_at "chk"), fun l h => by cases h⟩
  exact vs1 (fun _ => rfl)
theorem is_f_variable : FnIs (Wof prog w h mg mb) (KK w.params) 128 f_variable none := by
  refine ⟨by rfl, _, _, 60, ⟨⟨_, _, _, rfl⟩, rfl, rfl, rfl, rfl, rfl, rfl, rfl, by rfl, ?_, par_of (by rfl), by decide⟩, by repeat' (walk_at "chk"), fun l h => by cases h⟩
  exact vs1 (fun _ => rfl)
theorem is_f_below : FnIs (Wof prog w h mg mb) (KK w.params) 135 f_below none := by
  refine ⟨by rfl, _, _, 60, ⟨⟨_, _, _, rfl⟩, rfl, rfl, rfl, rfl, rfl, rfl, rfl, by rfl, ?_, par_of (by rfl), by decide⟩, by repeat' (walk_at "chk"), fun l h => by cases h⟩
  exact vs1 (fun _ => rfl)
theorem is_f_moved_within : FnIs (Wof prog w h mg mb) (KK w.params) 140 f_moved_within none := by
  refine ⟨by rfl, _, _, 60, ⟨⟨_, _, _, rfl⟩, rfl, rfl, rfl, rfl, rfl, rfl, rfl, by rfl, ?_, par_of (by rfl), by decide⟩, by repeat' (walk_at "chk"), fun l h => by cases h⟩
  exact vs4 (fun _ _ _ _ => rfl)
theorem is_f_shifted : FnIs (Wof prog w h mg mb) (KK w.params) 147 f_shifted none := by
  refine ⟨by rfl, _, _, 60, ⟨⟨_, _, _, rfl⟩, rfl, rfl, rfl, rfl, rfl, rfl, rfl, by rfl, ?_, par_of (by rfl), by decide⟩, by repeat' (walk_at "chk"), fun l h => by cases h⟩
  exact vs3 (fun _ _ _ => rfl)
theorem is_f_is_closed_below : FnIs (Wof prog w h mg mb) (KK w.params) 152 f_is_closed_below none := by
  refine ⟨by rfl, _, _, 60, ⟨⟨_, _, _, rfl⟩, rfl, rfl, rfl, rfl, rfl, rfl, rfl, by rfl, ?_, par_of (by rfl), by decide⟩, by repeat' (walk_at "chk"), fun l h => by cases h⟩
  exact vs2 (fun _ _ => rfl)
theorem is_f_is_closed : FnIs (Wof prog w h mg mb) (KK w.params) 159 f_is_closed none := by
  refine ⟨by rfl, _, _, 60, ⟨⟨_, _, _, rfl⟩, rfl, rfl, rfl, rfl, rfl, rfl, rfl, by rfl, ?_, par_of (by rfl), by decide⟩, by repeat' (walk_at "chk"), fun l h => by cases h⟩
  exact vs1 (fun _ => rfl)
theorem is_f_of_names : FnIs (Wof prog w h mg mb) (KK w.params) 222 f_of_names none := by
  refine ⟨by rfl, _, _, 60, ⟨⟨_, _, _, rfl⟩, rfl, rfl, rfl, rfl, rfl, rfl, rfl, by rfl, ?_, par_of (by rfl), by decide⟩, by repeat' (walk_at "chk"), fun l h => by cases h⟩
  exact vs1 (fun _ => rfl)
theorem is_f_law_dip : FnIs (Wof prog w h mg mb) (KK w.params) 230 f_law_dip none := by
  refine ⟨by rfl, _, _, 60, ⟨⟨_, _, _, rfl⟩, rfl, rfl, rfl, rfl, rfl, rfl, rfl, by rfl, ?_, par_of (by rfl), by decide⟩, by repeat' (walk_at "chk"), fun l h => by cases h⟩
  exact vs2 (fun _ _ => rfl)
theorem is_f_law_figures : FnIs (Wof prog w h mg mb) (KK w.params) 237 f_law_figures none := by
  refine ⟨by rfl, _, _, 60, ⟨⟨_, _, _, rfl⟩, rfl, rfl, rfl, rfl, rfl, rfl, rfl, by rfl, ?_, par_of (by rfl), by decide⟩, by repeat' (walk_at "chk"), fun l h => by cases h⟩
  exact vs1 (fun _ => rfl)
theorem is_f_law_term : FnIs (Wof prog w h mg mb) (KK w.params) 244 f_law_term none := by
  refine ⟨by rfl, _, _, 60, ⟨⟨_, _, _, rfl⟩, rfl, rfl, rfl, rfl, rfl, rfl, rfl, by rfl, ?_, par_of (by rfl), by decide⟩, by repeat' (walk_at "chk"), fun l h => by cases h⟩
  exact vs4 (fun _ _ _ _ => rfl)
theorem is_f_law_late : FnIs (Wof prog w h mg mb) (KK w.params) 258 f_law_late none := by
  refine ⟨by rfl, _, _, 60, ⟨⟨_, _, _, rfl⟩, rfl, rfl, rfl, rfl, rfl, rfl, rfl, by rfl, ?_, par_of (by rfl), by decide⟩, by repeat' (walk_at "chk"), fun l h => by cases h⟩
  exact vs3 (fun _ _ _ => rfl)
theorem is_f_law_indexed : FnIs (Wof prog w h mg mb) (KK w.params) 263 f_law_indexed none := by
  refine ⟨by rfl, _, _, 60, ⟨⟨_, _, _, rfl⟩, rfl, rfl, rfl, rfl, rfl, rfl, rfl, by rfl, ?_, par_of (by rfl), by decide⟩, by repeat' (walk_at "chk"), fun l h => by cases h⟩
  exact vs3 (fun _ _ _ => rfl)
theorem is_f_law_is_read : FnIs (Wof prog w h mg mb) (KK w.params) 268 f_law_is_read none := by
  refine ⟨by rfl, _, _, 60, ⟨⟨_, _, _, rfl⟩, rfl, rfl, rfl, rfl, rfl, rfl, rfl, by rfl, ?_, par_of (by rfl), by decide⟩, by repeat' (walk_at "chk"), fun l h => by cases h⟩
  exact vs1 (fun _ => rfl)
theorem is_r_sign : FnIs (Wof prog w h mg mb) (KK w.params) 180 r_sign none := by
  refine ⟨by rfl, _, _, 60, ⟨⟨_, _, _, rfl⟩, rfl, rfl, rfl, rfl, rfl, rfl, rfl, by rfl, ?_, par_of (by rfl), by decide⟩, by repeat' (walk_at "chk"), fun l h => by cases h⟩
  exact vs1 (fun _ => rfl)
theorem is_r_want : FnIs (Wof prog w h mg mb) (KK w.params) 187 r_want none := by
  refine ⟨by rfl, _, _, 60, ⟨⟨_, _, _, rfl⟩, rfl, rfl, rfl, rfl, rfl, rfl, rfl, by rfl, ?_, par_of (by rfl), by decide⟩, by repeat' (walk_at "chk"), fun l h => by cases h⟩
  exact vs2 (fun _ _ => rfl)
theorem is_r_name : FnIs (Wof prog w h mg mb) (KK w.params) 194 r_name none := by
  refine ⟨by rfl, _, _, 60, ⟨⟨_, _, _, rfl⟩, rfl, rfl, rfl, rfl, rfl, rfl, rfl, by rfl, ?_, par_of (by rfl), by decide⟩, by repeat' (walk_at "chk"), fun l h => by cases h⟩
  exact vs1 (fun _ => rfl)
theorem is_r_leaf : FnIs (Wof prog w h mg mb) (KK w.params) 201 r_leaf none := by
  refine ⟨by rfl, _, _, 60, ⟨⟨_, _, _, rfl⟩, rfl, rfl, rfl, rfl, rfl, rfl, rfl, by rfl, ?_, par_of (by rfl), by decide⟩, by repeat' (walk_at "chk"), fun l h => by cases h⟩
  exact vs1 (fun _ => rfl)
theorem is_r_term : FnIs (Wof prog w h mg mb) (KK w.params) 208 r_term none := by
  refine ⟨by rfl, _, _, 60, ⟨⟨_, _, _, rfl⟩, rfl, rfl, rfl, rfl, rfl, rfl, rfl, by rfl, ?_, par_of (by rfl), by decide⟩, by repeat' (walk_at "chk"), fun l h => by cases h⟩
  exact vs2 (fun _ _ => rfl)
theorem is_r_init : FnIs (Wof prog w h mg mb) (KK w.params) 173 r_init none := by
  refine ⟨by rfl, _, _, 60, ⟨⟨_, _, _, rfl⟩, rfl, rfl, rfl, rfl, rfl, rfl, rfl, by rfl, ?_, par_of (by rfl), by decide⟩, by repeat' (walk_at "chk"), fun l h => by cases h⟩
  exact vs2 (fun _ _ => rfl)
theorem is_f_law : FnIs (Wof prog w h mg mb) (KK w.params) 273 f_law (some 272) := by
  refine ⟨by rfl, _, _, 60, ⟨⟨_, _, _, rfl⟩, rfl, rfl, rfl, rfl, rfl, rfl, rfl, by rfl, ?_, par_of (by rfl), by decide⟩, by repeat' (walk_at "chk"), fun l h => by cases h; rfl⟩
  exact vs1 (fun _ => rfl)
end
end Mine
end
/-! M39: the ground: the exceptions -/
section
set_option autoImplicit false
set_option linter.unusedVariables false
set_option linter.unusedSimpArgs false
set_option maxRecDepth 100000
namespace Mine
open PySem PySem.W PySem.Calls PyProof.Rows
section
variable {prog : Program} {w : World} {h : Heap} {mg mb : Str → Option Value}
theorem sup_heap (G : Gd prog w h mg mb) : ∃ fd p0 p1 ap p2 cp ep q0 q1 q2 q3, SupAt (Wof prog w h mg mb) (KK w.params) 30 40 18 fd [.Expr (.Call (.Attribute (.Call (.Name "super" p0) [] [] p1) "__init__" ap) [.Name "what" p2] [] cp) ep, .Assign [.Attribute (.Name "self" q0) "what" q1] (.Name "what" q2) q3] ∧ (ap.endLine == cp.line) = true ∧ ∀ a b, bindArgs fd ⟨[a, b], []⟩ = pure [(("self" : Str), a), (("what" : Str), b)] := by
  refine ⟨_, _, _, _, _, _, _, _, _, _, _, ⟨⟨_, _, _, rfl⟩, rfl, rfl, rfl, rfl, rfl, rfl, rfl, ⟨_, _, _, rfl⟩, rfl, ⟨_, _, _, _, _, _, _, rfl, rfl, rfl, G.file⟩, rfl, rfl, rfl, rfl, rfl, ?_, G.top, ?_, ?_, ⟨_, rfl⟩, rfl⟩, rfl, fun a b => rfl⟩
  · decide
  · exact mg_none_of G.X G.g (by rfl)
  · exact (G.bu _ (by decide +kernel)).trans (by rfl)
theorem sup_text (G : Gd prog w h mg mb) : ∃ fd p0 p1 ap p2 cp ep q0 q1 q2 q3, SupAt (Wof prog w h mg mb) (KK w.params) 59 69 47 fd [.Expr (.Call (.Attribute (.Call (.Name "super" p0) [] [] p1) "__init__" ap) [.Name "what" p2] [] cp) ep, .Assign [.Attribute (.Name "self" q0) "spot" q1] (.Name "spot" q2) q3] ∧ (ap.endLine == cp.line) = true ∧ fd.scope.names.lookup ("spot" : Str) = some .local ∧ ∀ a b c, bindArgs fd ⟨[a, b, c], []⟩ = pure [(("self" : Str), a), (("what" : Str), b), (("spot" : Str), c)] := by
  refine ⟨_, _, _, _, _, _, _, _, _, _, _, ⟨⟨_, _, _, rfl⟩, rfl, rfl, rfl, rfl, rfl, rfl, rfl, ⟨_, _, _, rfl⟩, rfl, ⟨_, _, _, _, _, _, _, rfl, rfl, rfl, G.file⟩, rfl, rfl, rfl, rfl, rfl, ?_, G.top, ?_, ?_, ⟨_, rfl⟩, rfl⟩, rfl, rfl, fun a b c => rfl⟩
  · decide
  · exact mg_none_of G.X G.g (by rfl)
  · exact (G.bu _ (by decide +kernel)).trans (by rfl)
theorem make_93 (p : Params) : MakeAt (KK p) 93 40 30 30 where
  obj := by refine ⟨_, _, _, _, _, _, _, _, _, _, _, _, _, _, _, _, rfl, ?_, ?_, ?_⟩ <;> rfl
  ini := rfl
  fn := rfl
  kc := ⟨rfl, rfl, rfl, rfl, rfl, rfl, rfl⟩
  sup := ⟨_, rfl, rfl⟩
theorem make_81 (p : Params) : MakeAt (KK p) 81 40 30 30 where
  obj := by refine ⟨_, _, _, _, _, _, _, _, _, _, _, _, _, _, _, _, rfl, ?_, ?_, ?_⟩ <;> rfl
  ini := rfl
  fn := rfl
  kc := ⟨rfl, rfl, rfl, rfl, rfl, rfl, rfl⟩
  sup := ⟨_, rfl, rfl⟩
theorem make_69 (p : Params) : MakeAt (KK p) 69 40 59 30 where
  obj := by refine ⟨_, _, _, _, _, _, _, _, _, _, _, _, _, _, _, _, rfl, ?_, ?_, ?_⟩ <;> rfl
  ini := rfl
  fn := rfl
  kc := ⟨rfl, rfl, rfl, rfl, rfl, rfl, rfl⟩
  sup := ⟨_, rfl, rfl⟩
theorem Gd.raise3 (G : Gd prog w h mg mb) {k : Nat} (hk : 4 ≤ k) {p : PV} : RaiseOk (Wof prog w h mg mb) k (.ref 93) [p] ⟨3, none⟩ := by
  obtain ⟨fd, p0, p1, ap, p2, cp, ep, q0, q1, q2, q3, S, hl, hb⟩ := sup_heap G
  exact raise0 G.wk S (make_93 _) rfl hl hb hk
theorem Gd.raise4 (G : Gd prog w h mg mb) {k : Nat} (hk : 4 ≤ k) {p : PV} : RaiseOk (Wof prog w h mg mb) k (.ref 81) [p] ⟨4, none⟩ := by
  obtain ⟨fd, p0, p1, ap, p2, cp, ep, q0, q1, q2, q3, S, hl, hb⟩ := sup_heap G
  exact raise0 G.wk S (make_81 _) rfl hl hb hk
theorem Gd.raise5 (G : Gd prog w h mg mb) {k : Nat} (hk : 4 ≤ k) {p : PV} {i : Int} : RaiseOk (Wof prog w h mg mb) k (.ref 69) [p, .int i] ⟨5, some i⟩ := by
  obtain ⟨fd, p0, p1, ap, p2, cp, ep, q0, q1, q2, q3, S, hl, hb⟩ := sup_heap G
  obtain ⟨fd', P0, P1, AP, P2, CP, EP, Q0, Q1, Q2, Q3, S', hl', hs', hb'⟩ := sup_text G
  exact raise1 G.wk S S' rfl ⟨_, rfl, rfl⟩ rfl ⟨_, rfl, rfl⟩ hl' hs' hb' rfl (make_69 _) rfl hl hb hk
theorem exc_cls (c : Nat) (hc : c = 3 ∨ c = 4 ∨ c = 5) : (Wof prog w h mg mb).mg = mg ∧ keepIn (KK w.params) (.ref (clsOf c)) = true ∧ ExcCls (Wof prog w h mg mb) (KK w.params) c := by
  rcases hc with rfl | rfl | rfl
  · exact ⟨rfl, rfl, rfl, rfl, rfl⟩
  · exact ⟨rfl, rfl, rfl, rfl, rfl⟩
  · exact ⟨rfl, rfl, rfl, rfl, rfl⟩
end
end Mine
end
/-! M40: the ground: the whole text -/
section
set_option autoImplicit false
set_option linter.unusedVariables false
set_option linter.unusedSimpArgs false
set_option maxRecDepth 100000
namespace Mine
open PySem PySem.W PySem.Calls PyProof.Rows
section
variable {prog : Program} {w : World} {h : Heap} {mg mb : Str → Option Value}
theorem Gd.bat (G : Gd prog w h mg mb) : (hideAll h [270]).BuiltinsAt mg 270 := by
  obtain ⟨bm, ob, h1, h2, h3, h4, h5, h6⟩ := G.bm
  have n1 : bm ≠ 270 := fun z => by
    rw [z, G.tab] at h3
    cases h3
    cases h4
  have n2 : bm ≠ mainGlobals := fun z => by
    obtain ⟨o, es, ep, e, hd, _⟩ := G.g
    rw [z, e] at h3
    cases h3
    rw [h6] at hd; cases hd
  exact ⟨bm, ob, h1, h2, n2, n1, G.old bm ob n1 h3, h4, h5, h6⟩
theorem is_heard : ∃ fdH bodyH, FnAt (Wof prog w h mg mb) (KK w.params) 251 fdH [55] bodyH ∧ HeardAt (Wof prog w h mg mb).nm 55 bodyH ∧ fdH.scope.names.lookup ((Wof prog w h mg mb).nm 55) = some .local ∧ fdH.scope.names.lookup ((Wof prog w h mg mb).nm 3) = some .globalImplicit ∧ fdH.scope.names.lookup ((Wof prog w h mg mb).nm 4) = some .globalImplicit := by
  refine ⟨_, _, ⟨⟨_, _, _, rfl⟩, rfl, rfl, rfl, rfl, rfl, rfl, rfl, by rfl, vs1 (fun _ => rfl), par_of (by rfl), by decide⟩, ⟨fun i => List.getD [_, _, _, _, _, _, _, _] i 0, fun i => List.getD [_, _, _, _, _, _, _, _, _, _, _, _, _, _, _, _, _, _] i ⟨0, 0, 0, 0⟩, rfl, by rfl, by rfl, by rfl⟩, by rfl, by rfl, by rfl⟩
theorem Gd.law (G : Gd prog w h mg mb) : ∃ HA fdH ask bodyH, LawOk (Wof prog w h mg mb) (KK w.params) HA fdH ask bodyH := by
  obtain ⟨fdH, bodyH, F, hb, k1, k2, k3⟩ := is_heard (prog := prog) (w := w) (h := h) (mg := mg) (mb := mb)
  exact ⟨251, fdH, 55, bodyH, {
    hd := codeHd_of_K G.kin (by rfl)
    ba := G.bat
    hmg := mg_of G.X G.g (by rfl)
    keep := by rfl
    fn := F
    body := hb
    kask := k1
    k3 := k2
    k4 := k3
    g3 := mg_of G.X G.g (by rfl)
    g4 := mg_of G.X G.g (by rfl)
    c3 := (exc_cls 3 (.inl rfl)).2.2
    c4 := (exc_cls 4 (.inr (.inl rfl))).2.2
    m43 := by rfl }⟩
theorem Gd.world (G : Gd prog w h mg mb) : World_ (Wof prog w h mg mb) (KK w.params) := ⟨G.wk, G.set, G.law⟩
theorem Gd.gstr (G : Gd prog w h mg mb) {x : Nat} {s : List Nat} {t : Tok} (e : nsIn (KK w.params) mainGlobals (nmOf x) = some (some (.str ⟨s.toArray⟩ t))) : ∃ v, mg (nmOf x) = some v ∧ RelV false Lo.nil (hideAll h [270]) v (.str s) := ⟨_, mg_of G.X G.g e, t, rfl⟩
theorem Gd.gint (G : Gd prog w h mg mb) {x : Nat} {i : Int} {t : Tok} (e : nsIn (KK w.params) mainGlobals (nmOf x) = some (some (.int i t))) : ∃ v, mg (nmOf x) = some v ∧ RelV false Lo.nil (hideAll h [270]) v (.int i) := ⟨_, mg_of G.X G.g e, t, rfl⟩
theorem Gd.glo (G : Gd prog w h mg mb) : ∀ x p, gloT x = some p → ∃ v, (Wof prog w h mg mb).mg ((Wof prog w h mg mb).nm x) = some v ∧ RelV false Lo.nil (Wof prog w h mg mb).b0 v p := by
  intro x p e
  unfold gloT at e
  split at e <;> cases e
  · exact G.gstr (x := 17) (t := _) (by rfl)
  · exact G.gint (x := 24) (t := _) (by rfl)
  · exact G.gstr (x := 35) (t := _) (by rfl)
  · exact G.gint (x := 42) (t := _) (by rfl)
  · refine ⟨_, mg_of G.X G.g (v := .ref _) (by rfl), _, _, rfl, by simp [own, ownT, Lo.nil], ⟨_, G.kin _ _ rfl, rfl, _, rfl⟩, ?_⟩
    exact ⟨⟨_, rfl⟩, ⟨_, rfl⟩, ⟨_, rfl⟩, ⟨_, rfl⟩, ⟨_, rfl⟩, ⟨_, rfl⟩, ⟨_, rfl⟩, ⟨_, rfl⟩, ⟨_, rfl⟩, ⟨_, rfl⟩, ⟨_, rfl⟩, ⟨_, rfl⟩, trivial⟩
end
end Mine
end
/-! M41: the text's functions stand as the evaluator has them -/
section
set_option autoImplicit false
set_option linter.unusedVariables false
set_option linter.unusedSimpArgs false
set_option maxRecDepth 100000
namespace Mine
open PySem PySem.W PySem.Calls PyProof.Rows
section
variable {prog : Program} {w : World} {h : Heap} {mg mb : Str → Option Value}
theorem Gd.fns (G : Gd prog w h mg mb) : ∀ f d, fnTab f = some d → ∃ a, mg (nmOf f) = some (.ref a) ∧ FnIs (Wof prog w h mg mb) (KK w.params) a d none := by
  intro f d e
  refine lkT_all (P := fun f d => ∃ a, mg (nmOf f) = some (.ref a) ∧ FnIs (Wof prog w h mg mb) (KK w.params) a d none) ?_ e
  simp only [fnL, List.forall_mem_cons]
  refine ⟨?_, ?_, ?_, ?_, ?_, ?_, ?_, ?_, ?_, ?_, ?_, ?_, ?_, ?_, ?_, ?_, ?_, fun _ z => nomatch z⟩
  · exact ⟨100, mg_of G.X G.g (n := nmOf 12) (by rfl), is_f_is_row_of⟩
  · exact ⟨107, mg_of G.X G.g (n := nmOf 15) (by rfl), is_f_figures_behind⟩
  · exact ⟨114, mg_of G.X G.g (n := nmOf 19) (by rfl), is_f_number_by⟩
  · exact ⟨121, mg_of G.X G.g (n := nmOf 21) (by rfl), is_f_index_of⟩
  · exact ⟨128, mg_of G.X G.g (n := nmOf 23) (by rfl), is_f_variable⟩
  · exact ⟨135, mg_of G.X G.g (n := nmOf 25) (by rfl), is_f_below⟩
  · exact ⟨140, mg_of G.X G.g (n := nmOf 27) (by rfl), is_f_moved_within⟩
  · exact ⟨147, mg_of G.X G.g (n := nmOf 29) (by rfl), is_f_shifted⟩
  · exact ⟨152, mg_of G.X G.g (n := nmOf 31) (by rfl), is_f_is_closed_below⟩
  · exact ⟨159, mg_of G.X G.g (n := nmOf 32) (by rfl), is_f_is_closed⟩
  · exact ⟨222, mg_of G.X G.g (n := nmOf 40) (by rfl), is_f_of_names⟩
  · exact ⟨230, mg_of G.X G.g (n := nmOf 45) (by rfl), is_f_law_dip⟩
  · exact ⟨237, mg_of G.X G.g (n := nmOf 46) (by rfl), is_f_law_figures⟩
  · exact ⟨244, mg_of G.X G.g (n := nmOf 52) (by rfl), is_f_law_term⟩
  · exact ⟨258, mg_of G.X G.g (n := nmOf 57) (by rfl), is_f_law_late⟩
  · exact ⟨263, mg_of G.X G.g (n := nmOf 60) (by rfl), is_f_law_indexed⟩
  · exact ⟨268, mg_of G.X G.g (n := nmOf 62) (by rfl), is_f_law_is_read⟩
theorem Gd.mts (G : Gd prog w h mg mb) : ∀ m d, mtTab m = some d → ∃ a, findIn (KK w.params) (.ref 211) (nmOf m) = some (some (.ref a)) ∧ isFn (KK w.params) (.ref a) = true ∧ plainGet (KK w.params) 211 (nmOf m) = true ∧ FnIs (Wof prog w h mg mb) (KK w.params) a d none := by
  intro m d e
  refine lkT_all (P := fun m d => ∃ a, findIn (KK w.params) (.ref 211) (nmOf m) = some (some (.ref a)) ∧ isFn (KK w.params) (.ref a) = true ∧ plainGet (KK w.params) 211 (nmOf m) = true ∧ FnIs (Wof prog w h mg mb) (KK w.params) a d none) ?_ e
  simp only [mtL, List.forall_mem_cons]
  refine ⟨?_, ?_, ?_, ?_, ?_, fun _ z => nomatch z⟩
  · exact ⟨180, by rfl, by rfl, by rfl, is_r_sign⟩
  · exact ⟨187, by rfl, by rfl, by rfl, is_r_want⟩
  · exact ⟨194, by rfl, by rfl, by rfl, is_r_name⟩
  · exact ⟨201, by rfl, by rfl, by rfl, is_r_leaf⟩
  · exact ⟨208, by rfl, by rfl, by rfl, is_r_term⟩
theorem Gd.prg (G : Gd prog w h mg mb) : Prg (Wof prog w h mg mb) (KK w.params) gloT where
  w := G.world
  glo := G.glo
  fn := G.fns
  mt := G.mts
  rec_ := ⟨mg_of G.X G.g (n := nmOf 6) (by rfl), by rfl, by rfl, 173, by rfl, by rfl, is_r_init⟩
  ex := by
    intro c hc
    have K : mg (nmOf c) = some (.ref ((Wof prog w h mg mb).cls c)) ∧ keepIn (KK w.params) (.ref ((Wof prog w h mg mb).cls c)) = true := by
      rcases hc with rfl | rfl | rfl
      · exact ⟨mg_of G.X G.g (n := nmOf 3) (by rfl), by rfl⟩
      · exact ⟨mg_of G.X G.g (n := nmOf 4) (by rfl), by rfl⟩
      · exact ⟨mg_of G.X G.g (n := nmOf 5) (by rfl), by rfl⟩
    refine ⟨K.1, K.2, (exc_cls c hc).2.2, fun k args x hk e => ?_⟩
    rcases excTab_inv e with ⟨rfl | rfl, rfl, a, rfl⟩ | ⟨rfl, a, i, rfl, rfl⟩
    · exact G.raise3 hk
    · exact G.raise4 hk
    · exact G.raise5 hk
end
end Mine
end
/-! L4: rules to run a text by -/
section
set_option autoImplicit false
set_option linter.unusedVariables false
set_option linter.unusedSimpArgs false
set_option maxRecDepth 100000
namespace Mine
open PySem
section
variable {α : Type} {x : Option α}
theorem lev_q (k : Nat) : (lev gloT k).q = false := rfl
theorem kq_lev (k : Nat) : kq (lev gloT k) x = x := rfl
theorem kq_law (k : Nat) : kq (lev gloT k).law x = x := rfl
theorem kk_t : kk true x = x := rfl
theorem kqm_0 {Φ : Sig} : kqm Φ .len x = x := rfl
theorem kqm_2 {Φ : Sig} : kqm Φ .str x = x := rfl
theorem kqm_3 {Φ : Sig} : kqm Φ .range x = x := rfl
theorem kqm_4 {Φ : Sig} : kqm Φ .tuple x = x := rfl
noncomputable def atI (o : Option PO) (f : List (Nat × PV) → Option α) : Option α := match o with
  | some (.inst c l) => if c = 6 then f l else none
  | _ => none
theorem atL_some {l : List PV} {f : List PV → Option α} : atL (some (.lst l)) f = f l := rfl
theorem onLoc_k {k : Loc} {f : Loc → Option α} : onLoc (some k) f = f k := rfl
theorem onItem_k {v : PV} {e : Option α} {f : PV → Option α} : onItem (some (some v)) e f = f v := rfl
end
noncomputable def outOf (m : Option RS) : Option (R PV) := m.map resOf
theorem run_eq {Φ : Sig} {f : List Nat × List CS} {args : List PV} {σ : Store} (h : args.length = f.1.length) : runFn Φ f args σ = outOf (EXs Φ f.2 (f.1.zip args) σ) := by
  unfold runFn
  rw [beq_iff_eq.mpr h]; rfl
theorem fn_of {k f : Nat} {d : List Nat × List CS} (h6 : (f == 6) = false) (h : fnTab f = some d) {args : List PV} {σ : Store} (hl : args.length = d.1.length) : (lev gloT (k + 1)).fn f args σ = outOf (EXs (lev gloT k) d.2 (d.1.zip args) σ) := by
  show fnOf (lev gloT k) f args σ = _
  unfold fnOf
  rw [h6, h]
  exact run_eq hl
theorem mt_of {k m : Nat} {d : List Nat × List CS} (h : mtTab m = some d) {c j : Nat} {args : List PV} {σ : Store} (hl : (PV.ref j :: args).length = d.1.length) : (lev gloT (k + 1)).meth c m j args σ = outOf (EXs (lev gloT k) d.2 (d.1.zip (.ref j :: args)) σ) := by
  show mtOf (lev gloT k) c m j args σ = _
  unfold mtOf
  rw [h]
  exact run_eq hl
section
variable {Φ : Sig} {ρ : Loc} {σ : Store}
theorem bnd_okL {α β : Type} {v : α} {f : α → Store → Option (R β)} : bnd (some (.ok v σ)) f = f v σ := rfl
theorem bndE_okL {α : Type} {v : α} {f : α → Store → Option RS} : bndE ρ (some (.ok v σ)) f = f v σ := rfl
theorem rok_someL {α : Type} {v : α} : rok (some v) σ = some (.ok v σ) := rfl
theorem nextOf_nxt {f : Loc → Store → Option RS} : nextOf (some (.nxt ρ σ)) f = f ρ σ := rfl
noncomputable abbrev EC (Φ : Sig) (elt : CE) (xs : List Nat) (tt : Bool) (c : Option CE) (src : PV) (i : Nat) (ρ : Loc) (acc : List PV) (σ : Store) := LC (condOf Φ c) (EV Φ elt) xs tt src i ρ acc σ
noncomputable abbrev EF (Φ : Sig) (xs : List Nat) (tt : Bool) (src : PV) (i : Nat) (b : List CS) (ρ : Loc) (σ : Store) := LF (EXs Φ b) xs tt src i ρ σ
noncomputable abbrev EW (Φ : Sig) (t : CE) (b : List CS) (ρ : Loc) (σ : Store) := LW (ET Φ t) (EXs Φ b) ρ σ
theorem EV_loc {x : Nat} : EV Φ (.loc x) ρ σ = rok (lkB ρ x) σ := rfl
theorem EV_cnone : EV Φ .cnone ρ σ = some (.ok .none σ) := rfl
theorem EV_cstr {s : List Nat} : EV Φ (.cstr s) ρ σ = some (.ok (.str s) σ) := rfl
theorem EV_bin {op : Operator} {a b : CE} : EV Φ (.bin op a b) ρ σ = bnd (EV Φ a ρ σ) (kBin op (EV Φ b ρ)) := rfl
theorem EV_cmp {op : CmpOp} {a b : CE} : EV Φ (.cmp op a b) ρ σ = bnd (EV Φ a ρ σ) (kCmp op (EV Φ b ρ)) := rfl
theorem EV_cmpNil {op : CmpOp} {a : CE} : EV Φ (.cmpNil op a) ρ σ = bnd (EV Φ a ρ σ) (kNil op) := rfl
theorem EV_bop {c : Bool} {l : List CE} : EV Φ (.bop c l) ρ σ = EB Φ l c ρ σ := rfl
theorem EV_ite {t b o : CE} : EV Φ (.ite t b o) ρ σ = bnd (ET Φ t ρ σ) (kIte (EV Φ b ρ) (EV Φ o ρ)) := rfl
theorem EV_tup {l : List CE} : EV Φ (.tup l) ρ σ = bnd (EVs Φ l ρ σ) kTup := rfl
theorem EV_lst {l : List CE} : EV Φ (.lst l) ρ σ = kq Φ (bnd (EVs Φ l ρ σ) kLst) := rfl
theorem EV_sub {a b : CE} : EV Φ (.sub a b) ρ σ = bnd (EV Φ a ρ σ) (kSub (EV Φ b ρ)) := rfl
theorem EV_slice {a : CE} {lo hi : Option CE} : EV Φ (.slice a lo hi) ρ σ = bnd (EV Φ a ρ σ) (kSl (EO Φ lo ρ) (EO Φ hi ρ)) := rfl
theorem EV_call {f : Nat} {l : List CE} : EV Φ (.call f l) ρ σ = kq Φ (kk (Φ.kn f) (bnd (EVs Φ l ρ σ) (Φ.fn f))) := rfl
theorem EV_bi {b : Bi} {l : List CE} : EV Φ (.bi b l) ρ σ = kqm Φ b (bnd (EVs Φ l ρ σ) (kBi b)) := rfl
theorem EV_meth {o : CE} {m : Nat} {l : List CE} : EV Φ (.meth o m l) ρ σ = kq Φ (bnd (EV Φ o ρ σ) (kMeth Φ m (EVs Φ l ρ))) := rfl
theorem EV_mjoin {o a : CE} : EV Φ (.mjoin o a) ρ σ = bnd (EV Φ o ρ σ) (kJoin (EV Φ a ρ)) := rfl
theorem EV_mapp {o a : CE} : EV Φ (.mapp o a) ρ σ = kq Φ (bnd (EV Φ o ρ σ) (kApp (EV Φ a ρ))) := rfl
theorem EV_mpop {o : CE} : EV Φ (.mpop o) ρ σ = kq Φ (bnd (EV Φ o ρ σ) kPop) := rfl
theorem EV_attr {o : CE} {a : Nat} : EV Φ (.attr o a) ρ σ = bnd (EV Φ o ρ σ) (kAttr a) := rfl
theorem EV_comp {elt : CE} {xs fv : List Nat} {tt : Bool} {it : CE} {c : Option CE} : EV Φ (.comp elt xs tt fv it c) ρ σ = kq Φ (bnd (EV Φ it ρ σ) fun src σ => kComp (condOf Φ c) (EV Φ elt) xs tt src σ (captureB ρ fv)) := rfl
theorem EV_heard {i : Nat} {fv : List Nat} {e : CE} : EV Φ (.heard i fv e) ρ σ = kq Φ (kk Φ.top (kHeard i (EV Φ.low e) σ (captureB ρ fv))) := rfl
theorem ET_loc {x : Nat} : ET Φ (.loc x) ρ σ = bnd (rok (lkB ρ x) σ) kTruth := rfl
theorem ET_cmp {op : CmpOp} {a b : CE} : ET Φ (.cmp op a b) ρ σ = bnd (bnd (EV Φ a ρ σ) (kCmp op (EV Φ b ρ))) kTruth := rfl
theorem ET_bop {c : Bool} {l : List CE} : ET Φ (.bop c l) ρ σ = ETs Φ l c ρ σ := rfl
theorem ETs_cons {c : Bool} {x : CE} {r : List CE} : ETs Φ (x :: r) c ρ σ = bnd (ET Φ x ρ σ) (kTs c (ETs Φ r c ρ)) := rfl
theorem EB_cons {c : Bool} {x y : CE} {r : List CE} : EB Φ (x :: y :: r) c ρ σ = bnd (EV Φ x ρ σ) (kB c (EB Φ (y :: r) c ρ)) := rfl
theorem EVs_cons {x : CE} {r : List CE} : EVs Φ (x :: r) ρ σ = bnd (EV Φ x ρ σ) (kVs (EVs Φ r ρ)) := rfl
theorem EO_some {x : CE} : EO Φ (some x) ρ σ = bnd (EV Φ x ρ σ) kO := rfl
theorem cond_s {x : CE} : condOf Φ (some x) ρ σ = ET Φ x ρ σ := rfl
theorem EX_asg {x : Nat} {e : CE} : EX Φ (.asg x e) ρ σ = kq Φ (bndE ρ (EV Φ e ρ σ) (kAsg ρ x)) := rfl
theorem EX_asgT {xs : List Nat} {e : CE} : EX Φ (.asgT xs e) ρ σ = kq Φ (bndE ρ (EV Φ e ρ σ) (kAsgT ρ xs)) := rfl
theorem EX_seta {o : CE} {a : Nat} {e : CE} : EX Φ (.seta o a e) ρ σ = kq Φ (bndE ρ (EV Φ e ρ σ) (kSeta ρ (EV Φ o ρ) a)) := rfl
theorem EX_exp {e : CE} : EX Φ (.exp e) ρ σ = kq Φ (bndE ρ (EV Φ e ρ σ) (kExp ρ)) := rfl
theorem EX_ret {e : CE} : EX Φ (.ret e) ρ σ = bndE ρ (EV Φ e ρ σ) (kRet ρ) := rfl
theorem EX_iff {t : CE} {b o : List CS} : EX Φ (.iff t b o) ρ σ = bndE ρ (ET Φ t ρ σ) (kIff (EXs Φ b ρ) (EXs Φ o ρ)) := rfl
theorem EX_forr {xs : List Nat} {tt : Bool} {it : CE} {b : List CS} : EX Φ (.forr xs tt it b) ρ σ = kq Φ (bndE ρ (EV Φ it ρ σ) (kForr ρ xs tt (EXs Φ b))) := rfl
theorem EX_rais {c : Nat} {l : List CE} : EX Φ (.rais c l) ρ σ = kq Φ (kk (Φ.kx c) (bndE ρ (EVs Φ l ρ σ) (kRais Φ ρ c))) := rfl
theorem EX_tryy {b : List CS} {c y : Nat} {e : CE} : EX Φ (.tryy b c y e) ρ σ = kq Φ (kk (Φ.kx c) (excOf (EXs Φ b ρ σ) (kTry Φ c y e))) := rfl
theorem EXs_cons {s : CS} {r : List CS} : EXs Φ (s :: r) ρ σ = nextOf (EX Φ s ρ σ) (EXs Φ r) := rfl
theorem EXs_nx {s : CS} {r : List CS} {ρ' : Loc} {σ' : Store} (h : EX Φ s ρ σ = some (.nxt ρ' σ')) : EXs Φ (s :: r) ρ σ = EXs Φ r ρ' σ' := by
  rw [EXs_cons, h]
  rfl
theorem EXs_rt {s : CS} {r : List CS} {v : PV} {ρ' : Loc} {σ' : Store} (h : EX Φ s ρ σ = some (.ret v ρ' σ')) : EXs Φ (s :: r) ρ σ = some (.ret v ρ' σ') := by
  rw [EXs_cons, h]
  rfl
theorem iff_t {c : CE} {b o r : List CS} {σ' : Store} (h : ET Φ c ρ σ = some (.ok true σ')) : EXs Φ (.iff c b o :: r) ρ σ = nextOf (EXs Φ b ρ σ') (EXs Φ r) := by
  rw [EXs_cons, EX_iff, h]; rfl
theorem iff_f {c : CE} {b o r : List CS} {σ' : Store} (h : ET Φ c ρ σ = some (.ok false σ')) : EXs Φ (.iff c b o :: r) ρ σ = nextOf (EXs Φ o ρ σ') (EXs Φ r) := by
  rw [EXs_cons, EX_iff, h]; rfl
theorem if_skip {c : CE} {b r : List CS} {σ' : Store} (h : ET Φ c ρ σ = some (.ok false σ')) : EXs Φ (.iff c b [] :: r) ρ σ = EXs Φ r ρ σ' := iff_f h
theorem asg_nx {k x : Nat} {e : CE} {r : List CS} {v : PV} {σ' : Store} (h : EV (lev gloT k) e ρ σ = some (.ok v σ')) : EXs (lev gloT k) (.asg x e :: r) ρ σ = EXs (lev gloT k) r (setLB ρ x v) σ' := by
  rw [EXs_cons, EX_asg, kq_lev, h]; rfl
theorem ret_is {e : CE} {r : List CS} {v : PV} {σ' : Store} (h : EV Φ e ρ σ = some (.ok v σ')) : EXs Φ (.ret e :: r) ρ σ = some (.ret v ρ σ') := by
  rw [EXs_cons, EX_ret, h]; rfl
theorem ret_exc {e : CE} {r : List CS} {x : PX} {σ' : Store} (h : EV Φ e ρ σ = some (.exc x σ')) : EXs Φ (.ret e :: r) ρ σ = some (.exc x ρ σ') := by
  rw [EXs_cons, EX_ret, h]; rfl
theorem asg_exc {k x : Nat} {e : CE} {r : List CS} {v : PX} {σ' : Store} (h : EV (lev gloT k) e ρ σ = some (.exc v σ')) : EXs (lev gloT k) (.asg x e :: r) ρ σ = some (.exc v ρ σ') := by
  rw [EXs_cons, EX_asg, kq_lev, h]; rfl
theorem asgT_nx {k : Nat} {xs : List Nat} {e : CE} {r : List CS} {l : List PV} {ρ' : Loc} {σ' : Store} (h : EV (lev gloT k) e ρ σ = some (.ok (.tup l) σ')) (h' : setLsB ρ xs l = some ρ') : EXs (lev gloT k) (.asgT xs e :: r) ρ σ = EXs (lev gloT k) r ρ' σ' := by
  rw [EXs_cons, EX_asgT, kq_lev, h]
  show nextOf (kAsgT2 _ (setLsB ρ xs l)) _ = _
  rw [h']; rfl
theorem seqAt_nat {l : List PV} {d : Nat} (h : l.length ≤ SZ) : seqAt l d = l[d]? := if_pos ⟨Int.natCast_nonneg _, h⟩
theorem pick_at {α : Type} (l : List α) (f : α → PV) (hl : l.length ≤ SZ) {d : Nat} (hd : d < l.length) : ∃ w, w ∈ l ∧ seqAt (l.map f) d = some (f w) := by
  refine ⟨l[d], List.getElem_mem hd, ?_⟩
  rw [seqAt_nat (by rw [List.length_map]; exact hl), List.getElem?_map, List.getElem?_eq_getElem hd]
  rfl
theorem EC_eqB {elt : CE} {xs : List Nat} {tt : Bool} {c : Option CE} {src : PV} {i : Nat} {acc : List PV} : EC Φ elt xs tt c src i ρ acc σ = onItem (itemAt σ tt src i) (some (.ok acc σ)) fun v => onLoc (takeVB ρ xs tt v) fun ρ => bnd (condOf Φ c ρ σ) fun b σ =>
        if b = true then bnd (EV Φ elt ρ σ) fun u σ => if acc.length < SZ then EC Φ elt xs tt c src (i + 1) ρ (acc ++ [u]) σ else .none
        else EC Φ elt xs tt c src (i + 1) ρ acc σ := LC_eq
theorem EF_eqB {xs : List Nat} {tt : Bool} {src : PV} {i : Nat} {b : List CS} : EF Φ xs tt src i b ρ σ = onItem (itemAt σ tt src i) (some (.nxt ρ σ)) fun v => onLoc (takeVB ρ xs tt v) fun ρ => nextOf (EXs Φ b ρ σ) (LF (EXs Φ b) xs tt src (i + 1)) := LF_eq
theorem EW_eq {t : CE} {b : List CS} : EW Φ t b ρ σ = bndE ρ (ET Φ t ρ σ) fun c σ => if c = true then nextOf (EXs Φ b ρ σ) (LW (ET Φ t) (EXs Φ b)) else some (.nxt ρ σ) := LW_eq
theorem EC_end {elt : CE} {xs : List Nat} {tt : Bool} {c : Option CE} {src : PV} {i : Nat} {acc : List PV} (h : itemAt σ tt src i = some none) : EC Φ elt xs tt c src i ρ acc σ = some (.ok acc σ) := by
  rw [EC_eqB, h]; rfl
theorem EC_add {elt : CE} {xs : List Nat} {tt : Bool} {c : Option CE} {src : PV} {i : Nat} {acc : List PV} {v u : PV} {ρ' : Loc} {σ' σ'' : Store} (h : itemAt σ tt src i = some (some v)) (ht : takeVB ρ xs tt v = some ρ') (hc : condOf Φ c ρ' σ = some (.ok true σ')) (he : EV Φ elt ρ' σ' = some (.ok u σ'')) (hl : acc.length < SZ) : EC Φ elt xs tt c src i ρ acc σ = EC Φ elt xs tt c src (i + 1) ρ' (acc ++ [u]) σ'' := by
  rw [EC_eqB, h, onItem_k, ht, onLoc_k, hc, bnd_okL, if_pos rfl, he, bnd_okL, if_pos hl]
theorem EC_skip {elt : CE} {xs : List Nat} {tt : Bool} {c : Option CE} {src : PV} {i : Nat} {acc : List PV} {v : PV} {ρ' : Loc} {σ' : Store} (h : itemAt σ tt src i = some (some v)) (ht : takeVB ρ xs tt v = some ρ') (hc : condOf Φ c ρ' σ = some (.ok false σ')) : EC Φ elt xs tt c src i ρ acc σ = EC Φ elt xs tt c src (i + 1) ρ' acc σ' := by
  rw [EC_eqB, h, onItem_k, ht, onLoc_k, hc, bnd_okL]; rfl
theorem EF_end {xs : List Nat} {tt : Bool} {src : PV} {i : Nat} {b : List CS} (h : itemAt σ tt src i = some none) : EF Φ xs tt src i b ρ σ = some (.nxt ρ σ) := by
  rw [EF_eqB, h]; rfl
theorem EF_at {xs : List Nat} {tt : Bool} {src : PV} {i : Nat} {b : List CS} {v : PV} {ρ' : Loc} {r : Option RS} (h : itemAt σ tt src i = some (some v)) (ht : takeVB ρ xs tt v = some ρ') (hb : EXs Φ b ρ' σ = r) : EF Φ xs tt src i b ρ σ = nextOf r (LF (EXs Φ b) xs tt src (i + 1)) := by
  rw [EF_eqB, h, onItem_k, ht, onLoc_k, hb]
theorem EW_end {t : CE} {b : List CS} {σ' : Store} (h : ET Φ t ρ σ = some (.ok false σ')) : EW Φ t b ρ σ = some (.nxt ρ σ') := by
  rw [EW_eq, h]; rfl
theorem EW_at {t : CE} {b : List CS} {σ' : Store} {r : Option RS} (h : ET Φ t ρ σ = some (.ok true σ')) (hb : EXs Φ b ρ σ' = r) : EW Φ t b ρ σ = nextOf r (LW (ET Φ t) (EXs Φ b)) := by
  rw [EW_eq, h, bndE_okL, if_pos rfl, hb]
theorem rng_at {n i : Nat} (hn : n ≤ 100000) (h : i < n) : itemAt σ false (.rng n) i = some (some (.int i)) := by
  show (if false = true ∨ SZ < (n : Int).natAbs then none else some (if (i : Int) < n then some (PV.int i) else none)) = _
  rw [if_neg (fun z => z.elim (fun z => nomatch z) fun z => Nat.not_lt_of_le hn z), if_pos (Int.ofNat_lt.mpr h)]
theorem rng_end {n : Nat} (hn : n ≤ 100000) : itemAt σ false (.rng n) n = some none := by
  show (if false = true ∨ SZ < (n : Int).natAbs then none else some (if (n : Int) < n then some (PV.int n) else none)) = _
  rw [if_neg (fun z => z.elim (fun z => nomatch z) fun z => Nat.not_lt_of_le hn z), if_neg (Int.lt_irrefl _)]
end
section
variable {σ : Store} {ρ : Loc} {v : PV} {px : PX}
end
section
variable {σ : Store} {x y : Int} {s t : List Nat} {l m : List PV} {k : Nat} {a b : PV}
theorem add_int : binop .Add (.int x) (.int y) = some (.int (x + y)) := rfl
theorem add_str : binop .Add (.str s) (.str t) = if s.length + t.length ≤ SZ then some (.str (s ++ t)) else none := rfl
theorem sub_int : binop .Sub (.int x) (.int y) = some (.int (x - y)) := rfl
theorem mul_int : binop .Mult (.int x) (.int y) = if x.natAbs < IB ∧ y.natAbs < IB then some (.int (x * y)) else none := rfl
theorem neg_int : negop (.int x) = some (.int (-x)) := rfl
theorem eq_op : cmpop .Eq a b = eqv a b := rfl
theorem sub_tup : subop σ (.tup l) (.int x) = seqAt l x := rfl
theorem sub_ref : subop σ (.ref k) (.int x) = atL σ[k]? fun l => seqAt l x := rfl
theorem truth_bool {c : Bool} : truth (.bool c) = some c := rfl
theorem attr_ref {at' sp : Nat} : attrop σ (.ref k) at' sp = atI σ[k]? fun q => lkB q at' := (show attrop σ (.ref k) at' sp = atI σ[k]? fun q => lk q at' from rfl).trans (by simp only [lkB_eq])
theorem len_str : biop .len [.str s] σ = if s.length ≤ SZ then some (.int s.length) else .none := rfl
theorem len_ref : biop .len [.ref k] σ = atL σ[k]? fun l => if l.length ≤ SZ then some (.int l.length) else .none := rfl
theorem slice_from : sliceop (.str s) (some (.int x)) none = if s.length ≤ SZ then (if 0 ≤ x ∧ x ≤ SZ then some (.str (s.drop x.toNat)) else .none) else .none := by
  show (if s.length ≤ SZ then slStr s (if 0 ≤ x ∧ x ≤ SZ then some x.toNat else none) (some s.length) else none) = _
  by_cases h : 0 ≤ x ∧ x ≤ SZ
  · rw [if_pos h, if_pos h]
    simp [slStr, cut]
  · rw [if_neg h, if_neg h]
    rfl
theorem slice_to : sliceop (.str s) none (some (.int x)) = if s.length ≤ SZ then (if 0 ≤ x ∧ x ≤ SZ then some (.str (s.take x.toNat)) else .none) else .none := by
  show (if s.length ≤ SZ then slStr s (some 0) (if 0 ≤ x ∧ x ≤ SZ then some x.toNat else none) else none) = _
  by_cases h : 0 ≤ x ∧ x ≤ SZ
  · rw [if_pos h, if_pos h]
    rfl
  · rw [if_neg h, if_neg h]
    rfl
theorem slice_both : sliceop (.str s) (some (.int x)) (some (.int y)) = if s.length ≤ SZ then (if 0 ≤ x ∧ x ≤ SZ ∧ 0 ≤ y ∧ y ≤ SZ then some (.str ((s.take y.toNat).drop x.toNat)) else .none) else .none := by
  show (if s.length ≤ SZ then slStr s (if 0 ≤ x ∧ x ≤ SZ then some x.toNat else none) (if 0 ≤ y ∧ y ≤ SZ then some y.toNat else none) else none) = _
  by_cases h : 0 ≤ x ∧ x ≤ SZ
  · by_cases h' : 0 ≤ y ∧ y ≤ SZ
    · rw [if_pos h, if_pos h', if_pos (show 0 ≤ x ∧ x ≤ SZ ∧ 0 ≤ y ∧ y ≤ SZ from ⟨h.1, h.2, h'⟩)]
      rfl
    · rw [if_pos h, if_neg h', if_neg (fun z : 0 ≤ x ∧ x ≤ SZ ∧ 0 ≤ y ∧ y ≤ SZ => h' z.2.2)]
      rfl
  · rw [if_neg h, if_neg (fun z : 0 ≤ x ∧ x ≤ SZ ∧ 0 ≤ y ∧ y ≤ SZ => h ⟨z.1, z.2.1⟩)]
    rfl
theorem slice_lst : sliceop (.lst l) none (some (.int x)) = if l.length ≤ SZ then (if 0 ≤ x ∧ x ≤ SZ then some (.lst (l.take x.toNat)) else .none) else .none := rfl
theorem setAtt_ref {at' : Nat} : setAtt σ k at' a = atI σ[k]? fun q => if q.length < 90 then some (σ.set k (.inst 6 (setLB q at' a))) else .none := by
  unfold setAtt atI
  rcases σ[k]? with _ | (_ | ⟨c, q⟩ | _) <;> try rfl
  dsimp only
  by_cases hc : c = 6
  · subst hc; simp [setLB_eq]
  · simp [hc]
end
theorem fn_12 (k : Nat) (args : List PV) (σ : Store) (h : args.length = f_is_row_of.1.length) : (lev gloT (k + 1)).fn 12 args σ = outOf (EXs (lev gloT k) f_is_row_of.2 (f_is_row_of.1.zip args) σ) := fn_of rfl rfl h
theorem kn_15 (k : Nat) : (lev gloT (k + 1)).kn 15 = true := rfl
theorem fn_15 (k : Nat) (args : List PV) (σ : Store) (h : args.length = f_figures_behind.1.length) : (lev gloT (k + 1)).fn 15 args σ = outOf (EXs (lev gloT k) f_figures_behind.2 (f_figures_behind.1.zip args) σ) := fn_of rfl rfl h
theorem kn_19 (k : Nat) : (lev gloT (k + 1)).kn 19 = true := rfl
theorem fn_19 (k : Nat) (args : List PV) (σ : Store) (h : args.length = f_number_by.1.length) : (lev gloT (k + 1)).fn 19 args σ = outOf (EXs (lev gloT k) f_number_by.2 (f_number_by.1.zip args) σ) := fn_of rfl rfl h
theorem fn_21 (k : Nat) (args : List PV) (σ : Store) (h : args.length = f_index_of.1.length) : (lev gloT (k + 1)).fn 21 args σ = outOf (EXs (lev gloT k) f_index_of.2 (f_index_of.1.zip args) σ) := fn_of rfl rfl h
theorem kn_23 (k : Nat) : (lev gloT (k + 1)).kn 23 = true := rfl
theorem fn_23 (k : Nat) (args : List PV) (σ : Store) (h : args.length = f_variable.1.length) : (lev gloT (k + 1)).fn 23 args σ = outOf (EXs (lev gloT k) f_variable.2 (f_variable.1.zip args) σ) := fn_of rfl rfl h
theorem fn_25 (k : Nat) (args : List PV) (σ : Store) (h : args.length = f_below.1.length) : (lev gloT (k + 1)).fn 25 args σ = outOf (EXs (lev gloT k) f_below.2 (f_below.1.zip args) σ) := fn_of rfl rfl h
theorem fn_27 (k : Nat) (args : List PV) (σ : Store) (h : args.length = f_moved_within.1.length) : (lev gloT (k + 1)).fn 27 args σ = outOf (EXs (lev gloT k) f_moved_within.2 (f_moved_within.1.zip args) σ) := fn_of rfl rfl h
theorem fn_29 (k : Nat) (args : List PV) (σ : Store) (h : args.length = f_shifted.1.length) : (lev gloT (k + 1)).fn 29 args σ = outOf (EXs (lev gloT k) f_shifted.2 (f_shifted.1.zip args) σ) := fn_of rfl rfl h
theorem fn_31 (k : Nat) (args : List PV) (σ : Store) (h : args.length = f_is_closed_below.1.length) : (lev gloT (k + 1)).fn 31 args σ = outOf (EXs (lev gloT k) f_is_closed_below.2 (f_is_closed_below.1.zip args) σ) := fn_of rfl rfl h
theorem fn_32 (k : Nat) (args : List PV) (σ : Store) (h : args.length = f_is_closed.1.length) : (lev gloT (k + 1)).fn 32 args σ = outOf (EXs (lev gloT k) f_is_closed.2 (f_is_closed.1.zip args) σ) := fn_of rfl rfl h
theorem kn_40 (k : Nat) : (lev gloT (k + 1)).kn 40 = true := rfl
theorem fn_40 (k : Nat) (args : List PV) (σ : Store) (h : args.length = f_of_names.1.length) : (lev gloT (k + 1)).fn 40 args σ = outOf (EXs (lev gloT k) f_of_names.2 (f_of_names.1.zip args) σ) := fn_of rfl rfl h
theorem fn_45 (k : Nat) (args : List PV) (σ : Store) (h : args.length = f_law_dip.1.length) : (lev gloT (k + 1)).fn 45 args σ = outOf (EXs (lev gloT k) f_law_dip.2 (f_law_dip.1.zip args) σ) := fn_of rfl rfl h
theorem fn_46 (k : Nat) (args : List PV) (σ : Store) (h : args.length = f_law_figures.1.length) : (lev gloT (k + 1)).fn 46 args σ = outOf (EXs (lev gloT k) f_law_figures.2 (f_law_figures.1.zip args) σ) := fn_of rfl rfl h
theorem kn_52 (k : Nat) : (lev gloT (k + 1)).kn 52 = true := rfl
theorem fn_52 (k : Nat) (args : List PV) (σ : Store) (h : args.length = f_law_term.1.length) : (lev gloT (k + 1)).fn 52 args σ = outOf (EXs (lev gloT k) f_law_term.2 (f_law_term.1.zip args) σ) := fn_of rfl rfl h
theorem fn_57 (k : Nat) (args : List PV) (σ : Store) (h : args.length = f_law_late.1.length) : (lev gloT (k + 1)).fn 57 args σ = outOf (EXs (lev gloT k) f_law_late.2 (f_law_late.1.zip args) σ) := fn_of rfl rfl h
theorem fn_60 (k : Nat) (args : List PV) (σ : Store) (h : args.length = f_law_indexed.1.length) : (lev gloT (k + 1)).fn 60 args σ = outOf (EXs (lev gloT k) f_law_indexed.2 (f_law_indexed.1.zip args) σ) := fn_of rfl rfl h
theorem fn_62 (k : Nat) (args : List PV) (σ : Store) (h : args.length = f_law_is_read.1.length) : (lev gloT (k + 1)).fn 62 args σ = outOf (EXs (lev gloT k) f_law_is_read.2 (f_law_is_read.1.zip args) σ) := fn_of rfl rfl h
theorem mt_13 (k c j : Nat) (args : List PV) (σ : Store) (h : (PV.ref j :: args).length = r_sign.1.length) : (lev gloT (k + 1)).meth c 13 j args σ = outOf (EXs (lev gloT k) r_sign.2 (r_sign.1.zip (.ref j :: args)) σ) := mt_of rfl h
theorem mt_33 (k c j : Nat) (args : List PV) (σ : Store) (h : (PV.ref j :: args).length = r_want.1.length) : (lev gloT (k + 1)).meth c 33 j args σ = outOf (EXs (lev gloT k) r_want.2 (r_want.1.zip (.ref j :: args)) σ) := mt_of rfl h
theorem mt_34 (k c j : Nat) (args : List PV) (σ : Store) (h : (PV.ref j :: args).length = r_name.1.length) : (lev gloT (k + 1)).meth c 34 j args σ = outOf (EXs (lev gloT k) r_name.2 (r_name.1.zip (.ref j :: args)) σ) := mt_of rfl h
theorem mt_36 (k c j : Nat) (args : List PV) (σ : Store) (h : (PV.ref j :: args).length = r_leaf.1.length) : (lev gloT (k + 1)).meth c 36 j args σ = outOf (EXs (lev gloT k) r_leaf.2 (r_leaf.1.zip (.ref j :: args)) σ) := mt_of rfl h
theorem mt_37 (k c j : Nat) (args : List PV) (σ : Store) (h : (PV.ref j :: args).length = r_term.1.length) : (lev gloT (k + 1)).meth c 37 j args σ = outOf (EXs (lev gloT k) r_term.2 (r_term.1.zip (.ref j :: args)) σ) := mt_of rfl h
theorem kx_5 (k : Nat) : (lev gloT (k + 2)).kx 5 = true := rfl
end Mine
end
/-! L5: draws -/
section
set_option autoImplicit false
set_option linter.unusedVariables false
set_option linter.unusedSimpArgs false
set_option maxRecDepth 100000
namespace Mine
open PySem
/-- the store with the law's feed -/
noncomputable def fd (T : List Nat) (s : List Int) (p : Nat) (tl : Store) : Store := .tab T :: .lst [.lst (s.map .int), .int p] :: tl
section
variable {T : List Nat} {s : List Int} {p : Nat} {tl : Store}
end
noncomputable def dpN : CE := .bi .len [(.sub (.loc 43) (.cint 0))]
noncomputable def dpM : CE := .bin .Mod (.bin .Add (.bin .Add (.bin .Mult (.bin .Mult (.cint 7) (.loc 0)) (.loc 0)) (.bin .Mult (.cint 5) (.loc 0))) dpN) (.cint 107)
noncomputable def dpρ (many : Int) (p : Nat) : Loc := [(43, .ref 1), (44, .int many), (0, .int p)]
theorem dp_mod {Φ : Sig} {e : CE} {ρ : Loc} {σ : Store} {x many : Int} (h : EV Φ e ρ σ = some (.ok (.int x) σ)) (hm : 0 < many) (h44 : lkB ρ 44 = some (.int many)) : EV Φ (.bin .Mod e (.loc 44)) ρ σ = some (.ok (.int (x.fmod many)) σ) := by
  rw [EV_bin, h, bnd_okL, kBin, EV_loc, h44]
  show rok (if 0 < many then some (PV.int (x.fmod many)) else none) σ = _
  rw [if_pos hm]; rfl
theorem fmod_nat (x : Int) {many : Int} (hm : 0 < many) : ∃ d : Nat, (d : Int) < many ∧ x.fmod many = d := by
  obtain ⟨d, hd⟩ := Int.eq_ofNat_of_zero_le (Int.fmod_nonneg_of_pos x hm)
  exact ⟨d, hd ▸ Int.fmod_lt_of_pos x hm, hd⟩
theorem dip_ok (k : Nat) (T : List Nat) (s : List Int) (p : Nat) (tl : Store) (many : Int) (hm : 0 < many) (hp : p < 1000) (hs : s.length ≤ 40) :
    ∃ d : Nat, (d : Int) < many ∧ (lev gloT (k + 1)).fn 45 [.ref 1, .int many] (fd T s p tl) = some (.ok (.int d) (fd T s (p + 1) tl)) := by
  have hsz : (s.map PV.int).length ≤ SZ := by rw [List.length_map]; exact Nat.le_trans hs (by decide)
  have eN : EV (lev gloT k) dpN (dpρ many p) (fd T s (p + 1) tl) = some (.ok (.int s.length) (fd T s (p + 1) tl)) := by
    show rok (if (s.map PV.int).length ≤ SZ then some (PV.int (s.map PV.int).length) else none) _ = _
    rw [if_pos hsz, List.length_map]; rfl
  have eC : ET (lev gloT k) (.cmp .Lt (.loc 0) dpN) (dpρ many p) (fd T s (p + 1) tl) = some (.ok (decide ((p : Int) < s.length)) (fd T s (p + 1) tl)) := by
    show bnd (bnd (EV (lev gloT k) dpN (dpρ many p) (fd T s (p + 1) tl)) (kCmp2 .Lt (.int p))) kTruth = _
    rw [eN]; rfl
  have run : (lev gloT (k + 1)).fn 45 [.ref 1, .int many] (fd T s p tl) = outOf (EXs (lev gloT k) [.iff (.cmp .Lt (.loc 0) dpN) [.ret (.bin .Mod (.sub (.sub (.loc 43) (.cint 0)) (.loc 0)) (.loc 44))] [], .ret (.bin .Mod dpM (.loc 44))] (dpρ many p) (fd T s (p + 1) tl)) := fn_45 k _ _ rfl
  by_cases hps : p < s.length
  · obtain ⟨d, hd, hd'⟩ := fmod_nat s[p] hm
    rw [decide_eq_true (Int.ofNat_lt.mpr hps)] at eC
    have e : EV (lev gloT k) (.sub (.sub (.loc 43) (.cint 0)) (.loc 0)) (dpρ many p) (fd T s (p + 1) tl) = some (.ok (.int s[p]) (fd T s (p + 1) tl)) := by
      show rok (seqAt (s.map PV.int) p) _ = _
      rw [seqAt_nat hsz, List.getElem?_map, List.getElem?_eq_getElem hps]; rfl
    exact ⟨d, hd, run.trans ((congrArg outOf ((iff_t eC).trans (congrArg (nextOf · _) (ret_is (dp_mod e hm rfl))))).trans (by rw [hd']; rfl))⟩
  · obtain ⟨d, hd, hd'⟩ := fmod_nat ((7 * p * p + 5 * p + s.length : Int).fmod 107) hm
    rw [decide_eq_false (mt Int.ofNat_lt.mp hps)] at eC
    have h2 : p < IB := Nat.lt_trans hp (by decide)
    have h1 : 7 * p < IB := Nat.lt_of_le_of_lt (Nat.mul_le_mul_left 7 (Nat.le_of_lt hp)) (by decide)
    have e7 : EV (lev gloT k) (.bin .Mult (.cint 7) (.loc 0)) (dpρ many p) (fd T s (p + 1) tl) = some (.ok (.int (7 * p)) (fd T s (p + 1) tl)) := by
      show rok (if (7 : Int).natAbs < IB ∧ (p : Int).natAbs < IB then some (PV.int (7 * p)) else none) _ = _
      rw [if_pos ⟨by decide, h2⟩]; rfl
    have e8 : EV (lev gloT k) (.bin .Mult (.bin .Mult (.cint 7) (.loc 0)) (.loc 0)) (dpρ many p) (fd T s (p + 1) tl) = some (.ok (.int (7 * p * p)) (fd T s (p + 1) tl)) := by
      rw [EV_bin, e7]
      show rok (if (7 * (p : Int)).natAbs < IB ∧ (p : Int).natAbs < IB then some (PV.int (7 * p * p)) else none) _ = _
      rw [if_pos ⟨h1, h2⟩]; rfl
    have e5 : EV (lev gloT k) (.bin .Mult (.cint 5) (.loc 0)) (dpρ many p) (fd T s (p + 1) tl) = some (.ok (.int (5 * p)) (fd T s (p + 1) tl)) := by
      show rok (if (5 : Int).natAbs < IB ∧ (p : Int).natAbs < IB then some (PV.int (5 * p)) else none) _ = _
      rw [if_pos ⟨by decide, h2⟩]; rfl
    have eM : EV (lev gloT k) dpM (dpρ many p) (fd T s (p + 1) tl) = some (.ok (.int ((7 * p * p + 5 * p + s.length : Int).fmod 107)) (fd T s (p + 1) tl)) := by
      rw [dpM, EV_bin, EV_bin, EV_bin, e8, bnd_okL, kBin, e5]
      show bnd (bnd (EV (lev gloT k) dpN (dpρ many p) (fd T s (p + 1) tl)) (kBin2 .Add _)) _ = _
      rw [eN]
      show rok (if (0 : Int) < 107 then some (PV.int ((7 * p * p + 5 * p + s.length : Int).fmod 107)) else none) _ = _
      rw [if_pos (by decide)]; rfl
    exact ⟨d, hd, run.trans ((congrArg outOf ((if_skip eC).trans (ret_is (dp_mod eM hm rfl)))).trans (by rw [hd']; rfl))⟩
end Mine
end
/-! L6: figures -/
section
set_option autoImplicit false
set_option linter.unusedVariables false
set_option linter.unusedSimpArgs false
set_option maxRecDepth 100000
namespace Mine
open PySem
structure FigOk (f : List Nat) : Prop where
  ne : f ≠ []
  dig : f.all isDig = true
  lead : f.head? = some 48 → f = [48]
  len : f.length ≤ 4310
  can : f.length ≤ 9 → digs (numOf f : Int) = f
noncomputable def idxOf (f : List Nat) : PV := if f.length ≤ 9 then .int (numOf f) else .none
theorem digs_one (d : Nat) (h : d ≤ 9) : digs (d : Int) = [48 + d] := by
  have : ∀ d : Fin 10, digs (d.1 : Int) = [48 + d.1] := by decide +kernel
  exact this ⟨d, Nat.lt_succ_of_le h⟩
noncomputable def wds : List Nat := [1, 1, 2, 3, 8, 9, 9, 9, 10, 10, 12, 4310]
theorem can_all : ∀ w ∈ [1, 2, 3, 4, 5, 6, 7, 8], ∀ d ∈ [0, 1, 2, 3, 4, 5, 6, 7, 8], ∀ c ∈ [48, 57, 53], digs (numOf ((48 + (1 + d)) :: List.replicate w c) : Int) = (48 + (1 + d)) :: List.replicate w c := by decide +kernel
theorem can_one : ∀ d ∈ [0, 1, 2, 3, 4, 5, 6, 7, 8], digs (numOf [48 + d] : Int) = [48 + d] := by decide +kernel
theorem isDig_at (c : Nat) : isDig (48 + c) = Nat.ble c 9 := by
  unfold isDig
  rw [show Nat.ble 48 (48 + c) = true from Nat.ble_eq.mpr (Nat.le_add_right ..), Bool.true_and, Bool.eq_iff_iff, Nat.ble_eq, Nat.ble_eq]
  exact Nat.add_le_add_iff_left (n := 48) (m := c) (k := 9)
theorem mem_nine {d : Nat} (h : d < 9) : d ∈ [0, 1, 2, 3, 4, 5, 6, 7, 8] := by
  have : ∀ d : Fin 9, d.1 ∈ [0, 1, 2, 3, 4, 5, 6, 7, 8] := by decide
  exact this ⟨d, h⟩
theorem mem_eight {d : Nat} (h0 : d ≠ 0) (h : d < 9) : d ∈ [1, 2, 3, 4, 5, 6, 7, 8] := by
  have : ∀ d : Fin 9, d.1 ≠ 0 → d.1 ∈ [1, 2, 3, 4, 5, 6, 7, 8] := by decide
  exact this ⟨d, h⟩ h0
/-- figures as the law makes them -/
theorem fig_made {d m c : Nat} (hd : d < 9) (hc : c ∈ [48, 57, 53]) (h0 : m ≠ 0) (hm : m + 1 ≤ 4310) : FigOk ((48 + (1 + d)) :: List.replicate m c) := by
  refine ⟨List.cons_ne_nil _ _, ?_, fun h => ?_, by rw [List.length_cons, List.length_replicate]; exact hm, fun h => ?_⟩
  · have : ∀ c ∈ [48, 57, 53], isDig c = true := by decide
    rw [List.all_cons, isDig_at, Nat.ble_eq.mpr (Nat.add_comm 1 d ▸ hd), Bool.true_and, List.all_eq_true]
    exact fun x hx => (List.eq_of_mem_replicate hx) ▸ this c hc
  · exact absurd (Nat.add_left_cancel (n := 48) (m := 1 + d) (k := 0) (Option.some.inj h)) (Nat.ne_of_gt (Nat.add_pos_left Nat.one_pos d))
  · rw [List.length_cons, List.length_replicate] at h
    exact can_all m (mem_eight h0 h) d (mem_nine hd) c hc
noncomputable def fgρ (w d2 d3 : Nat) : Loc := [(43, .ref 1), (47, .int w), (49, .int d2), (16, .int d3)]
noncomputable def fg3 : CS := .iff (.cmp .Eq (.loc 47) (.cint 1)) [.ret (.tup [(.bi .str [(.loc 49)]), (.loc 49)])] []
noncomputable def fgS : CE := .bi .str [(.bin .Add (.cint 1) (.loc 49))]
noncomputable def fgT : CE := .bin .Mult (.sub (.tup [(.cstr [48]), (.cstr [57]), (.cstr [53])]) (.loc 16)) (.bin .Sub (.loc 47) (.cint 1))
noncomputable def fgI : CE := .ite (.cmp .Lt (.loc 47) (.cint 10)) (.bi .int [(.loc 18)]) .cnone
noncomputable def fg5 : CS := .ret (.tup [(.loc 18), fgI])
theorem figures_ok (k : Nat) (T : List Nat) (s : List Int) (p : Nat) (tl : Store) (hp : p < 990) (hs : s.length ≤ 40) :
    ∃ f : List Nat, FigOk f ∧ (lev gloT (k + 2)).fn 46 [.ref 1] (fd T s p tl) = some (.ok (.tup [.str f, idxOf f]) (fd T s (p + 3) tl)) := by
  obtain ⟨d1, h1, e1⟩ := dip_ok k T s p tl 12 (by decide) (Nat.lt_trans hp (by decide)) hs
  obtain ⟨d2, h2, e2⟩ := dip_ok k T s (p + 1) tl 9 (by decide) (Nat.lt_of_lt_of_le (Nat.add_lt_add_right hp 1) (by decide)) hs
  obtain ⟨d3, h3, e3⟩ := dip_ok k T s (p + 1 + 1) tl 3 (by decide) (Nat.lt_of_lt_of_le (Nat.add_lt_add_right hp 2) (by decide)) hs
  obtain ⟨w, hw, ew⟩ := pick_at wds (fun w => .int w) (by decide) (Int.ofNat_lt.mp h1 : d1 < 12)
  obtain ⟨c, hc, ec⟩ := pick_at [48, 57, 53] (fun c => .str [c]) (by decide) (Int.ofNat_lt.mp h3 : d3 < 3)
  have hd : d2 < 9 := Int.ofNat_lt.mp h2
  have s1 : EV (lev gloT (k + 1)) (.sub (.glo 48) (.call 45 [(.loc 43), (.cint 12)])) [(43, .ref 1)] (fd T s p tl) = some (.ok (.int w) (fd T s (p + 1) tl)) := by
    show bnd ((lev gloT (k + 1)).fn 45 [.ref 1, .int 12] (fd T s p tl)) (kSub2 (.tup (wds.map fun w : Nat => PV.int w))) = _
    rw [e1, bnd_okL, kSub2, sub_tup, ew]; rfl
  have s2 : EV (lev gloT (k + 1)) (.tup [(.call 45 [(.loc 43), (.cint 9)]), (.call 45 [(.loc 43), (.cint 3)])]) [(43, .ref 1), (47, .int w)] (fd T s (p + 1) tl) = some (.ok (.tup [.int d2, .int d3]) (fd T s (p + 3) tl)) := by
    have c2 : EV (lev gloT (k + 1)) (.call 45 [(.loc 43), (.cint 9)]) [(43, .ref 1), (47, .int w)] (fd T s (p + 1) tl) = _ := e2
    have c3 : EV (lev gloT (k + 1)) (.call 45 [(.loc 43), (.cint 3)]) [(43, .ref 1), (47, .int w)] (fd T s (p + 1 + 1) tl) = _ := e3
    rw [EV_tup, EVs_cons, c2, bnd_okL, kVs, EVs_cons, c3]; rfl
  have run := (fn_46 (k + 1) [.ref 1] (fd T s p tl) rfl).trans (congrArg outOf ((asg_nx (ρ := [(43, .ref 1)]) s1).trans (asgT_nx (xs := [49, 16]) (r := [fg3, .asg 18 (.bin .Add fgS fgT), fg5]) (ρ' := fgρ w d2 d3) s2 rfl)))
  by_cases w1 : w = 1
  · subst w1
    have eS : EV (lev gloT (k + 1)) (.bi .str [(.loc 49)]) (fgρ 1 d2 d3) (fd T s (p + 3) tl) = some (.ok (.str [48 + d2]) (fd T s (p + 3) tl)) := by
      show rok (if d2 < 1000000000000000000 then some (PV.str (digs d2)) else none) _ = _
      rw [if_pos (Nat.lt_trans hd (by decide)), digs_one d2 (Nat.le_of_lt hd)]; rfl
    refine ⟨[48 + d2], ⟨List.cons_ne_nil _ _, ?_, fun h => ?_, (by decide : 1 ≤ 4310), fun _ => can_one d2 (mem_nine hd)⟩, run.trans ?_⟩
    · rw [List.all_cons, isDig_at, Nat.ble_eq.mpr (Nat.le_of_lt hd)]; rfl
    · rw [Nat.add_left_cancel (Option.some.inj h : 48 + d2 = 48 + 0)]
    · refine (congrArg outOf (iff_t rfl)).trans ?_
      rw [EXs_cons, EX_ret, EV_tup, EVs_cons, eS, show idxOf [48 + d2] = .int d2 from congrArg (fun n : Nat => PV.int n) (show 0 * 10 + (48 + d2 - 48) = d2 by rw [Nat.add_sub_cancel_left, Nat.zero_mul, Nat.zero_add])]
      rfl
  · have wb : 1 ≤ w ∧ w ≤ 4310 := (by decide : ∀ w ∈ wds, 1 ≤ w ∧ w ≤ 4310) w hw
    obtain ⟨m, rfl⟩ := Nat.exists_eq_add_of_le' wb.1
    have hm0 : m ≠ 0 := fun z => w1 (by rw [z])
    have hm : m ≤ SZ := Nat.le_trans (Nat.le_of_succ_le wb.2) (by decide)
    have F := fig_made hd hc hm0 wb.2
    have e3 : ET (lev gloT (k + 1)) (.cmp .Eq (.loc 47) (.cint 1)) (fgρ (m + 1) d2 d3) (fd T s (p + 3) tl) = some (.ok ((m + 1 : Nat) == (1 : Int)) (fd T s (p + 3) tl)) := rfl
    rw [show (((m + 1 : Nat) : Int) == 1) = false from beq_false_of_ne (fun z => w1 (Int.ofNat_inj.mp z))] at e3
    have eS : EV (lev gloT (k + 1)) fgS (fgρ (m + 1) d2 d3) (fd T s (p + 3) tl) = some (.ok (.str [48 + (1 + d2)]) (fd T s (p + 3) tl)) := by
      show rok (if 1 + d2 < 1000000000000000000 then some (PV.str (digs (1 + d2 : Nat))) else none) _ = _
      rw [if_pos (Nat.lt_of_lt_of_le (Nat.add_lt_add_left hd 1) (by decide)), digs_one (1 + d2) (Nat.add_comm 1 d2 ▸ hd)]; rfl
    have eT : EV (lev gloT (k + 1)) fgT (fgρ (m + 1) d2 d3) (fd T s (p + 3) tl) = some (.ok (.str (List.replicate m c)) (fd T s (p + 3) tl)) := by
      have e : EV (lev gloT (k + 1)) (.sub (.tup [(.cstr [48]), (.cstr [57]), (.cstr [53])]) (.loc 16)) (fgρ (m + 1) d2 d3) (fd T s (p + 3) tl) = some (.ok (.str [c]) (fd T s (p + 3) tl)) := by
        show rok (seqAt ([48, 57, 53].map fun c => PV.str [c]) d3) _ = _
        rw [ec]; rfl
      have eW : EV (lev gloT (k + 1)) (.bin .Sub (.loc 47) (.cint 1)) (fgρ (m + 1) d2 d3) (fd T s (p + 3) tl) = some (.ok (.int m) (fd T s (p + 3) tl)) := by
        show some (R.ok (PV.int (((m + 1 : Nat) : Int) - 1)) _) = _
        rw [Int.natCast_add, Int.natCast_one, Int.add_sub_cancel]
      rw [fgT, EV_bin, e, bnd_okL, kBin, eW]
      show rok (if 0 ≤ (m : Int) ∧ (m : Int) ≤ SZ then some (PV.str (List.replicate m c)) else none) _ = _
      rw [if_pos ⟨Int.natCast_nonneg _, Int.ofNat_le.mpr hm⟩]; rfl
    have eF : EV (lev gloT (k + 1)) (.bin .Add fgS fgT) (fgρ (m + 1) d2 d3) (fd T s (p + 3) tl) = some (.ok (.str ((48 + (1 + d2)) :: List.replicate m c)) (fd T s (p + 3) tl)) := by
      rw [EV_bin, eS, bnd_okL, kBin, eT]
      show rok (if 1 + (List.replicate m c).length ≤ SZ then some (PV.str ((48 + (1 + d2)) :: List.replicate m c)) else none) _ = _
      rw [if_pos (by rw [List.length_replicate, Nat.add_comm]; exact Nat.le_trans wb.2 (by decide))]; rfl
    generalize hf : (48 + (1 + d2)) :: List.replicate m c = f at F eF
    have hl : f.length = m + 1 := by rw [← hf, List.length_cons, List.length_replicate]
    have eI : EV (lev gloT (k + 1)) fgI (setLB (fgρ (m + 1) d2 d3) 18 (.str f)) (fd T s (p + 3) tl) = some (.ok (idxOf f) (fd T s (p + 3) tl)) := by
      show bnd (some (R.ok (decide ((m : Int) + 1 < 10)) _)) (kIte (EV _ (.bi .int [(.loc 18)]) _) (EV _ .cnone _)) = _
      by_cases h9 : f.length ≤ 9
      · rw [decide_eq_true (show (m : Int) + 1 < 10 from Int.ofNat_lt.mpr (Nat.lt_succ_of_le (hl ▸ h9))), idxOf, if_pos h9]
        show rok (if f ≠ [] ∧ f.length ≤ 18 ∧ f.all isDig = true then some (PV.int (numOf f)) else none) _ = _
        rw [if_pos ⟨F.ne, Nat.le_trans h9 (by decide), F.dig⟩]; rfl
      · rw [decide_eq_false (show ¬ (m : Int) + 1 < 10 from fun z => h9 (hl ▸ Nat.le_of_lt_succ (Int.ofNat_lt.mp z))), idxOf, if_neg h9]; rfl
    refine ⟨f, F, run.trans ((congrArg outOf ((if_skip e3).trans (asg_nx eF))).trans ?_)⟩
    rw [fg5, EXs_cons, EX_ret, EV_tup, EVs_cons, EV_loc, show lkB (setLB (fgρ (m + 1) d2 d3) 18 (.str f)) 18 = some (.str f) from rfl, rok_someL, bnd_okL, kVs, EVs_cons, eI]
    rfl
end Mine
end
/-! L7: the drawn term -/
section
set_option autoImplicit false
set_option linter.unusedVariables false
set_option linter.unusedSimpArgs false
set_option maxRecDepth 100000
namespace Mine
open PySem
inductive Tm where
  | var (f : List Nat)
  | oth (s : List Nat)
  | lam (t : Tm)
  | app (l r : Tm)
noncomputable def sVar : List Nat := [118, 97, 114]
noncomputable def sLam : List Nat := [108, 97, 109]
noncomputable def sApp : List Nat := [97, 112, 112]
noncomputable def Tm.rep : Tm → PV
  | .var f => .tup [.str (sVar ++ f)]
  | .oth s => .tup [.str s]
  | .lam t => .tup [.str sLam, t.rep]
  | .app l r => .tup [.str sApp, l.rep, r.rep]
noncomputable def Tm.lvs : Tm → Nat → List (List Nat × Nat)
  | .var f, a => [(f, a)]
  | .oth _, _ => []
  | .lam t, a => t.lvs (a + 1)
  | .app l r, a => l.lvs a ++ r.lvs a
noncomputable def rowOf (x : List Nat × Nat) : PV := .tup [idxOf x.1, .int x.2]
noncomputable def oths : List (List Nat) := [[97], [118, 97, 114], [118, 97, 114, 48, 49], [118, 97, 114, 45, 49], [118, 97, 114, 105, 97, 98, 108, 101], [118, 97, 114, 50, 120]]
noncomputable def Tm.ok : Tm → Prop
  | .var f => FigOk f
  | .oth s => s ∈ oths
  | .lam t => t.ok
  | .app l r => l.ok ∧ r.ok
noncomputable def Tm.dep : Tm → Nat
  | .var _ => 0
  | .oth _ => 0
  | .lam t => t.dep + 1
  | .app l r => max l.dep r.dep + 1
noncomputable def cst : Nat → Nat
  | 0 => 5
  | d + 1 => 5 + 2 * cst d
noncomputable def trW : CE := .ite (.cmp .Gt (.loc 50) (.cint 0)) (.call 45 [(.loc 43), (.cint 5)]) (.call 45 [(.loc 43), (.cint 2)])
noncomputable def trN : CE := .bi .len [(.loc 51)]
noncomputable def trA : CE := .bop true [(.cmp .Eq (.loc 53) (.cint 0)), (.cmp .Lt trN (.cint 4))]
noncomputable def trA1 : List CS := [.asgT [18, 22] (.call 46 [(.loc 43)]), .exp (.mapp (.loc 51) (.tup [(.loc 22), (.loc 2)])), .ret (.tup [(.bin .Add (.cstr [118, 97, 114]) (.loc 18))])]
noncomputable def trO : CE := .sub (.tup [(.tup [(.cstr [97])]), (.tup [(.cstr [118, 97, 114])]), (.tup [(.cstr [118, 97, 114, 48, 49])]), (.tup [(.cstr [118, 97, 114, 45, 49])]), (.tup [(.cstr [118, 97, 114, 105, 97, 98, 108, 101])]), (.tup [(.cstr [118, 97, 114, 50, 120])])]) (.call 45 [(.loc 43), (.cint 6)])
noncomputable def trC (e : CE) : CE := .call 52 [(.loc 43), (.bin .Sub (.loc 50) (.cint 1)), e, (.loc 51)]
noncomputable def trL : CE := .tup [(.cstr [108, 97, 109]), trC (.bin .Add (.loc 2) (.cint 1))]
noncomputable def trR : List CS := [.iff (.cmp .Lt (.loc 53) (.cint 4)) [.ret trL] [], .asg 39 (trC (.loc 2)), .ret (.tup [(.cstr [97, 112, 112]), (.loc 39), trC (.loc 2)])]
noncomputable def trS : List CS := .iff trA trA1 [] :: .iff (.cmp .Lt (.loc 53) (.cint 2)) [.ret trO] [] :: trR
noncomputable def trρ (deep around w : Nat) : Loc := [(43, .ref 1), (50, .int deep), (2, .int around), (51, .ref 2), (53, .int w)]
theorem way_ok (k deep : Nat) (T : List Nat) (s : List Int) (p : Nat) (tl : Store) (a b : PV) (hp : p < 990) (hs : s.length ≤ 40) :
    ∃ w : Nat, w < 5 ∧ (deep = 0 → w < 2) ∧ EV (lev gloT (k + 1)) trW [(43, .ref 1), (50, .int deep), (2, a), (51, b)] (fd T s p tl) = some (.ok (.int w) (fd T s (p + 1) tl)) := by
  have e : ET (lev gloT (k + 1)) (.cmp .Gt (.loc 50) (.cint 0)) [(43, .ref 1), (50, .int deep), (2, a), (51, b)] (fd T s p tl) = some (.ok (decide ((0 : Int) < deep)) (fd T s p tl)) := rfl
  have hp : p < 1000 := Nat.lt_trans hp (by decide)
  cases deep with
  | zero =>
    obtain ⟨d, h1, e1⟩ := dip_ok k T s p tl 2 (by decide) hp hs
    have h1 : d < 2 := Int.ofNat_lt.mp h1
    exact ⟨d, Nat.lt_trans h1 (by decide), fun _ => h1, e1⟩
  | succ n =>
    obtain ⟨d, h1, e1⟩ := dip_ok k T s p tl 5 (by decide) hp hs
    rw [decide_eq_true (Int.natCast_pos.mpr (Nat.succ_pos n))] at e
    refine ⟨d, Int.ofNat_lt.mp h1, fun h => absurd h (Nat.succ_ne_zero n), ?_⟩
    rw [trW, EV_ite, e]
    exact e1
section
variable {k deep around w : Nat} {T : List Nat} {s : List Int} {p : Nat} {rws : List PV} {tl : Store}
theorem tr_len {ρ : Loc} (h : lkB ρ 51 = some (.ref 2)) (hr : rws.length ≤ 4) : EV (lev gloT k) trN ρ (fd T s p (.lst rws :: tl)) = some (.ok (.int rws.length) (fd T s p (.lst rws :: tl))) := by
  rw [trN, EV_bi, kqm_0, EVs_cons, EV_loc, h]
  show rok (if rws.length ≤ SZ then some (PV.int rws.length) else none) _ = _
  rw [if_pos (Nat.le_trans hr (by decide))]; rfl
theorem tr_a (hr : rws.length ≤ 4) : ET (lev gloT k) trA (trρ deep around w) (fd T s p (.lst rws :: tl)) = some (.ok (decide (w = 0 ∧ rws.length < 4)) (fd T s p (.lst rws :: tl))) := by
  have e : ET (lev gloT k) (.cmp .Lt trN (.cint 4)) (trρ deep around w) (fd T s p (.lst rws :: tl)) = some (.ok (decide ((rws.length : Int) < 4)) (fd T s p (.lst rws :: tl))) := by
    rw [ET_cmp, tr_len rfl hr]; rfl
  rw [trA, ET_bop, ETs_cons]
  show kTs true (ETs (lev gloT k) [(.cmp .Lt trN (.cint 4))] true (trρ deep around w)) ((w : Int) == 0) _ = _
  by_cases h0 : w = 0
  · rw [show ((w : Int) == 0) = true from beq_iff_eq.mpr (Int.ofNat_inj.mpr h0), kTs, ETs_cons, e, show decide (w = 0 ∧ rws.length < 4) = decide ((rws.length : Int) < 4) from decide_eq_decide.mpr ⟨fun z => Int.ofNat_lt.mpr z.2, fun z => ⟨h0, Int.ofNat_lt.mp z⟩⟩]
    cases decide ((rws.length : Int) < 4) <;> rfl
  · rw [show ((w : Int) == 0) = false from beq_false_of_ne (fun z => h0 (Int.ofNat_inj.mp z)), decide_eq_false (fun z => h0 z.1)]; rfl
theorem tr_lt {n : Nat} : ET (lev gloT k) (.cmp .Lt (.loc 53) (.cint n)) (trρ deep around w) (fd T s p (.lst rws :: tl)) = some (.ok (decide (w < n)) (fd T s p (.lst rws :: tl))) := by
  rw [show decide (w < n) = decide ((w : Int) < n) from decide_eq_decide.mpr Int.ofNat_lt.symm]; rfl
theorem tr_call {ρ : Loc} {e : CE} {x : PV} (h43 : lkB ρ 43 = some (.ref 1)) (h50 : lkB ρ 50 = some (.int ((deep + 1 : Nat) : Int))) (h51 : lkB ρ 51 = some (.ref 2)) {σ : Store} (he : EV (lev gloT (k + 1)) e ρ σ = some (.ok x σ)) : EV (lev gloT (k + 1)) (trC e) ρ σ = (lev gloT (k + 1)).fn 52 [.ref 1, .int deep, x, .ref 2] σ := by
  rw [trC, EV_call, kq_lev, kn_52, kk_t, EVs_cons, EV_loc, h43, rok_someL, bnd_okL, kVs, EVs_cons, EV_bin, EV_loc, h50]
  show bnd (bnd (bnd (some (R.ok (PV.int (((deep + 1 : Nat) : Int) - 1)) σ)) (kVs _)) _) _ = _
  rw [Int.natCast_add, Int.natCast_one, Int.add_sub_cancel, bnd_okL, kVs, EVs_cons, he, bnd_okL, kVs, EVs_cons, EV_loc, h51]
  rfl
theorem leaf_ok (hs : s.length ≤ 40) (hp : p < 980) (hr : rws.length ≤ 4) (hw : w < 2) :
    ∃ t : Tm, ∃ p' : Nat, t.ok ∧ t.dep = 0 ∧ p' ≤ p + 3 ∧ (rws ++ (t.lvs around).map rowOf).length ≤ 4 ∧
      outOf (EXs (lev gloT (k + 2)) trS (trρ deep around w) (fd T s p (.lst rws :: tl))) = some (.ok t.rep (fd T s p' (.lst (rws ++ (t.lvs around).map rowOf) :: tl))) := by
  have eA := tr_a (k := k + 2) (deep := deep) (around := around) (w := w) (T := T) (s := s) (p := p) (tl := tl) hr
  by_cases c1 : w = 0 ∧ rws.length < 4
  · obtain ⟨f, hf, ef⟩ := figures_ok k T s p (.lst rws :: tl) (Nat.lt_trans hp (by decide)) hs
    rw [decide_eq_true c1] at eA
    refine ⟨.var f, p + 3, hf, rfl, Nat.le_refl _, by rw [List.length_append]; exact c1.2, (congrArg outOf (iff_t eA)).trans ?_⟩
    have e1 := asgT_nx (k := k + 2) (e := .call 46 [(.loc 43)]) (ρ := trρ deep around w) (xs := [18, 22]) (r := trA1.tail) (ρ' := trρ deep around w ++ [(18, .str f), (22, idxOf f)]) ef rfl
    have e2 : EX (lev gloT (k + 2)) (.exp (.mapp (.loc 51) (.tup [(.loc 22), (.loc 2)]))) (trρ deep around w ++ [(18, .str f), (22, idxOf f)]) (fd T s (p + 3) (.lst rws :: tl)) = some (.nxt (trρ deep around w ++ [(18, .str f), (22, idxOf f)]) (fd T s (p + 3) (.lst (rws ++ [.tup [idxOf f, .int around]]) :: tl))) := by
      show bndE _ (if rws.length ≤ SZ then some (R.ok PV.none (fd T s (p + 3) (.lst (rws ++ [.tup [idxOf f, .int around]]) :: tl))) else none) (kExp _) = _
      rw [if_pos (Nat.le_trans hr (by decide))]; rfl
    rw [show trA1 = .asgT [18, 22] (.call 46 [(.loc 43)]) :: trA1.tail from rfl, e1, show trA1.tail = .exp (.mapp (.loc 51) (.tup [(.loc 22), (.loc 2)])) :: trA1.tail.tail from rfl, EXs_nx e2]
    show outOf (nextOf (nextOf (bndE _ (bnd (bnd (rok (binop .Add (.str sVar) (.str f)) _) _) _) _) _) _) = _
    rw [add_str, if_pos (show sVar.length + f.length ≤ SZ from Nat.le_trans (Nat.add_le_add_left hf.len 3) (by decide))]; rfl
  · obtain ⟨d, hd, ed⟩ := dip_ok (k + 1) T s p (.lst rws :: tl) 6 (by decide) (Nat.lt_trans hp (by decide)) hs
    obtain ⟨o, ho, eo⟩ := pick_at oths (fun o => .tup [.str o]) (by decide) (Int.ofNat_lt.mp hd : d < 6)
    rw [decide_eq_false c1] at eA
    have eB := tr_lt (k := k + 2) (deep := deep) (around := around) (w := w) (n := 2) (T := T) (s := s) (p := p) (rws := rws) (tl := tl)
    rw [decide_eq_true hw] at eB
    refine ⟨.oth o, p + 1, ho, rfl, Nat.add_le_add_left (by decide) p, by rw [List.length_append]; exact hr, (congrArg outOf ((if_skip eA).trans (iff_t eB))).trans ?_⟩
    rw [EXs_cons, EX_ret, trO, EV_sub]
    show outOf (nextOf (nextOf (bndE _ (bnd ((lev gloT (k + 2)).fn 45 [.ref 1, .int 6] _) (kSub2 (.tup (oths.map fun o => .tup [.str o])))) _) _) _) = _
    rw [ed, bnd_okL, kSub2, sub_tup, eo]
    show _ = some (R.ok _ (fd T s (p + 1) (.lst (rws ++ []) :: tl)))
    rw [List.append_nil]; rfl
end
theorem term_ok (k : Nat) (T : List Nat) (s : List Int) (tl : Store) (hs : s.length ≤ 40) : ∀ (deep around p : Nat) (rws : List PV), p + cst deep < 980 → rws.length ≤ 4 →
    ∃ t : Tm, ∃ p' : Nat, t.ok ∧ t.dep ≤ deep ∧ p' ≤ p + cst deep ∧ (rws ++ (t.lvs around).map rowOf).length ≤ 4 ∧
      (lev gloT (k + deep + 3)).fn 52 [.ref 1, .int deep, .int around, .ref 2] (fd T s p (.lst rws :: tl)) = some (.ok t.rep (fd T s p' (.lst (rws ++ (t.lvs around).map rowOf) :: tl))) := by
  intro deep
  induction deep with
  | zero =>
    intro around p rws hp hr
    have hp : p + 5 < 980 := hp
    obtain ⟨w, hw, hw2, ew⟩ := way_ok (k + 1) 0 T s p (.lst rws :: tl) (.int around) (.ref 2) (by omega) hs
    obtain ⟨t, p', h1, h2, h3, h4, h5⟩ := leaf_ok (k := k) (deep := 0) (around := around) (T := T) (tl := tl) (p := p + 1) hs (by omega) hr (hw2 rfl)
    refine ⟨t, p', h1, Nat.le_of_eq h2, Nat.le_trans h3 (by show p + 1 + 3 ≤ p + 5; omega), h4, ?_⟩
    exact ((fn_52 _ _ _ rfl).trans (congrArg outOf (asg_nx (ρ := [(43, .ref 1), (50, .int (0 : Nat)), (2, .int around), (51, .ref 2)]) (r := trS) ew))).trans h5
  | succ deep ih =>
    intro around p rws hp hr
    have hp : p + (5 + 2 * cst deep) < 980 := hp
    obtain ⟨w, hw, hw2, ew⟩ := way_ok (k + deep + 2) (deep + 1) T s p (.lst rws :: tl) (.int around) (.ref 2) (by omega) hs
    have e : (lev gloT (k + (deep + 1) + 3)).fn 52 [.ref 1, .int ((deep + 1 : Nat) : Int), .int around, .ref 2] (fd T s p (.lst rws :: tl)) = outOf (EXs (lev gloT (k + deep + 3)) trS (trρ (deep + 1) around w) (fd T s (p + 1) (.lst rws :: tl))) :=
      (fn_52 (k + deep + 3) _ _ rfl).trans (congrArg outOf (asg_nx (ρ := [(43, .ref 1), (50, .int ((deep + 1 : Nat) : Int)), (2, .int around), (51, .ref 2)]) (r := trS) ew))
    by_cases c1 : w < 2
    · obtain ⟨t, p', h1, h2, h3, h4, h5⟩ := leaf_ok (k := k + deep + 1) (deep := deep + 1) (around := around) (T := T) (tl := tl) (p := p + 1) hs (by omega) hr c1
      exact ⟨t, p', h1, h2 ▸ Nat.zero_le _, Nat.le_trans h3 (by show p + 1 + 3 ≤ p + (5 + 2 * cst deep); omega), h4, e.trans h5⟩
    · have eA := tr_a (k := k + deep + 3) (deep := deep + 1) (around := around) (w := w) (T := T) (s := s) (p := p + 1) (tl := tl) hr
      rw [decide_eq_false (fun z => c1 (by rw [z.1]; decide))] at eA
      have eB := tr_lt (k := k + deep + 3) (deep := deep + 1) (around := around) (w := w) (n := 2) (T := T) (s := s) (p := p + 1) (rws := rws) (tl := tl)
      rw [decide_eq_false c1] at eB
      have eC := tr_lt (k := k + deep + 3) (deep := deep + 1) (around := around) (w := w) (n := 4) (T := T) (s := s) (p := p + 1) (rws := rws) (tl := tl)
      have e := e.trans (congrArg outOf ((if_skip eA).trans (if_skip eB)))
      by_cases c2 : w < 4
      · obtain ⟨t, p', h1, h2, h3, h4, h5⟩ := ih (around + 1) (p + 1) rws (by omega) hr
        rw [decide_eq_true c2] at eC
        refine ⟨.lam t, p', h1, Nat.succ_le_succ h2, Nat.le_trans h3 (by show p + 1 + cst deep ≤ p + (5 + 2 * cst deep); omega), h4, e.trans ((congrArg outOf (iff_t eC)).trans ?_)⟩
        have ec := (tr_call (k := k + deep + 2) (deep := deep) (ρ := trρ (deep + 1) around w) (e := .bin .Add (.loc 2) (.cint 1)) (x := .int ((around + 1 : Nat) : Int)) rfl rfl rfl (σ := fd T s (p + 1) (.lst rws :: tl)) rfl).trans h5
        rw [EXs_cons, EX_ret, trL, EV_tup, EVs_cons, EV_cstr, bnd_okL, kVs, EVs_cons, ec]
        rfl
      · obtain ⟨t, p', h1, h2, h3, h4, h5⟩ := ih around (p + 1) rws (by omega) hr
        obtain ⟨u, p'', g1, g2, g3, g4, g5⟩ := ih around p' _ (by omega) h4
        rw [decide_eq_false c2] at eC
        refine ⟨.app t u, p'', ⟨h1, g1⟩, Nat.succ_le_succ (Nat.max_le.mpr ⟨h2, g2⟩), Nat.le_trans g3 (by show p' + cst deep ≤ p + (5 + 2 * cst deep); omega), ?_, e.trans ((congrArg outOf (if_skip eC)).trans ?_)⟩
        · rw [Tm.lvs, List.map_append, ← List.append_assoc]; exact g4
        have ec := (tr_call (k := k + deep + 2) (deep := deep) (ρ := trρ (deep + 1) around w) (e := .loc 2) (x := .int around) rfl rfl rfl (σ := fd T s (p + 1) (.lst rws :: tl)) rfl).trans h5
        have eu := (tr_call (k := k + deep + 2) (deep := deep) (ρ := setLB (trρ (deep + 1) around w) 39 t.rep) (e := .loc 2) (x := .int around) rfl rfl rfl (σ := fd T s p' (.lst (rws ++ (t.lvs around).map rowOf) :: tl)) rfl).trans g5
        rw [asg_nx ec, EXs_cons, EX_ret, EV_tup, EVs_cons, EV_cstr, bnd_okL, kVs, EVs_cons, EV_loc]
        show outOf (nextOf (bndE _ (bnd (bnd (bnd (bnd (EV (lev gloT (k + deep + 3)) (trC (.loc 2)) (setLB (trρ (deep + 1) around w) 39 t.rep) _) (kVs _)) (kVs2 t.rep)) _) _) _) _) = _
        rw [eu, Tm.lvs, List.map_append, ← List.append_assoc]
        rfl
end Mine
end
/-! L8: indexes -/
section
set_option autoImplicit false
set_option linter.unusedVariables false
set_option linter.unusedSimpArgs false
set_option maxRecDepth 100000
namespace Mine
open PySem
theorem lk_setF (x y : Nat) (v : PV) : ∀ ρ : Loc, lkB (setLB ρ x v) y = match x == y with
    | true => some v
    | false => lkB ρ y
  | [] => rfl
  | (z, u) :: r => by
    by_cases h : z = x
    · subst h
      have e : (z == z) = true := by simp
      simp only [setLB, e, lkB]
      cases (z == y) <;> rfl
    · have e : (z == x) = false := by simpa using h
      simp only [setLB, e, lkB]
      by_cases h2 : z = y
      · subst h2
        have e1 : (x == z) = false := by simpa using fun q => h q.symm
        have e2 : (z == z) = true := by simp
        simp only [e1, e2]
      · have e3 : (z == y) = false := by simpa using h2
        simp only [e3]
        exact lk_setF x y v r
noncomputable def sFig : List Nat := [48, 49, 50, 51, 52, 53, 54, 55, 56, 57]
theorem fig_dig (c : Nat) : sFig.contains c = isDig c := by
  by_cases h : c < 58
  · have : ∀ c : Fin 58, sFig.contains c.1 = isDig c.1 := by decide
    exact this ⟨c, h⟩
  · have h1 : isDig c = false := by
      unfold isDig
      rw [Bool.and_eq_false_iff]
      exact .inr (by rw [← Bool.not_eq_true, Nat.ble_eq]; exact fun z => h (Nat.lt_succ_of_le z))
    rw [h1, ← Bool.not_eq_true, List.contains_iff_mem]
    intro z
    have : ∀ x ∈ sFig, x < 58 := by decide
    exact h (this c z)
theorem row_comp (k : Nat) (F txt : List Nat) (hl : txt.length ≤ 5000) (σ : Store) : ∀ (n i : Nat) (ρ : Loc) (acc : List PV), i + n = txt.length → acc.length ≤ i → lkB ρ 11 = some (.str F) →
    EC (lev gloT k) (.loc 13) [13] false (some (.cmp .NotIn (.loc 13) (.loc 11))) (.str txt) i ρ acc σ = some (.ok (acc ++ ((txt.drop i).filter fun c => !F.contains c).map fun c => .str [c]) σ) := by
  intro n
  induction n with
  | zero =>
    intro i ρ acc h1 h3 h4
    rw [Nat.add_zero] at h1
    subst h1
    rw [EC_end (by simp [itemAt]), List.drop_length]
    simp
  | succ n ih =>
    intro i ρ acc h1 h3 h4
    have hi : i < txt.length := h1 ▸ Nat.lt_add_of_pos_right (Nat.succ_pos n)
    have g1 : lkB (setLB ρ 13 (.str [txt[i]])) 11 = some (.str F) := (lk_setF ..).trans h4
    have g2 : lkB (setLB ρ 13 (.str [txt[i]])) 13 = some (.str [txt[i]]) := lk_setF ..
    have hit : itemAt σ false (.str txt) i = some (some (.str [txt[i]])) := by simp [itemAt, hi]
    have ec : condOf (lev gloT k) (some (.cmp .NotIn (.loc 13) (.loc 11))) (setLB ρ 13 (.str [txt[i]])) σ = some (.ok (!F.contains txt[i]) σ) := by
      rw [cond_s, ET_cmp, EV_loc, g2]
      show bnd (bnd (rok (lkB (setLB ρ 13 (.str [txt[i]])) 11) σ) _) _ = _
      rw [g1]; rfl
    rw [List.drop_eq_getElem_cons hi]
    have h5 : i + 1 + n = txt.length := (Nat.add_right_comm ..).trans h1
    by_cases hc : F.contains txt[i] = true
    · rw [hc] at ec
      rw [EC_skip hit rfl ec, ih (i + 1) _ acc h5 (Nat.le_succ_of_le h3) g1, List.filter_cons_of_neg (by rw [hc]; decide)]
    · rw [Bool.not_eq_true _ |>.mp hc] at ec
      rw [EC_add hit rfl ec (by rw [EV_loc, g2]; rfl) (Nat.lt_of_le_of_lt h3 (Nat.lt_of_lt_of_le hi (Nat.le_trans hl (by decide)))), ih (i + 1) _ _ h5 (by rw [List.length_append]; exact Nat.succ_le_succ h3) g1, List.filter_cons_of_pos (by rw [Bool.not_eq_true _ |>.mp hc]; rfl), List.append_assoc]
      rfl
theorem row_ok (k : Nat) (txt : List Nat) (hl : txt.length ≤ 5000) (σ : Store) : (lev gloT (k + 1)).fn 12 [.str txt, .str sFig] σ = some (.ok (.bool (!txt.isEmpty && txt.all isDig)) σ) := by
  rw [fn_12 _ _ _ rfl]
  have h := row_comp k sFig txt hl σ txt.length 0 [(11, .str sFig)] [] (Nat.zero_add _) (Nat.le_refl _) rfl
  have hall : ((txt.filter fun c => !sFig.contains c).map fun c => PV.str [c]).isEmpty = txt.all isDig := by
    rw [List.isEmpty_map, Bool.eq_iff_iff, List.isEmpty_iff, List.filter_eq_nil_iff, List.all_eq_true]
    exact ⟨fun q x hx => by have := q x hx; rw [fig_dig] at this; simpa using this, fun q x hx => by rw [fig_dig, q x hx]; decide⟩
  have e : EV (lev gloT k) (.cmpNil .Eq (.comp (.loc 13) [13] false [11] (.loc 1) (some (.cmp .NotIn (.loc 13) (.loc 11))))) [(1, .str txt), (11, .str sFig)] σ = some (.ok (.bool (txt.all isDig)) σ) := by
    rw [EV_cmpNil, EV_comp, kq_lev, ← hall]
    exact congrArg (fun x => bnd (bnd x kComp2) (kNil .Eq)) h
  show outOf (nextOf (bndE _ (bnd (some (R.ok (PV.bool (!(txt == []))) σ)) (kB true (EV (lev gloT k) (.cmpNil .Eq (.comp (.loc 13) [13] false [11] (.loc 1) (some (.cmp .NotIn (.loc 13) (.loc 11))))) [(1, .str txt), (11, .str sFig)]))) _) _) = _
  cases txt with
  | nil => rfl
  | cons c r =>
    show outOf (nextOf (bndE _ (EV (lev gloT k) (.cmpNil .Eq (.comp (.loc 13) [13] false [11] (.loc 1) (some (.cmp .NotIn (.loc 13) (.loc 11))))) _ σ) _) _) = _
    rw [e]; rfl
noncomputable def figsB (b txt : List Nat) : List Nat := if txt.take b.length ≠ b ∨ ¬ (txt.drop b.length ≠ [] ∧ (txt.drop b.length).all isDig = true) ∨ ((txt.drop b.length).head? = some 48 ∧ txt.drop b.length ≠ [48]) then [] else txt.drop b.length
noncomputable def fgN : CE := .bi .len [(.loc 14)]
noncomputable def fgA : CE := .cmp .NotEq (.slice (.loc 1) .none (some fgN)) (.loc 14)
noncomputable def fgB : CE := .not (.call 12 [(.loc 16), (.glo 17)])
noncomputable def fgC : CE := .bop true [(.cmp .Eq (.sub (.loc 16) (.cint 0)) (.cstr [48])), (.cmp .NotEq (.loc 16) (.cstr [48]))]
theorem figs_ok (k : Nat) (b txt : List Nat) (hb : b.length ≤ 10) (hl : txt.length ≤ 5000) (σ : Store) : (lev gloT (k + 2)).fn 15 [.str txt, .str b] σ = some (.ok (.str (figsB b txt)) σ) := by
  have h1 : b.length ≤ SZ := Nat.le_trans hb (by decide)
  have h2 : txt.length ≤ SZ := Nat.le_trans hl (by decide)
  have h3 : (txt.drop b.length).length ≤ 5000 := by rw [List.length_drop]; exact Nat.le_trans (Nat.sub_le ..) hl
  have h4 : (0 : Int) ≤ b.length ∧ (b.length : Int) ≤ SZ := ⟨Int.natCast_nonneg _, Int.ofNat_le.mpr h1⟩
  have h := row_ok k (txt.drop b.length) h3 σ
  have eN : ∀ ρ, lkB ρ 14 = some (.str b) → EV (lev gloT (k + 1)) fgN ρ σ = some (.ok (.int b.length) σ) := fun ρ g => by
    rw [fgN, EV_bi, kqm_0, EVs_cons, EV_loc, g]
    show rok (if b.length ≤ SZ then some (PV.int b.length) else none) σ = _
    rw [if_pos h1]; rfl
  have e1 : EV (lev gloT (k + 1)) (.slice (.loc 1) (some fgN) .none) [(1, .str txt), (14, .str b)] σ = some (.ok (.str (txt.drop b.length)) σ) := by
    show bnd (bnd (EV (lev gloT (k + 1)) fgN [(1, .str txt), (14, .str b)] σ) kO) (kSl2 _ (.str txt)) = _
    rw [eN _ rfl]
    show rok (sliceop (.str txt) (some (.int b.length)) none) σ = _
    rw [slice_from, if_pos h2, if_pos h4, Int.toNat_natCast]; rfl
  have run := (fn_15 (k + 1) [.str txt, .str b] σ rfl).trans (congrArg outOf (asg_nx (ρ := [(1, .str txt), (14, .str b)]) (x := 16) (r := [.iff (.bop false [fgA, fgB, fgC]) [.ret (.cstr [])] [], .ret (.loc 16)]) e1))
  generalize hr : txt.drop b.length = r at h h3 run e1
  have eA : ET (lev gloT (k + 1)) fgA [(1, .str txt), (14, .str b), (16, .str r)] σ = some (.ok (!(txt.take b.length == b)) σ) := by
    show bnd (bnd (bnd (bnd (EV (lev gloT (k + 1)) fgN [(1, .str txt), (14, .str b), (16, .str r)] σ) kO) (kSl3 (.str txt) none)) (kCmp .NotEq _)) kTruth = _
    rw [eN _ rfl]
    show bnd (bnd (rok (sliceop (.str txt) none (some (.int b.length))) σ) (kCmp .NotEq _)) kTruth = _
    rw [slice_to, if_pos h2, if_pos h4, Int.toNat_natCast]; rfl
  have eB : ET (lev gloT (k + 1)) fgB [(1, .str txt), (14, .str b), (16, .str r)] σ = some (.ok (!(!r.isEmpty && r.all isDig)) σ) := by
    show bnd (bnd ((lev gloT (k + 1)).fn 12 [.str r, .str sFig] σ) kTruth) kTNot = _
    rw [h]; rfl
  have fin : ∀ q, ET (lev gloT (k + 1)) (.bop false [fgA, fgB, fgC]) [(1, .str txt), (14, .str b), (16, .str r)] σ = some (.ok q σ) → (lev gloT (k + 2)).fn 15 [.str txt, .str b] σ = some (.ok (.str (match q with
      | true => []
      | false => r)) σ) := fun q hq => by
    cases q with
    | true => exact run.trans (congrArg outOf (iff_t hq))
    | false => exact run.trans (congrArg outOf (if_skip hq))
  rw [ET_bop, ETs_cons, eA, bnd_okL] at fin
  unfold figsB
  rw [hr]
  by_cases c1 : txt.take b.length = b
  · rw [beq_iff_eq.mpr c1] at fin
    have fin := fun q => fin q ∘ (show ETs (lev gloT (k + 1)) [fgB, fgC] false _ σ = _ → _ from id)
    rw [ETs_cons, eB, bnd_okL] at fin
    cases c2 : (!r.isEmpty && r.all isDig) with
    | false =>
      rw [c2] at fin
      rw [if_pos (.inr (.inl fun z => by
        rw [z.2, Bool.and_true, Bool.not_eq_false', List.isEmpty_iff] at c2
        exact z.1 c2))]
      exact fin true rfl
    | true =>
      rw [c2] at fin
      have fin := fun q => fin q ∘ (show ETs (lev gloT (k + 1)) [fgC] false _ σ = _ → _ from id)
      cases r with
      | nil => cases c2
      | cons c r =>
      have c2' : (c :: r).all isDig = true := c2
      have eC : ET (lev gloT (k + 1)) fgC [(1, .str txt), (14, .str b), (16, .str (c :: r))] σ = some (.ok (c == 48 && !(c :: r == [48])) σ) := by
        show bnd (bnd (bnd (rok (if 0 ≤ (0 : Int) ∧ (c :: r).length ≤ SZ then some (PV.str [c]) else none) σ) (kCmp .Eq _)) kTruth) (kTs true _) = _
        rw [if_pos ⟨by decide, Nat.le_trans h3 (by decide)⟩]
        show kTs true (ETs (lev gloT (k + 1)) [.cmp .NotEq (.loc 16) (.cstr [48])] true _) (c == 48 && true) σ = _
        cases c == 48
        · rfl
        · show kTs true _ (!(c :: r == [48])) σ = _
          cases (c :: r == [48]) <;> rfl
      rw [ETs_cons, eC, bnd_okL] at fin
      by_cases c3 : c = 48 ∧ c :: r ≠ [48]
      · rw [if_pos (.inr (.inr ⟨congrArg some c3.1, c3.2⟩))]
        refine fin true ?_
        rw [beq_iff_eq.mpr c3.1, beq_false_of_ne c3.2]; rfl
      · rw [if_neg (by
          rintro (z | z | z)
          · exact z c1
          · exact z ⟨by simp, c2'⟩
          · exact c3 ⟨Option.some.inj z.1, z.2⟩)]
        refine fin false ?_
        by_cases c4 : c = 48
        · have c5 : c :: r = [48] := Classical.not_not.mp fun z => c3 ⟨c4, z⟩
          rw [c5, c4]; rfl
        · rw [beq_false_of_ne c4]; rfl
  · rw [beq_false_of_ne c1] at fin
    rw [if_pos (.inl c1)]
    exact fin true rfl
theorem figs_var {f : List Nat} (h : FigOk f) : figsB sVar (sVar ++ f) = f := by
  have e1 : (sVar ++ f).take sVar.length = sVar := List.take_left
  have e2 : (sVar ++ f).drop sVar.length = f := List.drop_left
  unfold figsB
  rw [e1, e2]
  rw [if_neg]
  rintro (z | z | ⟨z, z'⟩)
  · exact z rfl
  · exact z ⟨h.ne, h.dig⟩
  · exact z' (h.lead z)
theorem figs_y {f : List Nat} (h : FigOk f) : figsB [121] (121 :: f) = f := by
  unfold figsB
  rw [if_neg]
  · rfl
  rintro (z | z | ⟨z, z'⟩)
  · exact z rfl
  · exact z ⟨h.ne, h.dig⟩
  · exact z' (h.lead z)
theorem figs_vy (f : List Nat) : figsB sVar (121 :: f) = [] := by
  unfold figsB
  rw [if_pos]
  left
  intro z
  have := congrArg List.head? z
  simp [sVar] at this
theorem figs_oth {o : List Nat} (h : o ∈ oths) : figsB sVar o = [] := by
  have : ∀ o ∈ oths, figsB sVar o = [] := by decide
  exact this o h
theorem oth_len {o : List Nat} (h : o ∈ oths) : o.length ≤ 100 ∧ o ≠ [] := by
  have : ∀ o ∈ oths, o.length ≤ 100 ∧ o ≠ [] := by decide
  exact this o h
theorem num_len (Φ : Sig) (f : List Nat) (h : f.length ≤ SZ) (σ : Store) : ET Φ (.cmp .Gt (.bi .len [(.loc 18)]) (.cint 9)) [(18, .str f)] σ = some (.ok (decide ((9 : Int) < f.length)) σ) := by
  show bnd (bnd (rok (if f.length ≤ SZ then some (PV.int f.length) else none) σ) (kCmp .Gt _)) kTruth = _
  rw [if_pos h]; rfl
theorem num_ok (k : Nat) (f : List Nat) (h : FigOk f) (hl : f.length ≤ 9) (σ : Store) : (lev gloT (k + 3)).fn 19 [.str f] σ = some (.ok (.int (numOf f)) σ) := by
  have hn := num_len (lev gloT (k + 2)) f (Nat.le_trans hl (by decide)) σ
  rw [decide_eq_false (show ¬ (9 : Int) < f.length from Int.not_lt.mpr (Int.ofNat_le.mpr hl))] at hn
  rw [fn_19 _ _ _ rfl]
  refine (congrArg outOf (if_skip hn)).trans ?_
  show outOf (nextOf (bndE _ (rok (if f ≠ [] ∧ f.length ≤ 18 ∧ f.all isDig = true then some (PV.int (numOf f)) else none) σ) _) _) = _
  rw [if_pos ⟨h.ne, Nat.le_trans hl (by decide), h.dig⟩]; rfl
theorem num_exc (k : Nat) (f : List Nat) (h : FigOk f) (hl : ¬ f.length ≤ 9) (σ : Store) : (lev gloT (k + 3)).fn 19 [.str f] σ = some (.exc ⟨3, none⟩ σ) := by
  have hn := num_len (lev gloT (k + 2)) f (Nat.le_trans h.len (by decide)) σ
  rw [decide_eq_true (show (9 : Int) < f.length from Int.ofNat_lt.mpr (Nat.not_le.mp hl))] at hn
  rw [fn_19 _ _ _ rfl]
  exact (congrArg outOf (iff_t hn)).trans rfl
noncomputable def ioR : CE := .ite (.cmp .Eq (.loc 18) (.cstr [])) (.neg (.cint 1)) (.call 19 [(.loc 18)])
theorem idx_at {k : Nat} {v : PV} {w : List Nat} {σ : Store} (e : EV (lev gloT (k + 3)) (.ite (.cmp .Eq (.bi .len [(.loc 20)]) (.cint 1)) (.call 15 [(.sub (.loc 20) (.cint 0)), (.cstr [118, 97, 114])]) (.cstr [])) [(20, v)] σ = some (.ok (.str w) σ)) : (lev gloT (k + 4)).fn 21 [v] σ = outOf (EXs (lev gloT (k + 3)) [.ret ioR] [(20, v), (18, .str w)] σ) :=
  (fn_21 (k + 3) [v] σ rfl).trans (congrArg outOf (asg_nx (ρ := [(20, v)]) e))
theorem idx_var (k : Nat) (f : List Nat) (h : FigOk f) (σ : Store) : (lev gloT (k + 4)).fn 21 [(Tm.var f).rep] σ = outOf (nextOf (bndE [(20, (Tm.var f).rep), (18, .str f)] ((lev gloT (k + 3)).fn 19 [.str f] σ) (kRet [(20, (Tm.var f).rep), (18, .str f)])) (EXs (lev gloT (k + 3)) [])) := by
  have e := figs_ok (k + 1) sVar (sVar ++ f) (by decide) (by rw [List.length_append]; exact Nat.le_trans (Nat.add_le_add_left h.len 3) (by decide)) σ
  rw [figs_var h] at e
  rw [idx_at (k := k) (v := (Tm.var f).rep) (σ := σ) (w := f) e]
  cases f with
  | nil => exact absurd rfl h.ne
  | cons x r => rfl
theorem idx_ok (k : Nat) (f : List Nat) (h : FigOk f) (hl : f.length ≤ 9) (σ : Store) : (lev gloT (k + 4)).fn 21 [(Tm.var f).rep] σ = some (.ok (.int (numOf f)) σ) := by
  rw [idx_var k f h, num_ok k f h hl σ]; rfl
theorem idx_exc (k : Nat) (f : List Nat) (h : FigOk f) (hl : ¬ f.length ≤ 9) (σ : Store) : (lev gloT (k + 4)).fn 21 [(Tm.var f).rep] σ = some (.exc ⟨3, none⟩ σ) := by
  rw [idx_var k f h, num_exc k f h hl σ]; rfl
noncomputable def Tm.isVar : Tm → Bool
  | .var _ => true
  | _ => false
theorem idx_none (k : Nat) (t : Tm) (h : t.ok) (hv : t.isVar = false) (σ : Store) : (lev gloT (k + 4)).fn 21 [t.rep] σ = some (.ok (.int (-1)) σ) := by
  cases t with
  | var f => cases hv
  | oth o =>
    have e := figs_ok (k + 1) sVar o (by decide) (Nat.le_trans (oth_len h).1 (by decide)) σ
    rw [figs_oth h] at e
    exact (idx_at (k := k) (v := (Tm.oth o).rep) (σ := σ) (w := []) e).trans rfl
  | lam t => exact (idx_at (w := []) rfl).trans rfl
  | app l r => exact (idx_at (w := []) rfl).trans rfl
end Mine
end
/-! L9: indexes moved -/
section
set_option autoImplicit false
set_option linter.unusedVariables false
set_option linter.unusedSimpArgs false
set_option maxRecDepth 100000
namespace Mine
open PySem
section
variable {Φ : Sig} {elt c : CE} {x : Nat} {ρ : Loc} {σ : Store} {v w : PV} {tt : Bool} {oc : Option CE} {xs : List Nat}
theorem ec_nil : EC Φ elt xs false oc (.tup []) 0 ρ [] σ = some (.ok [] σ) := EC_end rfl
theorem ec_one : EC Φ elt [x] false none (.tup [v]) 0 ρ [] σ = bnd (EV Φ elt (setLB ρ x v) σ) fun u σ => some (.ok [u] σ) := by
  refine EC_eqB.trans (congrArg (bnd (EV Φ elt (setLB ρ x v) σ)) (funext fun u => funext fun σ => ?_))
  exact EC_end (i := 1) (acc := [u]) rfl
theorem ec_two : EC Φ elt [x] false none (.tup [v, w]) 0 ρ [] σ = bnd (EV Φ elt (setLB ρ x v) σ) fun u σ => bnd (EV Φ elt (setLB (setLB ρ x v) x w) σ) fun u' σ => some (.ok [u, u'] σ) := by
  refine EC_eqB.trans (congrArg (bnd (EV Φ elt (setLB ρ x v) σ)) (funext fun u => funext fun σ => ?_))
  refine (EC_eqB (i := 1) (acc := [u])).trans (congrArg (bnd (EV Φ elt (setLB (setLB ρ x v) x w) σ)) (funext fun u' => funext fun σ => ?_))
  exact EC_end (i := 2) (acc := [u, u']) rfl
end
theorem var_ok (k : Nat) (i : Int) (h0 : 0 ≤ i) (h1 : i ≤ 999999999) (σ : Store) : (lev gloT (k + 3)).fn 23 [.int i] σ = some (.ok (.tup [.str (sVar ++ digs i)]) σ) := by
  have h2 : ET (lev gloT (k + 2)) (.cmp .Lt (.loc 22) (.cint 0)) [(22, .int i)] σ = some (.ok (decide (i < 0)) σ) := rfl
  have h3 : ET (lev gloT (k + 2)) (.cmp .Gt (.loc 22) (.glo 24)) [(22, .int i)] σ = some (.ok (decide (999999999 < i)) σ) := rfl
  have h4 : i.natAbs < 1000000000000000000 := by omega
  rw [decide_eq_false (Int.not_lt.mpr h0)] at h2
  rw [decide_eq_false (Int.not_lt.mpr h1)] at h3
  rw [fn_23 _ _ _ rfl]
  refine (congrArg outOf ((if_skip h2).trans (if_skip h3))).trans ?_
  show outOf (nextOf (bndE _ (bnd (bnd (if i.natAbs < 1000000000000000000 ∧ 3 ≤ 1000 then some (R.ok (PV.str (sVar ++ digs i)) σ) else none) _) _) _) _) = _
  rw [if_pos ⟨h4, by decide⟩]; rfl
theorem var_exc (k : Nat) (i : Int) (h1 : ¬ i ≤ 999999999) (σ : Store) : (lev gloT (k + 3)).fn 23 [.int i] σ = some (.exc ⟨3, none⟩ σ) := by
  have h2 : ET (lev gloT (k + 2)) (.cmp .Lt (.loc 22) (.cint 0)) [(22, .int i)] σ = some (.ok (decide (i < 0)) σ) := rfl
  have h3 : ET (lev gloT (k + 2)) (.cmp .Gt (.loc 22) (.glo 24)) [(22, .int i)] σ = some (.ok (decide (999999999 < i)) σ) := rfl
  rw [decide_eq_false (fun z => h1 (Int.le_of_lt (Int.lt_of_lt_of_le z (by decide))))] at h2
  rw [decide_eq_true (Int.not_le.mp h1)] at h3
  rw [fn_23 _ _ _ rfl]
  refine (congrArg outOf ((if_skip h2).trans (iff_t h3))).trans rfl
noncomputable def Tm.isLam : Tm → Bool
  | .lam _ => true
  | _ => false
theorem below_ok (k : Nat) (t : Tm) (h : t.ok) (hv : t.isVar = false) (σ : Store) : (lev gloT (k + 1)).fn 25 [t.rep] σ = some (.ok (.int (if t.isLam = true then 1 else 0)) σ) := by
  rw [fn_25 _ _ _ rfl]
  cases t with
  | var f => cases hv
  | oth o =>
    show outOf (nextOf (bndE _ (bnd (bnd (some (R.ok (o == [108, 97, 109]) σ)) (kTs true _)) (kIte _ _)) _) _) = _
    generalize (o == [108, 97, 109]) = q
    cases q <;> rfl
  | lam t => rfl
  | app l r => rfl
theorem numOf_go : ∀ (f : List Nat) (a : Nat), (∀ x ∈ f, isDig x = true) → f.foldl (fun n c => n * 10 + (c - 48)) a < (a + 1) * 10 ^ f.length
  | [], a, _ => by simp
  | c :: r, a, h => by
    have hc : isDig c = true := h c (List.mem_cons_self ..)
    have h9 : c - 48 ≤ 9 := by simp [isDig] at hc; omega
    have ih := numOf_go r (a * 10 + (c - 48)) fun x hx => h x (List.mem_cons_of_mem _ hx)
    rw [List.foldl_cons, List.length_cons, Nat.pow_succ]
    refine Nat.lt_of_lt_of_le ih ?_
    rw [show (a + 1) * (10 ^ r.length * 10) = ((a + 1) * 10) * 10 ^ r.length by rw [Nat.mul_comm (10 ^ r.length) 10, Nat.mul_assoc]]
    exact Nat.mul_le_mul_right _ (by omega)
theorem num_le {f : List Nat} (h : FigOk f) (hl : f.length ≤ 9) : numOf f ≤ 999999999 := by
  have h1 := numOf_go f 0 (by simpa using h.dig)
  have h2 : 10 ^ f.length ≤ 10 ^ 9 := Nat.pow_le_pow_right (by decide) hl
  unfold numOf
  omega
/-- what becomes of a leaf: its late index, or the refusal's class -/
noncomputable def lateOf (by_ : Int) (b a : Nat) (f : List Nat) : Except Nat Int :=
  if f.length ≤ 9 then
    if b + a ≤ numOf f then (if (numOf f : Int) + by_ < a then .error 4 else if (numOf f : Int) + by_ ≤ 999999999 then .ok (numOf f + by_) else .error 3)
    else .ok (numOf f)
  else .error 3
noncomputable def mvT (by_ : Int) (b : Nat) : Tm → Nat → Except Nat PV
  | .var f, a => match lateOf by_ b a f with
    | .ok i => .ok (.tup [.str (sVar ++ digs i)])
    | .error e => .error e
  | .oth o, _ => .ok (.tup [.str o])
  | .lam t, a => match mvT by_ b t (a + 1) with
    | .ok v => .ok (.tup [.str sLam, v])
    | .error e => .error e
  | .app l r, a => match mvT by_ b l a with
    | .ok v => (match mvT by_ b r a with
      | .ok u => .ok (.tup [.str sApp, v, u])
      | .error e => .error e)
    | .error e => .error e
noncomputable def outE (σ : Store) : Except Nat PV → R PV
  | .ok v => .ok v σ
  | .error c => .exc ⟨c, none⟩ σ
noncomputable def mvC : CE := .cmp .GtE (.loc 22) (.bi .max [(.bin .Add (.loc 14) (.loc 2)), (.cint 0)])
noncomputable def mvL : CE := .cmp .Lt (.bin .Add (.loc 22) (.loc 26)) (.loc 2)
noncomputable def mvS : CE := .call 23 [(.bin .Add (.loc 22) (.loc 26))]
noncomputable def mvA : CE := .bin .Add (.loc 2) (.call 25 [(.loc 20)])
noncomputable def mvE : CE := .call 27 [(.loc 28), (.loc 26), (.loc 14), mvA]
noncomputable def mvQ : CE := .comp mvE [28] false [26, 14, 2, 20] (.slice (.loc 20) (some (.cint 1)) .none) .none
noncomputable def mvR : CE := .bin .Add (.tup [(.sub (.loc 20) (.cint 0))]) (.bi .tuple [mvQ])
noncomputable def mvX : CS := .rais 4 [(.cstr [97, 32, 118, 97, 114, 105, 97, 98, 108, 101, 32, 104, 97, 115, 32, 110, 111, 32, 105, 110, 100, 101, 120, 32, 98, 101, 108, 111, 119, 32, 48])]
noncomputable def mvB : List CS := [.iff mvL [mvX] [], .ret mvS]
noncomputable def mvρ (v : PV) (by_ : Int) (b a : Nat) : Loc := [(20, v), (26, .int by_), (14, .int b), (2, .int a)]
noncomputable def mvρ' (v : PV) (by_ : Int) (b a : Nat) (i : Int) : Loc := [(20, v), (26, .int by_), (14, .int b), (2, .int a), (22, .int i)]
section
variable {n : Nat} {v x : PV} {by_ i : Int} {b a : Nat} {σ σ' : Store}
theorem mv_is : (lev gloT (n + 5)).fn 27 [v, .int by_, .int b, .int a] σ = outOf (EXs (lev gloT (n + 4)) (.asg 22 (.call 21 [(.loc 20)]) :: [.iff mvC mvB [], .ret mvR]) (mvρ v by_ b a) σ) := fn_27 _ _ _ rfl
theorem mv_idx (h : (lev gloT (n + 4)).fn 21 [v] σ = some (.ok (.int i) σ)) : (lev gloT (n + 5)).fn 27 [v, .int by_, .int b, .int a] σ = outOf (EXs (lev gloT (n + 4)) [.iff mvC mvB [], .ret mvR] (mvρ' v by_ b a i) σ) :=
  mv_is.trans (congrArg outOf (asg_nx (ρ := mvρ v by_ b a) h))
theorem mv_exc {x : PX} (h : (lev gloT (n + 4)).fn 21 [v] σ = some (.exc x σ)) : (lev gloT (n + 5)).fn 27 [v, .int by_, .int b, .int a] σ = some (.exc x σ) :=
  mv_is.trans (congrArg outOf (asg_exc (k := n + 4) (e := .call 21 [(.loc 20)]) (ρ := mvρ v by_ b a) (σ := σ) h))
theorem mv_c {Φ : Sig} (hq : Φ.q = false) : ET Φ mvC (mvρ' v by_ b a i) σ = some (.ok (decide ((b : Int) + a ≤ i)) σ) := by
  have e : EV Φ (.bi .max [(.bin .Add (.loc 14) (.loc 2)), (.cint 0)]) (mvρ' v by_ b a i) σ = some (.ok (.int ((b : Int) + a)) σ) := by
    rw [EV_bi, kqm, kq, hq]
    show some (R.ok (PV.int (if (b : Int) + a < 0 then 0 else (b : Int) + a)) σ) = _
    rw [if_neg (Int.not_lt.mpr (Int.add_nonneg (Int.natCast_nonneg _) (Int.natCast_nonneg _)))]
  rw [mvC, ET_cmp]
  show bnd (bnd (EV Φ (.bi .max [(.bin .Add (.loc 14) (.loc 2)), (.cint 0)]) (mvρ' v by_ b a i) σ) (kCmp2 .GtE (.int i))) kTruth = _
  rw [e]; rfl
theorem mv_call {d : Int} (eb : (lev gloT (n + 4)).fn 25 [v] σ = some (.ok (.int d) σ)) : EV (lev gloT (n + 4)) mvE [(26, .int by_), (14, .int b), (2, .int a), (20, v), (28, x)] σ = (lev gloT (n + 4)).fn 27 [x, .int by_, .int b, .int (a + d)] σ := by
  have e : EV (lev gloT (n + 4)) mvA [(26, .int by_), (14, .int b), (2, .int a), (20, v), (28, x)] σ = some (.ok (.int (a + d)) σ) := by
    show bnd (bnd (some (.ok [v] σ)) ((lev gloT (n + 4)).fn 25)) (kBin2 .Add (.int a)) = _
    rw [bnd_okL, eb]; rfl
  show bnd (bnd (bnd (bnd (bnd (EV (lev gloT (n + 4)) mvA _ σ) (kVs _)) (kVs2 _)) (kVs2 _)) (kVs2 _)) _ = _
  rw [e]; rfl
theorem mv_low (h : ¬ (b : Int) + a ≤ i) {w : List Nat} {vs : List PV} (e0 : EV (lev gloT (n + 4)) (.tup [(.sub (.loc 20) (.cint 0))]) (mvρ' v by_ b a i) σ = some (.ok (.tup [.str w]) σ)) (hq : EV (lev gloT (n + 4)) mvQ (mvρ' v by_ b a i) σ = some (.ok (.lst vs) σ)) (hl : biop .tuple [.lst vs] σ = some (.tup vs)) (ha : binop .Add (.tup [.str w]) (.tup vs) = some (.tup (.str w :: vs))) :
    outOf (EXs (lev gloT (n + 4)) [.iff mvC mvB [], .ret mvR] (mvρ' v by_ b a i) σ) = some (.ok (.tup (.str w :: vs)) σ) := by
  have er : EV (lev gloT (n + 4)) mvR (mvρ' v by_ b a i) σ = some (.ok (.tup (.str w :: vs)) σ) := by
    rw [mvR, EV_bin, e0, bnd_okL, kBin, EV_bi, kqm_4, EVs_cons, hq]
    show bnd (rok (biop .tuple [.lst vs] σ) σ) _ = _
    rw [hl, rok_someL, bnd_okL, kBin2, ha]; rfl
  have hc := mv_c (Φ := lev gloT (n + 4)) (v := v) (by_ := by_) (b := b) (a := a) (i := i) (σ := σ) rfl
  rw [decide_eq_false h] at hc
  exact congrArg outOf ((if_skip hc).trans (ret_is er))
theorem mv_lowx (h : ¬ (b : Int) + a ≤ i) {w : List Nat} {q : PX} (e0 : EV (lev gloT (n + 4)) (.tup [(.sub (.loc 20) (.cint 0))]) (mvρ' v by_ b a i) σ = some (.ok (.tup [.str w]) σ)) (hq : EV (lev gloT (n + 4)) mvQ (mvρ' v by_ b a i) σ = some (.exc q σ)) :
    outOf (EXs (lev gloT (n + 4)) [.iff mvC mvB [], .ret mvR] (mvρ' v by_ b a i) σ) = some (.exc q σ) := by
  have er : EV (lev gloT (n + 4)) mvR (mvρ' v by_ b a i) σ = some (.exc q σ) := by
    rw [mvR, EV_bin, e0, bnd_okL, kBin, EV_bi, kqm_4, EVs_cons, hq]; rfl
  have hc := mv_c (Φ := lev gloT (n + 4)) (v := v) (by_ := by_) (b := b) (a := a) (i := i) (σ := σ) rfl
  rw [decide_eq_false h] at hc
  exact congrArg outOf ((if_skip hc).trans (ret_exc er))
theorem mv_high (h : (b : Int) + a ≤ i) (h2 : ¬ i + by_ < a) : outOf (EXs (lev gloT (n + 4)) [.iff mvC mvB [], .ret mvR] (mvρ' v by_ b a i) σ) = outOf (nextOf (nextOf (bndE (mvρ' v by_ b a i) ((lev gloT (n + 4)).fn 23 [.int (i + by_)] σ) (kRet (mvρ' v by_ b a i))) (EXs (lev gloT (n + 4)) [])) (EXs (lev gloT (n + 4)) [.ret mvR])) := by
  have hc := mv_c (Φ := lev gloT (n + 4)) (v := v) (by_ := by_) (b := b) (a := a) (i := i) (σ := σ) rfl
  rw [decide_eq_true h] at hc
  have hd : ET (lev gloT (n + 4)) mvL (mvρ' v by_ b a i) σ = some (.ok (decide (i + by_ < a)) σ) := rfl
  rw [decide_eq_false h2] at hd
  exact congrArg outOf ((iff_t hc).trans (congrArg (nextOf · _) (if_skip hd)))
theorem mv_fall (h : (b : Int) + a ≤ i) (h2 : i + by_ < a) : outOf (EXs (lev gloT (n + 4)) [.iff mvC mvB [], .ret mvR] (mvρ' v by_ b a i) σ) = some (.exc ⟨4, none⟩ σ) := by
  have hc := mv_c (Φ := lev gloT (n + 4)) (v := v) (by_ := by_) (b := b) (a := a) (i := i) (σ := σ) rfl
  rw [decide_eq_true h] at hc
  have hd : ET (lev gloT (n + 4)) mvL (mvρ' v by_ b a i) σ = some (.ok (decide (i + by_ < a)) σ) := rfl
  rw [decide_eq_true h2] at hd
  exact congrArg outOf ((iff_t hc).trans (congrArg (nextOf · _) (iff_t hd)))
end
theorem late_is {by_ : Int} {b a : Nat} {f : List Nat} : mvT by_ b (.var f) a = (match lateOf by_ b a f with
    | .ok i => .ok (.tup [.str (sVar ++ digs i)])
    | .error e => .error e) := rfl
theorem moved_ok (by_ : Int) (b : Nat) (σ : Store) (t : Tm) : ∀ (a n : Nat), t.ok → t.dep ≤ n →
    (lev gloT (n + 5)).fn 27 [t.rep, .int by_, .int b, .int a] σ = some (outE σ (mvT by_ b t a)) := by
  have low : ∀ a : Nat, ¬ (b : Int) + a ≤ -1 := fun a z => absurd (Int.le_trans (Int.add_nonneg (Int.natCast_nonneg b) (Int.natCast_nonneg a)) z) (by decide)
  induction t with
  | var f =>
    intro a n ht hn
    have h0 : FigOk f := ht
    rw [late_is, lateOf]
    by_cases c1 : f.length ≤ 9
    · have e := idx_ok n f ht c1 σ
      rw [if_pos c1, mv_idx e]
      by_cases c2 : b + a ≤ numOf f
      · have c2' : (b : Int) + a ≤ numOf f := Int.ofNat_le.mpr c2
        rw [if_pos c2]
        by_cases c3 : (numOf f : Int) + by_ < a
        · rw [if_pos c3, mv_fall c2' c3]; rfl
        · rw [if_neg c3, mv_high c2' c3]
          by_cases c4 : (numOf f : Int) + by_ ≤ 999999999
          · rw [if_pos c4, var_ok (n + 1) _ (Int.le_trans (Int.natCast_nonneg a) (Int.not_lt.mp c3)) c4 σ]; rfl
          · rw [if_neg c4, var_exc (n + 1) _ c4 σ]; rfl
      · rw [if_neg c2]
        dsimp only
        rw [h0.can c1]
        refine mv_low (mt Int.ofNat_le.mp c2) (vs := []) rfl ?_ rfl rfl
        exact congrArg (bnd · kComp2) ec_nil
    · rw [if_neg c1, mv_exc (idx_exc n f ht c1 σ)]; rfl
  | oth o =>
    intro a n ht hn
    rw [mv_idx (idx_none n (.oth o) ht rfl σ)]
    refine mv_low (low a) (vs := []) rfl ?_ rfl rfl
    exact congrArg (bnd · kComp2) ec_nil
  | lam t ih =>
    intro a n ht hn
    rw [mv_idx (idx_none n (.lam t) ht rfl σ)]
    cases n with
    | zero => exact absurd hn (Nat.not_succ_le_zero _)
    | succ m =>
    have ih := ih (a + 1) m ht (Nat.le_of_succ_le_succ hn)
    have eb : (lev gloT (m + 1 + 4)).fn 25 [(Tm.lam t).rep] σ = some (.ok (.int 1) σ) := below_ok (m + 1 + 3) (.lam t) ht rfl σ
    have ec : EV (lev gloT (m + 1 + 4)) mvE (setLB [(26, .int by_), (14, .int b), (2, .int a), (20, .tup [.str sLam, t.rep])] 28 t.rep) σ = some (outE σ (mvT by_ b t (a + 1))) := (mv_call eb).trans ih
    cases q : mvT by_ b t (a + 1) with
    | ok v =>
      rw [q] at ec
      rw [mvT, q]
      refine mv_low (low a) (v := .tup [.str sLam, t.rep]) (vs := [v]) rfl ?_ rfl rfl
      refine (congrArg (bnd · kComp2) ec_one).trans ?_
      rw [ec]; rfl
    | error c =>
      rw [q] at ec
      rw [mvT, q]
      refine mv_lowx (low a) (v := .tup [.str sLam, t.rep]) rfl ?_
      refine (congrArg (bnd · kComp2) ec_one).trans ?_
      rw [ec]; rfl
  | app l r ihl ihr =>
    intro a n ht hn
    rw [mv_idx (idx_none n (.app l r) ht rfl σ)]
    cases n with
    | zero => exact absurd hn (Nat.not_succ_le_zero _)
    | succ m =>
    have hn : max l.dep r.dep ≤ m := Nat.le_of_succ_le_succ hn
    have eb : (lev gloT (m + 1 + 4)).fn 25 [(Tm.app l r).rep] σ = some (.ok (.int 0) σ) := below_ok (m + 1 + 3) (.app l r) ht rfl σ
    have el : EV (lev gloT (m + 1 + 4)) mvE (setLB [(26, .int by_), (14, .int b), (2, .int a), (20, .tup [.str sApp, l.rep, r.rep])] 28 l.rep) σ = some (outE σ (mvT by_ b l a)) := (mv_call eb).trans (ihl (a + 0) m ht.1 (Nat.le_trans (Nat.le_max_left ..) hn))
    have er : EV (lev gloT (m + 1 + 4)) mvE (setLB (setLB [(26, .int by_), (14, .int b), (2, .int a), (20, .tup [.str sApp, l.rep, r.rep])] 28 l.rep) 28 r.rep) σ = some (outE σ (mvT by_ b r a)) := (mv_call eb).trans (ihr (a + 0) m ht.2 (Nat.le_trans (Nat.le_max_right ..) hn))
    cases q : mvT by_ b l a with
    | ok v =>
      rw [q] at el
      cases q' : mvT by_ b r a with
      | ok u =>
        rw [q'] at er
        rw [mvT, q, q']
        refine mv_low (low a) (v := .tup [.str sApp, l.rep, r.rep]) (vs := [v, u]) rfl ?_ rfl rfl
        refine (congrArg (bnd · kComp2) ec_two).trans ?_
        rw [el]
        dsimp only [outE]
        rw [bnd_okL, er]; rfl
      | error c =>
        rw [q'] at er
        rw [mvT, q, q']
        refine mv_lowx (low a) (v := .tup [.str sApp, l.rep, r.rep]) rfl ?_
        refine (congrArg (bnd · kComp2) ec_two).trans ?_
        rw [el]
        dsimp only [outE]
        rw [bnd_okL, er]; rfl
    | error c =>
      rw [q] at el
      rw [mvT, q]
      refine mv_lowx (low a) (v := .tup [.str sApp, l.rep, r.rep]) rfl ?_
      refine (congrArg (bnd · kComp2) ec_two).trans ?_
      rw [el]; rfl
theorem shifted_ok (by_ : Int) (b : Nat) (σ : Store) (t : Tm) (n : Nat) (ht : t.ok) (hn : t.dep ≤ n) :
    (lev gloT (n + 6)).fn 29 [t.rep, .int by_, .int b] σ = some (outE σ (mvT by_ b t 0)) := by
  rw [fn_29 _ _ _ rfl]
  have e := moved_ok by_ b σ t 0 n ht hn
  show outOf (nextOf (bndE _ ((lev gloT (n + 5)).fn 27 [t.rep, .int by_, .int b, .int (0 : Nat)] σ) _) _) = _
  rw [e]
  cases mvT by_ b t 0 <;> rfl
end Mine
end
/-! L10: within their lams -/
section
set_option autoImplicit false
set_option linter.unusedVariables false
set_option linter.unusedSimpArgs false
set_option maxRecDepth 100000
namespace Mine
open PySem
section
variable {Φ : Sig} {elt c : CE} {x : Nat} {ρ : Loc} {σ : Store} {v w : PV}
theorem lk_same (ρ : Loc) (x : Nat) (v : PV) : lkB (setLB ρ x v) x = some v := by rw [lk_setF]; simp
theorem ecc_at {v : PV} {i : Nat} {acc : List PV} {src : PV} (h : itemAt σ false src i = some (some v)) (hl : acc.length < SZ) : EC Φ (.loc x) [x] false (some c) src i ρ acc σ = bnd (ET Φ c (setLB ρ x v) σ) fun b σ => EC Φ (.loc x) [x] false (some c) src (i + 1) (setLB ρ x v) (acc ++ if b = true then [v] else []) σ := by
  rw [EC_eqB, h]
  refine congrArg (bnd (ET Φ c (setLB ρ x v) σ)) (funext fun b => funext fun σ => ?_)
  cases b
  · exact (congrArg (fun l => EC Φ (.loc x) [x] false (some c) src (i + 1) (setLB ρ x v) l σ) (List.append_nil acc)).symm
  · rw [if_pos rfl, EV_loc, lk_same, rok_someL, bnd_okL, if_pos hl]; rfl
theorem ecc_one : EC Φ (.loc x) [x] false (some c) (.tup [v]) 0 ρ [] σ = bnd (ET Φ c (setLB ρ x v) σ) fun b σ => some (.ok (if b = true then [v] else []) σ) :=
  (ecc_at rfl (by decide)).trans (congrArg _ (funext fun b => funext fun σ => EC_end rfl))
theorem len_if {b : Bool} {v : PV} : (if b = true then [v] else []).length < SZ := by
  cases b
  · exact (by decide : 0 < SZ)
  · exact (by decide : 1 < SZ)
theorem ecc_two : EC Φ (.loc x) [x] false (some c) (.tup [v, w]) 0 ρ [] σ = bnd (ET Φ c (setLB ρ x v) σ) fun b σ => bnd (ET Φ c (setLB (setLB ρ x v) x w) σ) fun d σ => some (.ok ((if b = true then [v] else []) ++ (if d = true then [w] else [])) σ) :=
  (ecc_at rfl (by decide)).trans (congrArg _ (funext fun b => funext fun σ => (ecc_at rfl len_if).trans (congrArg _ (funext fun d => funext fun σ => EC_end rfl))))
end
noncomputable def clT : Tm → Nat → Except Nat Bool
  | .var f, d => if f.length ≤ 9 then .ok (decide (numOf f < d)) else .error 3
  | .oth _, _ => .ok true
  | .lam t, d => clT t (d + 1)
  | .app l r, d => match clT l d with
    | .ok x => (match clT r d with
      | .ok y => .ok (x && y)
      | .error e => .error e)
    | .error e => .error e
noncomputable def outB (σ : Store) : Except Nat Bool → R PV
  | .ok v => .ok (.bool v) σ
  | .error c => .exc ⟨c, none⟩ σ
noncomputable def cbG : CE := .cmp .GtE (.loc 22) (.cint 0)
noncomputable def cbA : CE := .bin .Add (.loc 30) (.call 25 [(.loc 20)])
noncomputable def cbE : CE := .not (.call 31 [(.loc 28), cbA])
noncomputable def cbQ : CE := .comp (.loc 28) [28] false [30, 20] (.slice (.loc 20) (some (.cint 1)) .none) (some cbE)
noncomputable def cbρ (v : PV) (a : Nat) : Loc := [(20, v), (30, .int a)]
noncomputable def cbρ' (v : PV) (a : Nat) (i : Int) : Loc := [(20, v), (30, .int a), (22, .int i)]
noncomputable def cbL : List CS := [.iff cbG [.ret (.cmp .Lt (.loc 22) (.loc 30))] [], .ret (.cmpNil .Eq cbQ)]
section
variable {n : Nat} {v x : PV} {i : Int} {a : Nat} {σ : Store}
theorem cb_is : (lev gloT (n + 5)).fn 31 [v, .int a] σ = outOf (EXs (lev gloT (n + 4)) (.asg 22 (.call 21 [(.loc 20)]) :: cbL) (cbρ v a) σ) := fn_31 _ _ _ rfl
theorem cb_idx (h : (lev gloT (n + 4)).fn 21 [v] σ = some (.ok (.int i) σ)) : (lev gloT (n + 5)).fn 31 [v, .int a] σ = outOf (EXs (lev gloT (n + 4)) cbL (cbρ' v a i) σ) :=
  cb_is.trans (congrArg outOf (asg_nx (ρ := cbρ v a) h))
theorem cb_exc {x : PX} (h : (lev gloT (n + 4)).fn 21 [v] σ = some (.exc x σ)) : (lev gloT (n + 5)).fn 31 [v, .int a] σ = some (.exc x σ) :=
  cb_is.trans (congrArg outOf (asg_exc (k := n + 4) (e := .call 21 [(.loc 20)]) (ρ := cbρ v a) (σ := σ) h))
theorem cb_call {d : Int} (eb : (lev gloT (n + 4)).fn 25 [v] σ = some (.ok (.int d) σ)) : ET (lev gloT (n + 4)) cbE [(30, .int a), (20, v), (28, x)] σ = bnd (bnd ((lev gloT (n + 4)).fn 31 [x, .int (a + d)] σ) kTruth) kTNot := by
  have e : EV (lev gloT (n + 4)) cbA [(30, .int a), (20, v), (28, x)] σ = some (.ok (.int (a + d)) σ) := by
    show bnd (bnd (some (.ok [v] σ)) ((lev gloT (n + 4)).fn 25)) (kBin2 .Add (.int a)) = _
    rw [bnd_okL, eb]; rfl
  show bnd (bnd (bnd (bnd (bnd (EV (lev gloT (n + 4)) cbA _ σ) (kVs _)) (kVs2 _)) _) _) _ = _
  rw [e]; rfl
theorem cb_low (h : ¬ 0 ≤ i) {vs : List PV} (hq : EV (lev gloT (n + 4)) cbQ (cbρ' v a i) σ = some (.ok (.lst vs) σ)) : outOf (EXs (lev gloT (n + 4)) cbL (cbρ' v a i) σ) = some (.ok (.bool vs.isEmpty) σ) := by
  have hc : ET (lev gloT (n + 4)) cbG (cbρ' v a i) σ = some (.ok (decide (0 ≤ i)) σ) := rfl
  rw [decide_eq_false h] at hc
  refine congrArg outOf ((if_skip hc).trans (ret_is (v := .bool vs.isEmpty) ?_))
  rw [EV_cmpNil, hq]; rfl
theorem cb_lowx (h : ¬ 0 ≤ i) {q : PX} (hq : EV (lev gloT (n + 4)) cbQ (cbρ' v a i) σ = some (.exc q σ)) : outOf (EXs (lev gloT (n + 4)) cbL (cbρ' v a i) σ) = some (.exc q σ) := by
  have hc : ET (lev gloT (n + 4)) cbG (cbρ' v a i) σ = some (.ok (decide (0 ≤ i)) σ) := rfl
  rw [decide_eq_false h] at hc
  refine congrArg outOf ((if_skip hc).trans (ret_exc ?_))
  rw [EV_cmpNil, hq]; rfl
end
theorem closed_below_ok (σ : Store) (t : Tm) : ∀ (a n : Nat), t.ok → t.dep ≤ n →
    (lev gloT (n + 5)).fn 31 [t.rep, .int a] σ = some (outB σ (clT t a)) := by
  have low : ¬ (0 : Int) ≤ -1 := by decide
  induction t with
  | var f =>
    intro a n ht hn
    rw [clT]
    by_cases c1 : f.length ≤ 9
    · have hc : ET (lev gloT (n + 4)) cbG (cbρ' (Tm.var f).rep a (numOf f)) σ = some (.ok (decide (0 ≤ (numOf f : Int))) σ) := rfl
      rw [decide_eq_true (Int.natCast_nonneg _)] at hc
      rw [if_pos c1, cb_idx (idx_ok n f ht c1 σ)]
      refine (congrArg outOf (iff_t hc)).trans ?_
      rw [show decide (numOf f < a) = decide ((numOf f : Int) < a) from decide_eq_decide.mpr Int.ofNat_lt.symm]
      rfl
    · rw [if_neg c1, cb_exc (idx_exc n f ht c1 σ)]; rfl
  | oth o =>
    intro a n ht hn
    rw [cb_idx (idx_none n (.oth o) ht rfl σ)]
    refine cb_low low (vs := []) ?_
    exact congrArg (bnd · kComp2) ec_nil
  | lam t ih =>
    intro a n ht hn
    rw [cb_idx (idx_none n (.lam t) ht rfl σ)]
    cases n with
    | zero => exact absurd hn (Nat.not_succ_le_zero _)
    | succ m =>
    have eb : (lev gloT (m + 1 + 4)).fn 25 [(Tm.lam t).rep] σ = some (.ok (.int 1) σ) := below_ok (m + 1 + 3) (.lam t) ht rfl σ
    have ec : ET (lev gloT (m + 1 + 4)) cbE (setLB [(30, .int a), (20, .tup [.str sLam, t.rep])] 28 t.rep) σ = bnd (bnd (some (outB σ (clT t (a + 1)))) kTruth) kTNot := (cb_call eb).trans (congrArg (fun x => bnd (bnd x kTruth) kTNot) (ih (a + 1) m ht (Nat.le_of_succ_le_succ hn)))
    rw [clT]
    cases q : clT t (a + 1) with
    | ok v =>
      rw [q] at ec
      refine (cb_low low (v := .tup [.str sLam, t.rep]) (vs := if (!v) = true then [t.rep] else []) ((congrArg (bnd · kComp2) ecc_one).trans (by rw [ec]; rfl))).trans ?_
      cases v <;> rfl
    | error c =>
      rw [q] at ec
      exact cb_lowx low (v := .tup [.str sLam, t.rep]) ((congrArg (bnd · kComp2) ecc_one).trans (by rw [ec]; rfl))
  | app l r ihl ihr =>
    intro a n ht hn
    rw [cb_idx (idx_none n (.app l r) ht rfl σ)]
    cases n with
    | zero => exact absurd hn (Nat.not_succ_le_zero _)
    | succ m =>
    have hn : max l.dep r.dep ≤ m := Nat.le_of_succ_le_succ hn
    have eb : (lev gloT (m + 1 + 4)).fn 25 [(Tm.app l r).rep] σ = some (.ok (.int 0) σ) := below_ok (m + 1 + 3) (.app l r) ht rfl σ
    have el : ET (lev gloT (m + 1 + 4)) cbE (setLB [(30, .int a), (20, .tup [.str sApp, l.rep, r.rep])] 28 l.rep) σ = bnd (bnd (some (outB σ (clT l a))) kTruth) kTNot := (cb_call eb).trans (congrArg (fun x => bnd (bnd x kTruth) kTNot) (ihl (a + 0) m ht.1 (Nat.le_trans (Nat.le_max_left ..) hn)))
    have er : ET (lev gloT (m + 1 + 4)) cbE (setLB (setLB [(30, .int a), (20, .tup [.str sApp, l.rep, r.rep])] 28 l.rep) 28 r.rep) σ = bnd (bnd (some (outB σ (clT r a))) kTruth) kTNot := (cb_call eb).trans (congrArg (fun x => bnd (bnd x kTruth) kTNot) (ihr (a + 0) m ht.2 (Nat.le_trans (Nat.le_max_right ..) hn)))
    rw [clT]
    cases q : clT l a with
    | ok v =>
      rw [q] at el
      cases q' : clT r a with
      | ok u =>
        rw [q'] at er
        refine (cb_low low (v := .tup [.str sApp, l.rep, r.rep]) (vs := (if (!v) = true then [l.rep] else []) ++ (if (!u) = true then [r.rep] else [])) ((congrArg (bnd · kComp2) ecc_two).trans (by
          rw [el]
          dsimp only [outB]
          rw [bnd_okL, kTruth, truth_bool, rok_someL, bnd_okL, kTNot, bnd_okL, er]; rfl))).trans ?_
        cases v <;> cases u <;> rfl
      | error c =>
        rw [q'] at er
        exact cb_lowx low (v := .tup [.str sApp, l.rep, r.rep]) ((congrArg (bnd · kComp2) ecc_two).trans (by
          rw [el]
          dsimp only [outB]
          rw [bnd_okL, kTruth, truth_bool, rok_someL, bnd_okL, kTNot, bnd_okL, er]; rfl))
    | error c =>
      rw [q] at el
      exact cb_lowx low (v := .tup [.str sApp, l.rep, r.rep]) ((congrArg (bnd · kComp2) ecc_two).trans (by rw [el]; rfl))
theorem closed_ok (σ : Store) (t : Tm) (n : Nat) (ht : t.ok) (hn : t.dep ≤ n) : (lev gloT (n + 6)).fn 32 [t.rep] σ = some (outB σ (clT t 0)) := by
  rw [fn_32 _ _ _ rfl]
  have e := closed_below_ok σ t 0 n ht hn
  show outOf (nextOf (bndE _ ((lev gloT (n + 5)).fn 31 [t.rep, .int (0 : Nat)] σ) _) _) = _
  rw [e]
  cases clT t 0 <;> rfl
end Mine
end
/-! L11: what the law reckons -/
section
set_option autoImplicit false
set_option linter.unusedVariables false
set_option linter.unusedSimpArgs false
set_option maxRecDepth 100000
namespace Mine
open PySem
noncomputable def lateAll (by_ : Int) (b : Nat) : List (List Nat × Nat) → Except Nat (List Int)
  | [] => .ok []
  | (f, a) :: r => match lateOf by_ b a f with
    | .ok i => (match lateAll by_ b r with
      | .ok l => .ok (i :: l)
      | .error e => .error e)
    | .error e => .error e
noncomputable def wordOf (c : Nat) : List Nat := if c = 3 then sLimit else sTerm
noncomputable def ltG : CE := .cmp .GtE (.loc 22) (.bin .Add (.loc 14) (.loc 2))
noncomputable def ltN : CE := .cmp .Is (.loc 22) .cnone
noncomputable def ltV : CE := .ite ltG (.bin .Add (.loc 22) (.loc 26)) (.loc 22)
noncomputable def ltL : CE := .cmp .Lt (.loc 58) (.loc 2)
noncomputable def ltH : CE := .cmp .Gt (.loc 58) (.cint 999999999)
noncomputable def ltW : List CS := [.ret (.tup [(.cstr [108, 105, 109, 105, 116]), .cnone])]
noncomputable def ltT : List CS := [.ret (.tup [(.cstr [116, 101, 114, 109]), .cnone])]
noncomputable def lateBody : List CS := [.iff ltN ltW [], .asg 58 ltV, .iff (.bop true [ltG, ltL]) ltT [], .iff ltH ltW [], .exp (.mapp (.loc 38) (.loc 58))]
structure LtE (ρ : Loc) (by_ : Int) (b a : Nat) (v : PV) : Prop where
  h22 : lkB ρ 22 = some v
  h2 : lkB ρ 2 = some (.int a)
  h26 : lkB ρ 26 = some (.int by_)
  h14 : lkB ρ 14 = some (.int b)
  h38 : lkB ρ 38 = some (.ref 3)
section
variable {k : Nat} {ρ : Loc} {by_ : Int} {b a : Nat} {j : Nat} {σ : Store}
theorem LtE.set {v u : PV} (E : LtE ρ by_ b a v) : LtE (setLB ρ 58 u) by_ b a v := ⟨(lk_setF ..).trans E.h22, (lk_setF ..).trans E.h2, (lk_setF ..).trans E.h26, (lk_setF ..).trans E.h14, (lk_setF ..).trans E.h38⟩
theorem LtE.g {Φ : Sig} (E : LtE ρ by_ b a (.int j)) : ET Φ ltG ρ σ = some (.ok (decide (b + a ≤ j)) σ) := by
  rw [ltG, ET_cmp, EV_loc, E.h22, rok_someL, bnd_okL, kCmp, EV_bin, EV_loc, E.h14, rok_someL, bnd_okL, kBin, EV_loc, E.h2, show decide (b + a ≤ j) = decide ((b : Int) + a ≤ j) from decide_eq_decide.mpr Int.ofNat_le.symm]
  rfl
/-- what a turn does -/
theorem late_turn {T : List Nat} {s : List Int} {p : Nat} {r0 : PO} {acc : List Int} {f : List Nat} (E : LtE ρ by_ b a (idxOf f)) (ha : (acc.map PV.int).length ≤ SZ) (hf : FigOk f) : match lateOf by_ b a f with
    | .ok i => EXs (lev gloT k) lateBody ρ (fd T s p [r0, .lst (acc.map .int)]) = some (.nxt (setLB ρ 58 (.int i)) (fd T s p [r0, .lst ((acc ++ [i]).map .int)]))
    | .error c => ∃ ρ', EXs (lev gloT k) lateBody ρ (fd T s p [r0, .lst (acc.map .int)]) = some (.ret (.tup [.str (wordOf c), .none]) ρ' (fd T s p [r0, .lst (acc.map .int)])) := by
  unfold lateOf
  by_cases c1 : f.length ≤ 9
  · rw [if_pos c1]
    rw [show idxOf f = .int (numOf f) from if_pos c1] at E
    have hN : ET (lev gloT k) ltN ρ (fd T s p [r0, .lst (acc.map .int)]) = some (.ok false (fd T s p [r0, .lst (acc.map .int)])) := by
      rw [ltN, ET_cmp, EV_loc, E.h22]; rfl
    have run : ∀ i : Int, EV (lev gloT k) ltV ρ (fd T s p [r0, .lst (acc.map .int)]) = some (.ok (.int i) (fd T s p [r0, .lst (acc.map .int)])) → EXs (lev gloT k) lateBody ρ (fd T s p [r0, .lst (acc.map .int)]) = EXs (lev gloT k) [.iff (.bop true [ltG, ltL]) ltT [], .iff ltH ltW [], .exp (.mapp (.loc 38) (.loc 58))] (setLB ρ 58 (.int i)) (fd T s p [r0, .lst (acc.map .int)]) := fun i h => (if_skip hN).trans (asg_nx h)
    have hL : ∀ i : Int, ET (lev gloT k) ltL (setLB ρ 58 (.int i)) (fd T s p [r0, .lst (acc.map .int)]) = some (.ok (decide (i < a)) (fd T s p [r0, .lst (acc.map .int)])) := fun i => by
      rw [ltL, ET_cmp, EV_loc, show lkB (setLB ρ 58 (.int i)) 58 = some (.int i) from lk_same .., rok_someL, bnd_okL, kCmp, EV_loc, E.set.h2]; rfl
    have hH : ∀ i : Int, ET (lev gloT k) ltH (setLB ρ 58 (.int i)) (fd T s p [r0, .lst (acc.map .int)]) = some (.ok (decide (999999999 < i)) (fd T s p [r0, .lst (acc.map .int)])) := fun i => by
      rw [ltH, ET_cmp, EV_loc, show lkB (setLB ρ 58 (.int i)) 58 = some (.int i) from lk_same ..]; rfl
    have add : ∀ i : Int, ¬ 999999999 < i → EXs (lev gloT k) [.iff ltH ltW [], .exp (.mapp (.loc 38) (.loc 58))] (setLB ρ 58 (.int i)) (fd T s p [r0, .lst (acc.map .int)]) = some (.nxt (setLB ρ 58 (.int i)) (fd T s p [r0, .lst ((acc ++ [i]).map .int)])) := fun i h => by
      have hh := hH i
      rw [decide_eq_false h] at hh
      rw [if_skip hh, EXs_cons, EX_exp, kq_lev, EV_mapp, kq_lev, EV_loc, (E.set (u := .int i)).h38, rok_someL, bnd_okL]
      show nextOf (bndE _ (bnd (EV (lev gloT k) (.loc 58) (setLB ρ 58 (.int i)) _) (kApp2 3)) _) _ = _
      rw [EV_loc, show lkB (setLB ρ 58 (.int i)) 58 = some (.int i) from lk_same ..]
      show nextOf (bndE _ (if (acc.map PV.int).length ≤ SZ then some (R.ok PV.none (fd T s p [r0, .lst (acc.map .int ++ [.int i])])) else none) _) _ = _
      rw [if_pos ha, List.map_append]; rfl
    have hg := (E.set (u := .int (numOf f + by_))).g (Φ := lev gloT k) (σ := fd T s p [r0, .lst (acc.map .int)])
    have hg' := (E.set (u := .int (numOf f))).g (Φ := lev gloT k) (σ := fd T s p [r0, .lst (acc.map .int)])
    have hv := E.g (Φ := lev gloT k) (σ := fd T s p [r0, .lst (acc.map .int)])
    by_cases c2 : b + a ≤ numOf f
    · rw [decide_eq_true c2] at hg hv
      rw [if_pos c2]
      have e := run (numOf f + by_) (by
        rw [ltV, EV_ite, hv]
        show EV (lev gloT k) (.bin .Add (.loc 22) (.loc 26)) ρ _ = _
        rw [EV_bin, EV_loc, E.h22, rok_someL, bnd_okL, kBin, EV_loc, E.h26]; rfl)
      have hA : ET (lev gloT k) (.bop true [ltG, ltL]) (setLB ρ 58 (.int (numOf f + by_))) (fd T s p [r0, .lst (acc.map .int)]) = some (.ok (decide ((numOf f : Int) + by_ < a)) (fd T s p [r0, .lst (acc.map .int)])) := by
        rw [ET_bop, ETs_cons, hg, bnd_okL, kTs, ETs_cons, hL, bnd_okL]
        cases decide ((numOf f : Int) + by_ < a) <;> rfl
      by_cases c3 : (numOf f : Int) + by_ < a
      · rw [decide_eq_true c3] at hA
        rw [if_pos c3]
        exact ⟨_, e.trans (iff_t hA)⟩
      · rw [decide_eq_false c3] at hA
        rw [if_neg c3]
        by_cases c4 : (numOf f : Int) + by_ ≤ 999999999
        · rw [if_pos c4]
          exact e.trans ((if_skip hA).trans (add _ (Int.not_lt.mpr c4)))
        · rw [if_neg c4]
          have hh := hH (numOf f + by_)
          rw [decide_eq_true (Int.not_le.mp c4)] at hh
          exact ⟨_, e.trans ((if_skip hA).trans (iff_t hh))⟩
    · rw [decide_eq_false c2] at hg' hv
      rw [if_neg c2]
      have e := run (numOf f) (by
        rw [ltV, EV_ite, hv]
        show EV (lev gloT k) (.loc 22) ρ _ = _
        rw [EV_loc, E.h22]; rfl)
      have hA : ET (lev gloT k) (.bop true [ltG, ltL]) (setLB ρ 58 (.int (numOf f))) (fd T s p [r0, .lst (acc.map .int)]) = some (.ok false (fd T s p [r0, .lst (acc.map .int)])) := by
        rw [ET_bop, ETs_cons, hg']; rfl
      exact e.trans ((if_skip hA).trans (add _ (Int.not_lt.mpr (Int.ofNat_le.mpr (num_le hf c1)))))
  · rw [if_neg c1]
    rw [show idxOf f = .none from if_neg c1] at E
    have hN : ET (lev gloT k) ltN ρ (fd T s p [r0, .lst (acc.map .int)]) = some (.ok true (fd T s p [r0, .lst (acc.map .int)])) := by
      rw [ltN, ET_cmp, EV_loc, E.h22]; rfl
    exact ⟨ρ, iff_t hN⟩
end
theorem late_loop (k : Nat) (T : List Nat) (s : List Int) (p : Nat) (by_ : Int) (b : Nat) (rows : List (List Nat × Nat)) (hok : ∀ x ∈ rows, FigOk x.1) (hr : rows.length ≤ 10) : ∀ (rest : List (List Nat × Nat)) (i : Nat) (ρ : Loc) (acc : List Int), rows.drop i = rest → acc.length ≤ i → i ≤ rows.length →
    lkB ρ 26 = some (.int by_) → lkB ρ 14 = some (.int b) → lkB ρ 38 = some (.ref 3) →
    match lateAll by_ b rest with
    | .ok l => ∃ ρ', lkB ρ' 38 = some (.ref 3) ∧ EF (lev gloT k) [22, 2] true (.ref 2) i lateBody ρ (fd T s p [.lst (rows.map rowOf), .lst (acc.map .int)]) = some (.nxt ρ' (fd T s p [.lst (rows.map rowOf), .lst ((acc ++ l).map .int)]))
    | .error c => ∃ ρ' l, EF (lev gloT k) [22, 2] true (.ref 2) i lateBody ρ (fd T s p [.lst (rows.map rowOf), .lst (acc.map .int)]) = some (.ret (.tup [.str (wordOf c), .none]) ρ' (fd T s p [.lst (rows.map rowOf), .lst l])) := by
  intro rest
  induction rest with
  | nil =>
    intro i ρ acc h1 h2 h3 h4 h5 h6
    refine ⟨ρ, h6, ?_⟩
    have hi : i = rows.length := Nat.le_antisymm h3 (List.drop_eq_nil_iff.mp h1)
    rw [List.append_nil]
    refine EF_end ?_
    show some (rows.map rowOf)[i]? = _
    rw [hi, List.getElem?_map, List.getElem?_eq_none (Nat.le_refl _)]; rfl
  | cons x rest ih =>
    intro i ρ acc h1 h2 h3 h4 h5 h6
    obtain ⟨f, a⟩ := x
    have hi : i < rows.length := Nat.lt_of_not_le fun z => by rw [List.drop_eq_nil_iff.mpr z] at h1; cases h1
    rw [List.drop_eq_getElem_cons hi] at h1
    obtain ⟨hx, hd⟩ := List.cons.inj h1
    have hf : FigOk f := by
      have := hok _ (List.getElem_mem hi)
      rw [hx] at this
      exact this
    have hit : itemAt (fd T s p [.lst (rows.map rowOf), .lst (acc.map .int)]) true (.ref 2) i = some (some (.tup [idxOf f, .int a])) := by
      show some (rows.map rowOf)[i]? = _
      rw [List.getElem?_map, List.getElem?_eq_getElem hi, hx]; rfl
    have hn : acc.length + 1 ≤ i + 1 := Nat.succ_le_succ h2
    have E : LtE (setLB (setLB ρ 22 (idxOf f)) 2 (.int a)) by_ b a (idxOf f) := ⟨(lk_setF ..).trans (lk_setF ..), lk_setF .., (lk_setF ..).trans ((lk_setF ..).trans h4), (lk_setF ..).trans ((lk_setF ..).trans h5), (lk_setF ..).trans ((lk_setF ..).trans h6)⟩
    have t := late_turn (k := k) (T := T) (s := s) (p := p) (r0 := .lst (rows.map rowOf)) E (acc := acc) (by rw [List.length_map]; exact Nat.le_trans h2 (Nat.le_trans h3 (Nat.le_trans hr (by decide)))) hf
    rw [lateAll]
    cases q : lateOf by_ b a f with
    | error c =>
      rw [q] at t
      obtain ⟨ρ', t⟩ := t
      exact ⟨ρ', _, EF_at hit rfl t⟩
    | ok j =>
      rw [q] at t
      have F := E.set (u := .int j)
      have ih := ih (i + 1) (setLB (setLB (setLB ρ 22 (idxOf f)) 2 (.int a)) 58 (.int j)) (acc ++ [j]) hd (by rw [List.length_append]; exact hn) hi F.h26 F.h14 F.h38
      have e := EF_at (xs := [22, 2]) (tt := true) hit rfl t
      dsimp only
      cases q' : lateAll by_ b rest with
      | ok l =>
        rw [q'] at ih
        obtain ⟨ρ', g1, g2⟩ := ih
        rw [List.append_assoc] at g2
        exact ⟨ρ', g1, e.trans g2⟩
      | error c =>
        rw [q'] at ih
        obtain ⟨ρ', l, g2⟩ := ih
        exact ⟨ρ', l, e.trans g2⟩
theorem late_ok (k : Nat) (T : List Nat) (s : List Int) (p : Nat) (by_ : Int) (b : Nat) (rows : List (List Nat × Nat)) (hok : ∀ x ∈ rows, FigOk x.1) (hr : rows.length ≤ 10) :
    match lateAll by_ b rows with
    | .ok l => (lev gloT (k + 1)).fn 57 [.ref 2, .int by_, .int b] (fd T s p [.lst (rows.map rowOf)]) = some (.ok (.tup [.str sTold, .ref 3]) (fd T s p [.lst (rows.map rowOf), .lst (l.map .int)]))
    | .error c => ∃ l, (lev gloT (k + 1)).fn 57 [.ref 2, .int by_, .int b] (fd T s p [.lst (rows.map rowOf)]) = some (.ok (.tup [.str (wordOf c), .none]) (fd T s p [.lst (rows.map rowOf), .lst l])) := by
  rw [fn_57 _ _ _ rfl]
  have h := late_loop k T s p by_ b rows hok hr rows 0 [(56, .ref 2), (26, .int by_), (14, .int b), (38, .ref 3)] [] rfl (Nat.le_refl _) (Nat.zero_le _) rfl rfl rfl
  have e : EXs (lev gloT k) f_law_late.2 (f_law_late.1.zip [.ref 2, .int by_, .int b]) (fd T s p [.lst (rows.map rowOf)]) = nextOf (EF (lev gloT k) [22, 2] true (.ref 2) 0 lateBody [(56, .ref 2), (26, .int by_), (14, .int b), (38, .ref 3)] (fd T s p [.lst (rows.map rowOf), .lst []])) (EXs (lev gloT k) [.ret (.tup [(.cstr [116, 111, 108, 100]), (.loc 38)])]) := rfl
  rw [e]
  cases q : lateAll by_ b rows with
  | ok l =>
    rw [q] at h
    obtain ⟨ρ', h1, h2⟩ := h
    have h2 : EF (lev gloT k) [22, 2] true (.ref 2) 0 lateBody [(56, .ref 2), (26, .int by_), (14, .int b), (38, .ref 3)] (fd T s p [.lst (rows.map rowOf), .lst []]) = some (.nxt ρ' (fd T s p [.lst (rows.map rowOf), .lst (l.map .int)])) := h2
    rw [h2, nextOf_nxt, EXs_cons, EX_ret, EV_tup, EVs_cons, EV_cstr, bnd_okL, kVs, EVs_cons, EV_loc, h1]
    rfl
  | error c =>
    rw [q] at h
    obtain ⟨ρ', l, h2⟩ := h
    have h2 : EF (lev gloT k) [22, 2] true (.ref 2) 0 lateBody [(56, .ref 2), (26, .int by_), (14, .int b), (38, .ref 3)] (fd T s p [.lst (rows.map rowOf), .lst []]) = _ := h2
    exact ⟨l, by rw [h2]; rfl⟩
end Mine
end
/-! L12: the term with its late indexes -/
section
set_option autoImplicit false
set_option linter.unusedVariables false
set_option linter.unusedSimpArgs false
set_option maxRecDepth 100000
namespace Mine
open PySem PySem.W PyProof.Rows
noncomputable def Tm.cnt : Tm → Nat
  | .var _ => 1
  | .oth _ => 0
  | .lam t => t.cnt
  | .app l r => l.cnt + r.cnt
noncomputable def ixT (ns : List Int) : Tm → Nat → PV
  | .var _, c => .tup [.str (sVar ++ digs (ns.getD c 0))]
  | .oth o, _ => .tup [.str o]
  | .lam t, c => .tup [.str sLam, ixT ns t c]
  | .app l r, c => .tup [.str sApp, ixT ns l c, ixT ns r (c + l.cnt)]
theorem lvs_cnt : ∀ (t : Tm) (a : Nat), (t.lvs a).length = t.cnt
  | .var _, _ => rfl
  | .oth _, _ => rfl
  | .lam t, a => lvs_cnt t (a + 1)
  | .app l r, a => by
    simp only [Tm.lvs, Tm.cnt, List.length_append]
    rw [lvs_cnt l a, lvs_cnt r a]
theorem late_append (by_ : Int) (b : Nat) : ∀ (x y : List (List Nat × Nat)), lateAll by_ b (x ++ y) = match lateAll by_ b x with
    | .ok l => (match lateAll by_ b y with
      | .ok m => .ok (l ++ m)
      | .error e => .error e)
    | .error e => .error e
  | [], y => by
    simp only [lateAll, List.nil_append]
    cases lateAll by_ b y <;> rfl
  | (f, a) :: r, y => by
    simp only [List.cons_append, lateAll, late_append by_ b r y]
    cases lateOf by_ b a f with
    | error e => rfl
    | ok i =>
      dsimp only
      cases lateAll by_ b r with
      | error e => rfl
      | ok l =>
        dsimp only
        cases lateAll by_ b y <;> rfl
theorem late_len (by_ : Int) (b : Nat) : ∀ (x : List (List Nat × Nat)) (l : List Int), lateAll by_ b x = .ok l → l.length = x.length
  | [], l, h => by cases h; rfl
  | (f, a) :: r, l, h => by
    simp only [lateAll] at h
    cases q : lateOf by_ b a f with
    | error e => rw [q] at h; cases h
    | ok i =>
      rw [q] at h
      dsimp only at h
      cases q' : lateAll by_ b r with
      | error e => rw [q'] at h; cases h
      | ok m =>
        rw [q'] at h
        cases h
        simp [late_len by_ b r m q']
theorem mv_ix (by_ : Int) (b : Nat) : ∀ (t : Tm) (a : Nat) (pre post : List Int), mvT by_ b t a = match lateAll by_ b (t.lvs a) with
    | .ok l => .ok (ixT (pre ++ l ++ post) t pre.length)
    | .error e => .error e
  | .var f, a, pre, post => by
    simp only [mvT, Tm.lvs, lateAll]
    cases lateOf by_ b a f with
    | error e => rfl
    | ok i => simp [ixT]
  | .oth o, a, pre, post => by simp [mvT, Tm.lvs, lateAll, ixT]
  | .lam t, a, pre, post => by
    simp only [mvT, Tm.lvs, ixT]
    rw [mv_ix by_ b t (a + 1) pre post]
    cases lateAll by_ b (t.lvs (a + 1)) <;> rfl
  | .app l r, a, pre, post => by
    simp only [mvT, Tm.lvs, ixT]
    rw [late_append]
    cases q : lateAll by_ b (l.lvs a) with
    | error e =>
      have h := mv_ix by_ b l a pre post
      rw [q] at h
      rw [h]
    | ok x =>
      cases q' : lateAll by_ b (r.lvs a) with
      | error e =>
        have h := mv_ix by_ b l a pre post
        have h' := mv_ix by_ b r a pre post
        rw [q] at h
        rw [q'] at h'
        rw [h, h']
      | ok y =>
        have h := mv_ix by_ b l a pre (y ++ post)
        have h' := mv_ix by_ b r a (pre ++ x) post
        rw [q] at h
        rw [q'] at h'
        rw [h, h']
        have hl := late_len by_ b _ _ q
        rw [lvs_cnt l a] at hl
        simp only [List.length_append, hl, List.append_assoc]
/-- the law's own test: whether a leaf is a variable -/
theorem var_dig {f : List Nat} (h : FigOk f) : f.all (fun c => Nat.blt c 128) = true ∧ (!f.isEmpty && f.all isDig) = true := by
  have h1 := h.dig
  have h2 := h.ne
  constructor
  · simp only [List.all_eq_true] at h1 ⊢
    intro x hx
    have := h1 x hx
    simp [isDig] at this
    simp [Nat.blt_eq]
    omega
  · rw [h1]
    simpa using h2
theorem digs_short {i : Int} (h : i.natAbs < 1000000000000000000) : (digs i).length ≤ 1000 := by
  unfold digs
  rw [List.length_map]
  cases i with
  | ofNat j =>
    have e : toString (Int.ofNat j) = j.repr := rfl
    have h1 : j.repr.length ≤ 64 := nat_repr_length_le (by decide) (by
      have : (Int.ofNat j).natAbs = j := rfl
      rw [this] at h
      exact Nat.lt_trans h (by decide))
    rw [e]
    rw [← String.length_toList] at h1
    omega
  | negSucc j =>
    have e : toString (Int.negSucc j) = "-" ++ (j + 1).repr := rfl
    have h1 : (j + 1).repr.length ≤ 64 := nat_repr_length_le (by decide) (by
      have : (Int.negSucc j).natAbs = j + 1 := rfl
      rw [this] at h
      exact Nat.lt_trans h (by decide))
    rw [e, String.toList_append, List.length_append]
    rw [← String.length_toList] at h1
    have : "-".toList.length = 1 := rfl
    omega
noncomputable def ixD : CE := .bop false [(.cmp .NotEq (.sub (.sub (.loc 20) (.cint 0)) (.cint 3)) (.cstr [48])), (.cmp .Eq (.sub (.loc 20) (.cint 0)) (.cstr [118, 97, 114, 48]))]
noncomputable def ixT3 : CE := .slice (.sub (.loc 20) (.cint 0)) .none (some (.cint 3))
noncomputable def ixF3 : CE := .slice (.sub (.loc 20) (.cint 0)) (some (.cint 3)) .none
noncomputable def ixC : CE := .bop true [(.cmp .Eq (.bi .len [(.loc 20)]) (.cint 1)), (.cmp .Eq ixT3 (.cstr [118, 97, 114])), (.mdig ixF3), ixD]
noncomputable def ixA : CE := .mapp (.loc 38) (.cint 0)
noncomputable def ixN : CE := .bi .str [(.sub (.loc 59) (.bin .Sub (.bi .len [(.loc 38)]) (.cint 1)))]
noncomputable def ixE : CE := .call 60 [(.loc 61), (.loc 38), (.loc 59)]
noncomputable def ixQ : CE := .comp ixE [61] false [38, 59] (.slice (.loc 20) (some (.cint 1)) .none) .none
noncomputable def ixR : CE := .bin .Add (.tup [(.sub (.loc 20) (.cint 0))]) (.bi .tuple [ixQ])
noncomputable def ixρ (v : PV) : Loc := [(20, v), (38, .ref 4), (59, .ref 3)]
noncomputable def ixB : List CS := [.exp ixA, .ret (.tup [(.bin .Add (.cstr [118, 97, 114]) ixN)])]
theorem ix_is (k : Nat) (v : PV) (σ : Store) : (lev gloT (k + 1)).fn 60 [v, .ref 4, .ref 3] σ = outOf (EXs (lev gloT k) [.iff ixC ixB [], .ret ixR] (ixρ v) σ) := fn_60 _ _ _ rfl
theorem ix_no {k : Nat} {v : PV} {σ σ' : Store} {w : List Nat} {vs : List PV} (hv : lkB (ixρ v) 20 = some v) (h : ET (lev gloT k) ixC (ixρ v) σ = some (.ok false σ)) (e0 : EV (lev gloT k) (.tup [(.sub (.loc 20) (.cint 0))]) (ixρ v) σ = some (.ok (.tup [.str w]) σ)) (hq : EV (lev gloT k) ixQ (ixρ v) σ = some (.ok (.lst vs) σ')) (hl : biop .tuple [.lst vs] σ' = some (.tup vs)) (ha : binop .Add (.tup [.str w]) (.tup vs) = some (.tup (.str w :: vs))) :
    (lev gloT (k + 1)).fn 60 [v, .ref 4, .ref 3] σ = some (.ok (.tup (.str w :: vs)) σ') := by
  have er : EV (lev gloT k) ixR (ixρ v) σ = some (.ok (.tup (.str w :: vs)) σ') := by
    rw [ixR, EV_bin, e0, bnd_okL, kBin, EV_bi, kqm_4, EVs_cons, hq]
    show bnd (rok (biop .tuple [.lst vs] σ') σ') _ = _
    rw [hl, rok_someL, bnd_okL, kBin2, ha]; rfl
  rw [ix_is, EXs_cons, EX_iff, h]
  show outOf (nextOf (bndE _ (EV (lev gloT k) ixR (ixρ v) σ) _) _) = _
  rw [er]; rfl
theorem ix_dig {f : List Nat} (hf : FigOk f) (Φ : Sig) (σ : Store) (h1 : (sVar ++ f).length ≤ SZ) : ET Φ ixD (ixρ (.tup [.str (sVar ++ f)])) σ = some (.ok true σ) := by
  by_cases hx : f.head? = some 48
  · have hr := hf.lead hx
    subst hr
    rfl
  · cases hff : f with
    | nil => exact absurd hff hf.ne
    | cons x r =>
      subst hff
      have hx : (x == 48) = false := beq_false_of_ne fun z => hx (congrArg some z)
      show bnd (bnd (bnd (rok (if 0 ≤ (3 : Int) ∧ (sVar ++ x :: r).length ≤ SZ then some (.str [x]) else none) σ) (kCmp .NotEq _)) kTruth) (kTs false _) = _
      rw [if_pos ⟨by decide, h1⟩]
      show kTs false _ (!(x == 48 && true)) σ = _
      rw [hx]; rfl
theorem indexed_ok (T : List Nat) (s : List Int) (p : Nat) (r0 : PO) (ns : List Int) (hn : ns.length ≤ 10) (hb : ∀ x ∈ ns, x.natAbs < 1000000000000000000) (t : Tm) : ∀ (n c : Nat), t.ok → t.dep ≤ n → c + t.cnt ≤ ns.length →
    (lev gloT (n + 1)).fn 60 [t.rep, .ref 4, .ref 3] (fd T s p [r0, .lst (ns.map .int), .lst (List.replicate c (.int 0))]) = some (.ok (ixT ns t c) (fd T s p [r0, .lst (ns.map .int), .lst (List.replicate (c + t.cnt) (.int 0))])) := by
  induction t with
  | var f =>
    intro n c ht hd hc
    have hf : FigOk f := ht
    obtain ⟨d1, d2⟩ := var_dig hf
    have h1 : (sVar ++ f).length ≤ SZ := by rw [List.length_append]; exact Nat.le_trans (Nat.add_le_add_left hf.len 3) (by decide)
    have h2 : c < ns.length := hc
    have h3 : (ns[c]).natAbs < 1000000000000000000 := hb _ (List.getElem_mem h2)
    have hc9 : c + 1 ≤ SZ := Nat.le_trans hc (Nat.le_trans hn (by decide))
    have eC : ET (lev gloT n) ixC (ixρ (.tup [.str (sVar ++ f)])) (fd T s p [r0, .lst (ns.map .int), .lst (List.replicate c (.int 0))]) = some (.ok true (fd T s p [r0, .lst (ns.map .int), .lst (List.replicate c (.int 0))])) := by
      generalize fd T s p [r0, .lst (ns.map .int), .lst (List.replicate c (.int 0))] = σ
      have e1 : EV (lev gloT n) ixT3 (ixρ (.tup [.str (sVar ++ f)])) σ = some (.ok (.str [118, 97, 114]) σ) := by
        show rok (sliceop (.str (sVar ++ f)) none (some (.int 3))) σ = _
        rw [slice_to, if_pos h1, if_pos (by decide)]; rfl
      have e2 : ET (lev gloT n) (.mdig ixF3) (ixρ (.tup [.str (sVar ++ f)])) σ = some (.ok true σ) := by
        show bnd (bnd (rok (sliceop (.str (sVar ++ f)) (some (.int 3)) none) σ) kDig) kTruth = _
        rw [slice_from, if_pos h1, if_pos (by decide)]
        show bnd (if f.all (fun c => Nat.blt c 128) = true then some (R.ok (PV.bool (!f.isEmpty && f.all isDig)) σ) else none) kTruth = _
        rw [if_pos d1, d2]; rfl
      rw [ixC, ET_bop, ETs_cons]
      show ETs (lev gloT n) [(.cmp .Eq ixT3 (.cstr [118, 97, 114])), (.mdig ixF3), ixD] true _ σ = _
      rw [ETs_cons, ET_cmp, e1]
      show ETs (lev gloT n) [(.mdig ixF3), ixD] true _ σ = _
      rw [ETs_cons, e2, bnd_okL, kTs, ETs_cons, ix_dig hf _ _ h1]; rfl
    have eM : EX (lev gloT n) (.exp ixA) (ixρ (.tup [.str (sVar ++ f)])) (fd T s p [r0, .lst (ns.map .int), .lst (List.replicate c (.int 0))]) = some (.nxt (ixρ (.tup [.str (sVar ++ f)])) (fd T s p [r0, .lst (ns.map .int), .lst (List.replicate (c + 1) (.int 0))])) := by
      show bndE _ (if (List.replicate c (PV.int 0)).length ≤ SZ then some (R.ok PV.none (fd T s p [r0, .lst (ns.map .int), .lst (List.replicate c (.int 0) ++ [.int 0])])) else none) (kExp _) = _
      rw [if_pos (by rw [List.length_replicate]; exact Nat.le_of_succ_le hc9), ← List.replicate_succ']; rfl
    have eN : EV (lev gloT n) ixN (ixρ (.tup [.str (sVar ++ f)])) (fd T s p [r0, .lst (ns.map .int), .lst (List.replicate (c + 1) (.int 0))]) = some (.ok (.str (digs ns[c])) (fd T s p [r0, .lst (ns.map .int), .lst (List.replicate (c + 1) (.int 0))])) := by
      have e1 : EV (lev gloT n) (.bin .Sub (.bi .len [(.loc 38)]) (.cint 1)) (ixρ (.tup [.str (sVar ++ f)])) (fd T s p [r0, .lst (ns.map .int), .lst (List.replicate (c + 1) (.int 0))]) = some (.ok (.int c) (fd T s p [r0, .lst (ns.map .int), .lst (List.replicate (c + 1) (.int 0))])) := by
        show bnd (rok (if (List.replicate (c + 1) (PV.int 0)).length ≤ SZ then some (PV.int (List.replicate (c + 1) (PV.int 0)).length) else none) _) (kBin .Sub _) = _
        rw [List.length_replicate, if_pos hc9]
        show some (R.ok (PV.int (((c + 1 : Nat) : Int) - 1)) _) = _
        rw [Int.natCast_add, Int.natCast_one, Int.add_sub_cancel]
      rw [ixN, EV_bi, kqm_2, EVs_cons, EV_sub]
      show bnd (bnd (bnd (EV (lev gloT n) (.bin .Sub (.bi .len [(.loc 38)]) (.cint 1)) _ _) (kSub2 (.ref 3))) _) _ = _
      rw [e1]
      show bnd (bnd (rok (if 0 ≤ (c : Int) ∧ (ns.map PV.int).length ≤ SZ then (ns.map PV.int)[c]? else none) _) _) _ = _
      rw [if_pos ⟨Int.natCast_nonneg _, by rw [List.length_map]; exact Nat.le_trans hn (by decide)⟩, List.getElem?_map, List.getElem?_eq_getElem h2]
      show rok (if (ns[c]).natAbs < 1000000000000000000 then some (PV.str (digs ns[c])) else none) _ = _
      rw [if_pos h3]; rfl
    have h8 : ([118, 97, 114] : List Nat).length + (digs ns[c]).length ≤ SZ := Nat.le_trans (Nat.add_le_add_left (digs_short h3) 3) (by decide)
    rw [show (Tm.var f).rep = .tup [.str (sVar ++ f)] from rfl, ix_is, EXs_cons, EX_iff, eC]
    show outOf (nextOf (EXs (lev gloT n) ixB _ _) _) = _
    rw [ixB, EXs_cons, eM, nextOf_nxt, EXs_cons, EX_ret, EV_tup, EVs_cons, EV_bin]
    show outOf (nextOf (nextOf (bndE _ (bnd (bnd (bnd (EV (lev gloT n) ixN _ _) (kBin2 .Add _)) _) _) _) _) _) = _
    rw [eN, bnd_okL, kBin2, add_str, if_pos h8, show ns[c] = ns.getD c 0 by rw [List.getD_eq_getElem?_getD, List.getElem?_eq_getElem h2]; rfl]
    rfl
  | oth o =>
    intro n c ht hd hc
    have hE : ∀ o ∈ oths, ET (lev gloT n) ixC (ixρ (.tup [.str o])) (fd T s p [r0, .lst (ns.map .int), .lst (List.replicate c (.int 0))]) = some (.ok false (fd T s p [r0, .lst (ns.map .int), .lst (List.replicate c (.int 0))])) := by
      simp only [oths, List.forall_mem_cons]
      exact ⟨rfl, rfl, rfl, rfl, rfl, rfl, fun _ z => nomatch z⟩
    refine ix_no (vs := []) rfl (hE o ht) rfl ?_ rfl rfl
    exact congrArg (bnd · kComp2) ec_nil
  | lam t ih =>
    intro n c ht hd hc
    cases n with
    | zero => exact absurd hd (Nat.not_succ_le_zero _)
    | succ m =>
    have el : EV (lev gloT (m + 1)) ixE (setLB [(38, .ref 4), (59, .ref 3)] 61 t.rep) (fd T s p [r0, .lst (ns.map .int), .lst (List.replicate c (.int 0))]) = _ := ih m c ht (Nat.le_of_succ_le_succ hd) hc
    refine ix_no (v := .tup [.str sLam, t.rep]) (vs := [ixT ns t c]) rfl rfl rfl ?_ rfl rfl
    refine (congrArg (bnd · kComp2) ec_one).trans ?_
    rw [el]; rfl
  | app l r ihl ihr =>
    intro n c ht hd hc
    have hc : c + l.cnt + r.cnt ≤ ns.length := by rw [Nat.add_assoc]; exact hc
    rw [Tm.cnt, ← Nat.add_assoc]
    cases n with
    | zero => exact absurd hd (Nat.not_succ_le_zero _)
    | succ m =>
    have hd : max l.dep r.dep ≤ m := Nat.le_of_succ_le_succ hd
    have el : EV (lev gloT (m + 1)) ixE (setLB [(38, .ref 4), (59, .ref 3)] 61 l.rep) (fd T s p [r0, .lst (ns.map .int), .lst (List.replicate c (.int 0))]) = _ := ihl m c ht.1 (Nat.le_trans (Nat.le_max_left ..) hd) (Nat.le_trans (Nat.le_add_right ..) hc)
    have er : EV (lev gloT (m + 1)) ixE (setLB (setLB [(38, .ref 4), (59, .ref 3)] 61 l.rep) 61 r.rep) (fd T s p [r0, .lst (ns.map .int), .lst (List.replicate (c + l.cnt) (.int 0))]) = _ := ihr m (c + l.cnt) ht.2 (Nat.le_trans (Nat.le_max_right ..) hd) hc
    refine ix_no (v := .tup [.str sApp, l.rep, r.rep]) (vs := [ixT ns l c, ixT ns r (c + l.cnt)]) rfl rfl rfl ?_ rfl rfl
    refine (congrArg (bnd · kComp2) ec_two).trans ?_
    rw [el, bnd_okL, er]; rfl
end Mine
end
/-! L13: the reader of names -/
section
set_option autoImplicit false
set_option linter.unusedVariables false
set_option linter.unusedSimpArgs false
set_option maxRecDepth 100000
namespace Mine
open PySem
noncomputable def rd (σ0 : Store) (txt : List Nat) (p : Nat) (ar : List PV) : Store := σ0 ++ [.inst 6 [(1, .str txt), (0, .int p), (2, .ref (σ0.length + 1))], .lst ar]
theorem mid_get {σ0 tl : Store} {x : PO} : (σ0 ++ x :: tl)[σ0.length]? = some x := by simp
theorem mid_get1 {σ0 tl : Store} {x y : PO} : (σ0 ++ x :: y :: tl)[σ0.length + 1]? = some y := by simp
theorem mid_set {σ0 tl : Store} {x y : PO} : (σ0 ++ x :: tl).set σ0.length y = σ0 ++ y :: tl := by simp
theorem mid_set1 {σ0 tl : Store} {x y z : PO} : (σ0 ++ x :: y :: tl).set (σ0.length + 1) z = σ0 ++ x :: z :: tl := by simp
section
variable {k : Nat} {σ0 : Store} {txt : List Nat} {p : Nat} {ar br : List PV} {ρ : Loc} {Φ : Sig}
theorem seta_at {q : List (Nat × PV)} {a : Nat} {e : CE} {v : PV} {tl tl' : Store} (h8 : lkB ρ 8 = some (.ref σ0.length)) (he : EV (lev gloT k) e ρ (σ0 ++ .inst 6 q :: tl) = some (.ok v (σ0 ++ .inst 6 q :: tl'))) (hq : q.length < 90) : EX (lev gloT k) (.seta (.loc 8) a e) ρ (σ0 ++ .inst 6 q :: tl) = some (.nxt ρ (σ0 ++ .inst 6 (setLB q a v) :: tl')) := by
  rw [EX_seta, kq_lev, he, bndE_okL, kSeta, EV_loc, h8]
  show kSt ρ (setAtt _ σ0.length a v) = _
  rw [setAtt_ref, mid_get]
  show kSt ρ (if q.length < 90 then some (List.set _ σ0.length (.inst 6 (setLB q a v))) else none) = _
  rw [if_pos hq, mid_set]; rfl
theorem init_ok (k : Nat) (σ : Store) (txt : List Nat) : (lev gloT (k + 1)).fn 6 [.str txt] σ = some (.ok (.ref σ.length) (rd σ txt 0 [])) := by
  show (runFn (lev gloT k) r_init (.ref σ.length :: [.str txt]) (σ ++ [.inst 6 []])).bind (newOf σ.length) = _
  have e3 : EV (lev gloT k) (.lst []) [(8, .ref σ.length), (1, .str txt)] (σ ++ [.inst 6 [(1, .str txt), (0, .int 0)]]) = some (.ok (.ref (σ.length + 1)) (σ ++ [.inst 6 [(1, .str txt), (0, .int 0)], .lst []])) := by
    show some (R.ok (PV.ref (σ ++ [PO.inst 6 [(1, PV.str txt), (0, PV.int 0)]]).length) ((σ ++ [PO.inst 6 [(1, PV.str txt), (0, PV.int 0)]]) ++ [PO.lst []])) = _
    rw [List.length_append, List.append_assoc]; rfl
  rw [run_eq rfl]
  exact (congrArg (fun x => (outOf x).bind (newOf σ.length)) ((EXs_nx (r := [.seta (.loc 8) 0 (.cint 0), .seta (.loc 8) 2 (.lst [])]) (seta_at (ρ := [(8, .ref σ.length), (1, .str txt)]) (q := []) (a := 1) (e := .loc 1) (tl := []) (tl' := []) rfl rfl (Nat.zero_lt_succ _))).trans ((EXs_nx (r := [.seta (.loc 8) 2 (.lst [])]) (seta_at (q := [(1, .str txt)]) (a := 0) (e := .cint 0) (tl := []) (tl' := []) rfl rfl (show 1 < 90 by decide))).trans (EXs_nx (r := []) (seta_at (q := [(1, .str txt), (0, .int 0)]) (a := 2) (tl := []) rfl e3 (show 2 < 90 by decide)))))).trans rfl
theorem rd_a0 (h8 : lkB ρ 8 = some (.ref σ0.length)) : EV Φ (.attr (.loc 8) 0) ρ (rd σ0 txt p ar) = some (.ok (.int p) (rd σ0 txt p ar)) := by
  rw [EV_attr, EV_loc, h8]
  show rok (attrop _ (.ref σ0.length) 0 spotName) _ = _
  rw [attr_ref, rd, mid_get]; rfl
theorem rd_a1 (h8 : lkB ρ 8 = some (.ref σ0.length)) : EV Φ (.attr (.loc 8) 1) ρ (rd σ0 txt p ar) = some (.ok (.str txt) (rd σ0 txt p ar)) := by
  rw [EV_attr, EV_loc, h8]
  show rok (attrop _ (.ref σ0.length) 1 spotName) _ = _
  rw [attr_ref, rd, mid_get]; rfl
theorem rd_a2 (h8 : lkB ρ 8 = some (.ref σ0.length)) : EV Φ (.attr (.loc 8) 2) ρ (rd σ0 txt p ar) = some (.ok (.ref (σ0.length + 1)) (rd σ0 txt p ar)) := by
  rw [EV_attr, EV_loc, h8]
  show rok (attrop _ (.ref σ0.length) 2 spotName) _ = _
  rw [attr_ref, rd, mid_get]; rfl
theorem rd_up (h8 : lkB ρ 8 = some (.ref σ0.length)) : EX (lev gloT k) (.seta (.loc 8) 0 (.bin .Add (.attr (.loc 8) 0) (.cint 1))) ρ (rd σ0 txt p ar) = some (.nxt ρ (rd σ0 txt (p + 1) ar)) :=
  seta_at (v := .int ((p + 1 : Nat) : Int)) h8 (by
    show EV (lev gloT k) _ ρ (rd σ0 txt p ar) = _
    rw [EV_bin, rd_a0 h8]; rfl) (show 3 < 90 by decide)
theorem rd_meth {m : Nat} {l : List CE} {vs : List PV} {σ : Store} {r : Option (R PV)} (h8 : lkB ρ 8 = some (.ref σ0.length)) (hk : (lev gloT k).km 6 m = true) (hm : lkB [(1, .str txt), (0, .int p), (2, .ref (σ0.length + 1))] m = none) (hl : EVs (lev gloT k) l ρ (rd σ0 txt p ar) = some (.ok vs σ)) (hr : (lev gloT k).meth 6 m σ0.length vs σ = r) : EV (lev gloT k) (.meth (.loc 8) m l) ρ (rd σ0 txt p ar) = r := by
  rw [EV_meth, kq_lev, EV_loc, h8]
  show atO (rd σ0 txt p ar)[σ0.length]? _ = _
  rw [rd, mid_get]
  show kNo (lkB [(1, .str txt), (0, .int p), (2, .ref (σ0.length + 1))] m) (kk ((lev gloT k).km 6 m) (bnd (EVs (lev gloT k) l ρ (rd σ0 txt p ar)) _)) = _
  rw [hm, hk, hl]; exact hr
end
theorem at_cut {txt : List Nat} {p c : Nat} (h : txt[p]? = some c) : (txt.take (p + 1)).drop p = [c] := by
  obtain ⟨h1, h2⟩ := List.getElem?_eq_some_iff.mp h
  rw [List.take_succ_eq_append_getElem h1, List.drop_append_of_le_length (by rw [List.length_take]; exact Nat.le_min.mpr ⟨Nat.le_refl _, Nat.le_of_lt h1⟩), List.drop_eq_nil_iff.mpr (by rw [List.length_take]; exact Nat.min_le_left ..), h2]
  rfl
theorem at_end {txt : List Nat} {p : Nat} (h : txt.length ≤ p) : (txt.take (p + 1)).drop p = [] :=
  List.drop_eq_nil_iff.mpr (by rw [List.length_take]; exact Nat.le_trans (Nat.min_le_right ..) h)
noncomputable def sgS : CE := .slice (.attr (.loc 8) 1) (some (.attr (.loc 8) 0)) (some (.bin .Add (.attr (.loc 8) 0) (.cint 1)))
theorem sign_ok (k : Nat) (σ0 : Store) (txt : List Nat) (p : Nat) (ar : List PV) (hp : p ≤ 5000) (hl : txt.length ≤ 5000) (g : List Nat) (hg : (txt.take (p + 1)).drop p = g) (hs : g ≠ [32]) :
    (lev gloT (k + 1)).meth 6 13 σ0.length [] (rd σ0 txt p ar) = some (.ok (.str g) (rd σ0 txt p ar)) := by
  have h1 : p ≤ SZ := Nat.le_trans hp (by decide)
  have h2 : p + 1 ≤ SZ := Nat.le_trans (Nat.succ_le_succ hp) (by decide)
  have eS : EV (lev gloT k) sgS [(8, .ref σ0.length)] (rd σ0 txt p ar) = some (.ok (.str g) (rd σ0 txt p ar)) := by
    rw [sgS, EV_slice, rd_a1 rfl, bnd_okL, kSl, EO_some, rd_a0 rfl]
    show bnd (bnd (EV (lev gloT k) (.bin .Add (.attr (.loc 8) 0) (.cint 1)) [(8, .ref σ0.length)] (rd σ0 txt p ar)) kO) (kSl3 (.str txt) (some (.int p))) = _
    rw [EV_bin, rd_a0 rfl]
    show rok (sliceop (.str txt) (some (.int p)) (some (.int ((p + 1 : Nat) : Int)))) _ = _
    rw [slice_both, if_pos (Nat.le_trans hl (by decide)), if_pos ⟨Int.natCast_nonneg _, Int.ofNat_le.mpr h1, Int.natCast_nonneg _, Int.ofNat_le.mpr h2⟩, Int.toNat_natCast, Int.toNat_natCast, hg]; rfl
  have e : EW (lev gloT k) (.cmp .Eq sgS (.cstr [32])) [.seta (.loc 8) 0 (.bin .Add (.attr (.loc 8) 0) (.cint 1))] [(8, .ref σ0.length)] (rd σ0 txt p ar) = some (.nxt [(8, .ref σ0.length)] (rd σ0 txt p ar)) := by
    refine EW_end ?_
    rw [ET_cmp, eS]
    show some (R.ok (g == [32]) _) = _
    rw [beq_false_of_ne hs]
  rw [mt_13 _ _ _ _ _ rfl]
  show outOf (nextOf (kq (lev gloT k) (EW (lev gloT k) (.cmp .Eq sgS (.cstr [32])) [.seta (.loc 8) 0 (.bin .Add (.attr (.loc 8) 0) (.cint 1))] [(8, .ref σ0.length)] (rd σ0 txt p ar))) (EXs (lev gloT k) [.ret sgS])) = _
  rw [kq_lev, e, nextOf_nxt, ret_is eS]; rfl
theorem want_ok (k : Nat) (σ0 : Store) (txt : List Nat) (p : Nat) (ar : List PV) (hp : p ≤ 5000) (hl : txt.length ≤ 5000) (c : Nat) (hg : txt[p]? = some c) (hs : c ≠ 32) :
    (lev gloT (k + 3)).meth 6 33 σ0.length [.str [c]] (rd σ0 txt p ar) = some (.ok .none (rd σ0 txt (p + 1) ar)) := by
  have e := rd_meth (k := k + 2) (ρ := [(8, .ref σ0.length), (13, .str [c])]) (m := 13) (l := []) (vs := []) rfl rfl rfl rfl (sign_ok (k + 1) σ0 txt p ar hp hl [c] (at_cut hg) (fun z => hs (List.cons.inj z).1))
  have e1 : ET (lev gloT (k + 2)) (.cmp .NotEq (.meth (.loc 8) 13 []) (.loc 13)) [(8, .ref σ0.length), (13, .str [c])] (rd σ0 txt p ar) = some (.ok false (rd σ0 txt p ar)) := by
    rw [ET_cmp, e]
    show some (R.ok (!([c] == [c])) _) = _
    rw [beq_self_eq_true]; rfl
  rw [mt_33 _ _ _ _ _ rfl]
  refine (congrArg outOf ((if_skip e1).trans (EXs_nx (rd_up rfl)))).trans rfl
noncomputable def sAb : List Nat := [97, 98, 99, 100, 101, 102, 103, 104, 105, 106, 107, 108, 109, 110, 111, 112, 113, 114, 115, 116, 117, 118, 119, 120, 121, 122, 65, 66, 67, 68, 69, 70, 71, 72, 73, 74, 75, 76, 77, 78, 79, 80, 81, 82, 83, 84, 85, 86, 87, 88, 89, 90]
noncomputable def sAln : List Nat := sAb ++ sFig
noncomputable def nameL : CE := .cmp .Lt (.attr (.loc 8) 0) (.bi .len [(.attr (.loc 8) 1)])
noncomputable def nameI : CE := .cmp .In (.sub (.attr (.loc 8) 1) (.attr (.loc 8) 0)) (.bin .Add (.glo 35) (.glo 17))
noncomputable def nameT : CE := .bop true [nameL, nameI]
noncomputable def nameB : List CS := [.seta (.loc 8) 0 (.bin .Add (.attr (.loc 8) 0) (.cint 1))]
section
variable {k : Nat} {σ0 : Store} {txt : List Nat} {p : Nat} {ar : List PV} {ρ : Loc}
theorem name_l (hl : txt.length ≤ 5000) (h8 : lkB ρ 8 = some (.ref σ0.length)) : ET (lev gloT k) nameL ρ (rd σ0 txt p ar) = some (.ok (decide (p < txt.length)) (rd σ0 txt p ar)) := by
  rw [nameL, ET_cmp, rd_a0 h8, bnd_okL, kCmp, EV_bi, kqm_0, EVs_cons, rd_a1 h8]
  show bnd (bnd (rok (if txt.length ≤ SZ then some (PV.int txt.length) else none) _) _) _ = _
  rw [if_pos (Nat.le_trans hl (by decide)), show decide (p < txt.length) = decide ((p : Int) < txt.length) from decide_eq_decide.mpr Int.ofNat_lt.symm]; rfl
theorem name_t (hl : txt.length ≤ 5000) (h8 : lkB ρ 8 = some (.ref σ0.length)) (hp : p < txt.length) {c : Nat} (hc : txt[p]? = some c) : ET (lev gloT k) nameT ρ (rd σ0 txt p ar) = some (.ok (sAln.contains c) (rd σ0 txt p ar)) := by
  have eX : EV (lev gloT k) (.sub (.attr (.loc 8) 1) (.attr (.loc 8) 0)) ρ (rd σ0 txt p ar) = some (.ok (.str [c]) (rd σ0 txt p ar)) := by
    rw [EV_sub, rd_a1 h8, bnd_okL, kSub, rd_a0 h8]
    show rok (if 0 ≤ (p : Int) ∧ txt.length ≤ SZ then (txt[p]?).map fun c => PV.str [c] else none) _ = _
    rw [if_pos ⟨Int.natCast_nonneg _, Nat.le_trans hl (by decide)⟩, hc]; rfl
  have eS : EV (lev gloT k) (.bin .Add (.glo 35) (.glo 17)) ρ (rd σ0 txt p ar) = some (.ok (.str sAln) (rd σ0 txt p ar)) := rfl
  have eI : ET (lev gloT k) nameI ρ (rd σ0 txt p ar) = some (.ok (sAln.contains c) (rd σ0 txt p ar)) := by
    rw [nameI, ET_cmp, eX, bnd_okL, kCmp, eS]; rfl
  rw [nameT, ET_bop, ETs_cons, name_l hl h8, decide_eq_true hp, bnd_okL, kTs, ETs_cons, eI, bnd_okL]
  cases sAln.contains c <;> rfl
theorem name_loop (hl : txt.length ≤ 5000) (h8 : lkB ρ 8 = some (.ref σ0.length)) (nm : List Nat) : ∀ (post : List Nat) (p : Nat), txt.drop p = nm ++ post → (∀ x ∈ nm, x ∈ sAln) → (∀ x, post.head? = some x → x ∉ sAln) →
    EW (lev gloT k) nameT nameB ρ (rd σ0 txt p ar) = some (.nxt ρ (rd σ0 txt (p + nm.length) ar)) := by
  induction nm with
  | nil =>
    intro post p h1 h3 h4
    refine EW_end ?_
    by_cases hp : p < txt.length
    · have hc : txt[p]? = some txt[p] := List.getElem?_eq_getElem hp
      rw [name_t hl h8 hp hc, show sAln.contains txt[p] = false from by
        rw [← Bool.not_eq_true, List.contains_iff_mem]
        exact h4 _ ((congrArg List.head? h1).symm.trans (List.head?_drop.trans hc))]
      rfl
    · rw [nameT, ET_bop, ETs_cons, name_l hl h8, decide_eq_false hp]; rfl
  | cons c nm ih =>
    intro post p h1 h3 h4
    have hc : txt[p]? = some c := by rw [← List.head?_drop, h1]; rfl
    have hp : p < txt.length := (List.getElem?_eq_some_iff.mp hc).1
    have hd : txt.drop (p + 1) = nm ++ post := by rw [← List.drop_drop, h1]; rfl
    have h6 : sAln.contains c = true := List.contains_iff_mem.mpr (h3 c (List.mem_cons_self ..))
    refine (EW_at ((name_t hl h8 hp hc).trans (by rw [h6])) (EXs_nx (rd_up h8))).trans ?_
    refine (ih post (p + 1) hd (fun x hx => h3 x (List.mem_cons_of_mem _ hx)) h4).trans ?_
    rw [List.length_cons, Nat.add_right_comm]; rfl
end
theorem nameN_ok (k : Nat) (σ0 : Store) (txt : List Nat) (ar : List PV) (hl : txt.length ≤ 5000) (nm post : List Nat) (p : Nat) (h1 : txt.drop p = nm ++ post) (h2 : p ≤ txt.length) (h3 : ∀ x ∈ nm, x ∈ sAln) (h4 : ∀ x, post.head? = some x → x ∉ sAln) (h5 : nm ≠ []) :
    (lev gloT (k + 3)).meth 6 34 σ0.length [] (rd σ0 txt p ar) = some (.ok (.str nm) (rd σ0 txt (p + nm.length) ar)) := by
  have hp : p ≤ 5000 := Nat.le_trans h2 hl
  obtain ⟨c, r, hnm⟩ := List.exists_cons_of_ne_nil h5
  have hc : txt[p]? = some c := by rw [← List.head?_drop, h1, hnm]; rfl
  have hcs : [c] ≠ [32] := fun z => (by decide : (32 : Nat) ∉ sAln) ((List.cons.inj z).1 ▸ h3 c (hnm ▸ List.mem_cons_self ..))
  have e := rd_meth (k := k + 2) (ρ := [(8, .ref σ0.length)]) (m := 13) (l := []) (vs := []) rfl rfl rfl rfl (sign_ok (k + 1) σ0 txt p ar hp hl [c] (at_cut hc) hcs)
  have ew := name_loop (k := k + 2) (ρ := [(8, .ref σ0.length), (14, .int p)]) (ar := ar) hl rfl nm _ p h1 h3 h4
  have hlen := congrArg List.length h1
  rw [List.length_drop, List.length_append] at hlen
  have g2 : p + nm.length ≤ txt.length := by omega
  have g4 : (txt.take (p + nm.length)).drop p = nm := by rw [List.drop_take, h1, Nat.add_sub_cancel_left, List.take_left]
  have g8 : p + nm.length ≠ p := fun z => h5 (List.length_eq_zero_iff.mp (Nat.add_left_cancel (z : p + nm.length = p + 0)))
  have e1 : EX (lev gloT (k + 2)) (.exp (.meth (.loc 8) 13 [])) [(8, .ref σ0.length)] (rd σ0 txt p ar) = some (.nxt [(8, .ref σ0.length)] (rd σ0 txt p ar)) := by
    rw [EX_exp, kq_lev, e]; rfl
  have e2 : EX (lev gloT (k + 2)) (.whil nameT nameB) [(8, .ref σ0.length), (14, .int p)] (rd σ0 txt p ar) = _ := ew
  have e3 : ET (lev gloT (k + 2)) (.cmp .Eq (.attr (.loc 8) 0) (.loc 14)) [(8, .ref σ0.length), (14, .int p)] (rd σ0 txt (p + nm.length) ar) = some (.ok false (rd σ0 txt (p + nm.length) ar)) := by
    rw [ET_cmp, rd_a0 rfl]
    show some (R.ok (((p + nm.length : Nat) : Int) == (p : Int)) _) = _
    rw [beq_false_of_ne (fun z => g8 (Int.ofNat_inj.mp z))]
  have e4 : EV (lev gloT (k + 2)) (.slice (.attr (.loc 8) 1) (some (.loc 14)) (some (.attr (.loc 8) 0))) [(8, .ref σ0.length), (14, .int p)] (rd σ0 txt (p + nm.length) ar) = some (.ok (.str nm) (rd σ0 txt (p + nm.length) ar)) := by
    rw [EV_slice, rd_a1 rfl]
    show bnd (bnd (EV (lev gloT (k + 2)) (.attr (.loc 8) 0) [(8, .ref σ0.length), (14, .int p)] (rd σ0 txt (p + nm.length) ar)) kO) (kSl3 (.str txt) (some (.int p))) = _
    rw [rd_a0 rfl]
    show rok (sliceop (.str txt) (some (.int p)) (some (.int ((p + nm.length : Nat) : Int)))) _ = _
    rw [slice_both, if_pos (Nat.le_trans hl (by decide)), if_pos ⟨Int.natCast_nonneg _, Int.ofNat_le.mpr (Nat.le_trans hp (by decide)), Int.natCast_nonneg _, Int.ofNat_le.mpr (Nat.le_trans g2 (Nat.le_trans hl (by decide)))⟩, Int.toNat_natCast, Int.toNat_natCast, g4]; rfl
  rw [mt_34 _ _ _ _ _ rfl]
  exact (congrArg outOf ((EXs_nx e1).trans ((asg_nx (rd_a0 rfl)).trans ((EXs_nx e2).trans ((if_skip e3).trans (ret_is e4)))))).trans rfl
end Mine
end
/-! L14: a free name read -/
section
set_option autoImplicit false
set_option linter.unusedVariables false
set_option linter.unusedSimpArgs false
set_option maxRecDepth 100000
namespace Mine
open PySem
noncomputable def lfN : CE := .bi .len [(.attr (.loc 8) 2)]
noncomputable def lfC : CE := .cmp .Eq (.sub (.attr (.loc 8) 2) (.bin .Sub (.bin .Sub lfN (.cint 1)) (.loc 22))) (.loc 34)
noncomputable def leafB : List CS := [.iff lfC [.ret (.call 23 [(.loc 22)])] []]
section
variable {k : Nat} {σ0 : Store} {txt : List Nat} {p : Nat} {ar : List PV} {ρ : Loc} {Φ : Sig} {f : List Nat}
theorem rd_n (h8 : lkB ρ 8 = some (.ref σ0.length)) (hn : ar.length ≤ 10) : EV Φ lfN ρ (rd σ0 txt p ar) = some (.ok (.int ar.length) (rd σ0 txt p ar)) := by
  rw [lfN, EV_bi, kqm_0, EVs_cons, rd_a2 h8]
  show rok (biop .len [.ref (σ0.length + 1)] (rd σ0 txt p ar)) _ = _
  rw [len_ref, rd, mid_get1, atL_some, if_pos (Nat.le_trans hn (by decide))]; rfl
theorem leaf_turn (h8 : lkB ρ 8 = some (.ref σ0.length)) {nm : List Nat} (h34 : lkB ρ 34 = some (.str nm)) (har : ∀ x ∈ ar, ∃ c, x = .str [c]) (hn : ar.length ≤ 10) (hnm : nm.length ≠ 1) {i : Nat} (h22 : lkB ρ 22 = some (.int i)) (hi : i < ar.length) : EXs Φ leafB ρ (rd σ0 txt p ar) = some (.nxt ρ (rd σ0 txt p ar)) := by
  have hj : ar.length - 1 - i < ar.length := by omega
  have h5 : (ar.length : Int) - 1 - i = (ar.length - 1 - i : Nat) := by omega
  obtain ⟨c, hc⟩ := har _ (List.getElem_mem hj)
  have e1 : EV Φ (.bin .Sub (.bin .Sub lfN (.cint 1)) (.loc 22)) ρ (rd σ0 txt p ar) = some (.ok (.int (ar.length - 1 - i : Nat)) (rd σ0 txt p ar)) := by
    rw [EV_bin, EV_bin, rd_n h8 hn]
    show bnd (rok (lkB ρ 22) _) (kBin2 .Sub (.int ((ar.length : Int) - 1))) = _
    rw [h22]
    show some (R.ok (PV.int ((ar.length : Int) - 1 - i)) _) = _
    rw [h5]
  have e2 : EV Φ (.sub (.attr (.loc 8) 2) (.bin .Sub (.bin .Sub lfN (.cint 1)) (.loc 22))) ρ (rd σ0 txt p ar) = some (.ok (.str [c]) (rd σ0 txt p ar)) := by
    rw [EV_sub, rd_a2 h8, bnd_okL, kSub, e1, bnd_okL, kSub2, sub_ref, rd, mid_get1, atL_some, seqAt_nat (Nat.le_trans hn (by decide)), List.getElem?_eq_getElem hj, hc]; rfl
  have e3 : ET Φ lfC ρ (rd σ0 txt p ar) = some (.ok false (rd σ0 txt p ar)) := by
    rw [lfC, ET_cmp, e2, bnd_okL, kCmp, EV_loc, h34]
    show some (R.ok ([c] == nm) _) = _
    rw [beq_false_of_ne (fun z => hnm (congrArg List.length z).symm)]
  exact if_skip e3
theorem leaf_loop (har : ∀ x ∈ ar, ∃ c, x = .str [c]) (hn : ar.length ≤ 10) {nm : List Nat} (hnm : nm.length ≠ 1) : ∀ (m i : Nat) (ρ : Loc), i + m = ar.length → lkB ρ 8 = some (.ref σ0.length) → lkB ρ 34 = some (.str nm) →
    ∃ ρ', lkB ρ' 8 = some (.ref σ0.length) ∧ lkB ρ' 34 = some (.str nm) ∧ EF Φ [22] false (.rng ar.length) i leafB ρ (rd σ0 txt p ar) = some (.nxt ρ' (rd σ0 txt p ar)) := by
  intro m
  induction m with
  | zero =>
    intro i ρ h1 h2 h3
    refine ⟨ρ, h2, h3, ?_⟩
    rw [Nat.add_zero] at h1
    subst h1
    exact EF_end (rng_end (Nat.le_trans hn (by decide)))
  | succ m ih =>
    intro i ρ h1 h2 h3
    have hi : i < ar.length := h1 ▸ Nat.lt_add_of_pos_right (Nat.succ_pos m)
    obtain ⟨ρ', a1, a2, a3⟩ := ih (i + 1) (setLB ρ 22 (.int i)) ((Nat.add_right_comm ..).trans h1) ((lk_setF ..).trans h2) ((lk_setF ..).trans h3)
    refine ⟨ρ', a1, a2, ?_⟩
    exact (EF_at (rng_at (Nat.le_trans hn (by decide)) hi) rfl (leaf_turn ((lk_setF 22 8 (.int i) ρ).trans h2) ((lk_setF 22 34 (.int i) ρ).trans h3) har hn hnm (lk_same ..) hi)).trans a3
theorem aln_y (h : FigOk f) : ∀ x ∈ 121 :: f, x ∈ sAln := by
  intro x hx
  rcases List.mem_cons.mp hx with rfl | hx
  · decide
  · have h1 := List.all_eq_true.mp h.dig x hx
    rw [← fig_dig, List.contains_iff_mem] at h1
    exact List.mem_append_right _ h1
noncomputable def lfV : CE := .cmp .NotEq (.call 15 [(.loc 34), (.cstr [118, 97, 114])]) (.cstr [])
noncomputable def lfA : CE := .bin .Add (.call 19 [(.loc 18)]) lfN
noncomputable def lfL : CE := .cmp .Gt (.bi .len [(.loc 18)]) (.cint 9)
noncomputable def lfG : CE := .bop true [(.cmp .NotEq (.loc 18) (.cstr [])), (.cmp .Gt lfA (.glo 24))]
noncomputable def leafRest : List CS := r_leaf.2.drop 2
theorem leaf_run (hl : txt.length ≤ 5000) (har : ∀ x ∈ ar, ∃ c, x = .str [c]) (hn : ar.length ≤ 10) (hf : FigOk f) (hp : p ≤ txt.length) (ht : txt.drop p = 121 :: f) :
    ∃ ρ', lkB ρ' 8 = some (.ref σ0.length) ∧ lkB ρ' 34 = some (.str (121 :: f)) ∧ (lev gloT (k + 4)).meth 6 36 σ0.length [] (rd σ0 txt p ar) = outOf (EXs (lev gloT (k + 3)) leafRest ρ' (rd σ0 txt (p + (f.length + 1)) ar)) := by
  have hne : (121 :: f).length ≠ 1 := fun z => hf.ne (List.length_eq_zero_iff.mp (Nat.succ.inj z))
  have en := nameN_ok k σ0 txt ar hl (121 :: f) [] p (by rw [List.append_nil]; exact ht) hp (aln_y hf) (fun _ z => nomatch z) (List.cons_ne_nil _ _)
  obtain ⟨ρ', h1, h2, h3⟩ := leaf_loop (Φ := lev gloT (k + 3)) (σ0 := σ0) (txt := txt) (p := p + (f.length + 1)) har hn hne ar.length 0 [(8, .ref σ0.length), (34, .str (121 :: f))] (Nat.zero_add _) rfl rfl
  refine ⟨ρ', h1, h2, ?_⟩
  have e1 := rd_meth (k := k + 3) (ρ := [(8, .ref σ0.length)]) (m := 34) (l := []) (vs := []) (p := p) (txt := txt) (ar := ar) rfl rfl rfl rfl en
  have e2 : EX (lev gloT (k + 3)) (.forr [22] false (.bi .range [lfN]) leafB) [(8, .ref σ0.length), (34, .str (121 :: f))] (rd σ0 txt (p + (f.length + 1)) ar) = some (.nxt ρ' (rd σ0 txt (p + (f.length + 1)) ar)) := by
    rw [EX_forr, kq_lev, EV_bi, kqm_3, EVs_cons, rd_n rfl hn]
    show bndE _ (rok (if ar.length ≤ SZ then some (PV.rng ar.length) else none) _) _ = _
    rw [if_pos (Nat.le_trans hn (by decide))]
    exact h3
  exact (mt_36 _ _ _ _ _ rfl).trans (congrArg outOf ((asg_nx (ρ := [(8, .ref σ0.length)]) (r := .forr [22] false (.bi .range [lfN]) leafB :: leafRest) e1).trans (EXs_nx e2)))
theorem leaf_two (hf : FigOk f) (hn : ar.length ≤ 10) (h8 : lkB ρ 8 = some (.ref σ0.length)) (h34 : lkB ρ 34 = some (.str (121 :: f))) : EXs (lev gloT (k + 3)) leafRest ρ (rd σ0 txt p ar) = EXs (lev gloT (k + 3)) (leafRest.drop 2) (setLB ρ 18 (.str f)) (rd σ0 txt p ar) ∧ ET (lev gloT (k + 3)) (.bop false [lfL, lfG]) (setLB ρ 18 (.str f)) (rd σ0 txt p ar) = some (.ok (decide (¬ (f.length ≤ 9 ∧ numOf f + ar.length ≤ 999999999))) (rd σ0 txt p ar)) ∧ (f.length ≤ 9 → EV (lev gloT (k + 3)) lfA (setLB ρ 18 (.str f)) (rd σ0 txt p ar) = some (.ok (.int ((numOf f + ar.length : Nat) : Int)) (rd σ0 txt p ar))) := by
  have hlen : (121 :: f).length ≤ 5000 := Nat.le_trans (Nat.succ_le_succ hf.len) (by decide)
  have e1 := figs_ok (k + 1) sVar (121 :: f) (by decide) hlen (rd σ0 txt p ar)
  have e2 := figs_ok (k + 1) [121] (121 :: f) (by decide) hlen (rd σ0 txt p ar)
  rw [figs_vy] at e1
  rw [figs_y hf] at e2
  have g8 : lkB (setLB ρ 18 (.str f)) 8 = some (.ref σ0.length) := (lk_setF ..).trans h8
  have g18 : lkB (setLB ρ 18 (.str f)) 18 = some (.str f) := lk_same ..
  have eV : ET (lev gloT (k + 3)) lfV ρ (rd σ0 txt p ar) = some (.ok false (rd σ0 txt p ar)) := by
    rw [lfV, ET_cmp, EV_call, kq_lev, kn_15, kk_t, EVs_cons, EV_loc, h34]
    show bnd (bnd ((lev gloT (k + 1 + 2)).fn 15 [.str (121 :: f), .str sVar] _) _) _ = _
    rw [e1]; rfl
  have eY : EV (lev gloT (k + 3)) (.call 15 [(.loc 34), (.cstr [121])]) ρ (rd σ0 txt p ar) = some (.ok (.str f) (rd σ0 txt p ar)) := by
    rw [EV_call, kq_lev, kn_15, kk_t, EVs_cons, EV_loc, h34]
    exact e2
  have eA : f.length ≤ 9 → EV (lev gloT (k + 3)) lfA (setLB ρ 18 (.str f)) (rd σ0 txt p ar) = some (.ok (.int ((numOf f + ar.length : Nat) : Int)) (rd σ0 txt p ar)) := fun h9 => by
    have e3 := num_ok k f hf h9 (rd σ0 txt p ar)
    rw [lfA, EV_bin, EV_call, kq_lev, kn_19, kk_t, EVs_cons, EV_loc, g18]
    show bnd ((lev gloT (k + 3)).fn 19 [.str f] _) _ = _
    rw [e3, bnd_okL, kBin, rd_n g8 hn]; rfl
  have eL : ET (lev gloT (k + 3)) lfL (setLB ρ 18 (.str f)) (rd σ0 txt p ar) = some (.ok (decide (9 < f.length)) (rd σ0 txt p ar)) := by
    rw [lfL, ET_cmp, EV_bi, kqm_0, EVs_cons, EV_loc, g18]
    show bnd (bnd (rok (if f.length ≤ SZ then some (PV.int f.length) else none) _) _) _ = _
    rw [if_pos (Nat.le_trans hf.len (by decide)), show decide (9 < f.length) = decide ((9 : Int) < f.length) from decide_eq_decide.mpr (Int.ofNat_lt (n := 9)).symm]; rfl
  refine ⟨(if_skip (r := .asg 18 (.call 15 [(.loc 34), (.cstr [121])]) :: leafRest.drop 2) eV).trans (asg_nx eY), ?_, eA⟩
  rw [ET_bop, ETs_cons, eL, bnd_okL]
  by_cases h9 : f.length ≤ 9
  · rw [decide_eq_false (Nat.not_lt.mpr h9), kTs, ETs_cons, lfG, ET_bop, ETs_cons, ET_cmp, EV_loc, g18]
    show bnd (kTs true (ETs (lev gloT (k + 3)) [(.cmp .Gt lfA (.glo 24))] true _) (!(f == [])) _) _ = _
    rw [beq_false_of_ne hf.ne]
    show bnd (ETs (lev gloT (k + 3)) [(.cmp .Gt lfA (.glo 24))] true _ _) _ = _
    rw [ETs_cons, ET_cmp, eA h9]
    show bnd (kTs true _ (decide ((999999999 : Int) < (numOf f + ar.length : Nat))) _) _ = _
    rw [show decide ((999999999 : Int) < (numOf f + ar.length : Nat)) = decide (¬ (f.length ≤ 9 ∧ numOf f + ar.length ≤ 999999999)) from decide_eq_decide.mpr ((Int.ofNat_lt (n := 999999999)).trans ⟨fun z y => Nat.not_lt.mpr y.2 z, fun z => Nat.not_le.mp fun y => z ⟨h9, y⟩⟩)]
    cases decide (¬ (f.length ≤ 9 ∧ numOf f + ar.length ≤ 999999999)) <;> rfl
  · rw [decide_eq_true (Nat.not_le.mp h9), decide_eq_true (show ¬ (f.length ≤ 9 ∧ numOf f + ar.length ≤ 999999999) from fun z => h9 z.1)]; rfl
theorem leafN_ok (hl : txt.length ≤ 5000) (har : ∀ x ∈ ar, ∃ c, x = .str [c]) (hn : ar.length ≤ 10) (hf : FigOk f) (hp : p ≤ txt.length) (ht : txt.drop p = 121 :: f) (h9 : f.length ≤ 9) (hi : numOf f + ar.length ≤ 999999999) :
    (lev gloT (k + 4)).meth 6 36 σ0.length [] (rd σ0 txt p ar) = some (.ok (.tup [.str (sVar ++ digs ((numOf f + ar.length : Nat) : Int))]) (rd σ0 txt (p + (f.length + 1)) ar)) := by
  obtain ⟨ρ, h1, h2, h3⟩ := leaf_run (k := k) hl har hn hf hp ht
  obtain ⟨e1, e2, e3⟩ := leaf_two (k := k) (txt := txt) (p := p + (f.length + 1)) hf hn h1 h2
  rw [decide_eq_false (fun z => z ⟨h9, hi⟩)] at e2
  have ev := var_ok k ((numOf f + ar.length : Nat) : Int) (Int.natCast_nonneg _) (Int.ofNat_le.mpr hi) (rd σ0 txt (p + (f.length + 1)) ar)
  have er : EV (lev gloT (k + 3)) (.ite (.cmp .Eq (.loc 18) (.cstr [])) (.tup [(.loc 34)]) (.call 23 [lfA])) (setLB ρ 18 (.str f)) (rd σ0 txt (p + (f.length + 1)) ar) = some (.ok (.tup [.str (sVar ++ digs ((numOf f + ar.length : Nat) : Int))]) (rd σ0 txt (p + (f.length + 1)) ar)) := by
    rw [EV_ite, ET_cmp, EV_loc, lk_same]
    show kIte _ (EV (lev gloT (k + 3)) (.call 23 [lfA]) (setLB ρ 18 (.str f))) (f == []) _ = _
    rw [beq_false_of_ne hf.ne, kIte, EV_call, kq_lev, kn_23, kk_t, EVs_cons, e3 h9]
    exact ev
  exact h3.trans ((congrArg outOf (e1.trans ((if_skip e2).trans (ret_is er)))).trans rfl)
theorem leafN_exc (hl : txt.length ≤ 5000) (har : ∀ x ∈ ar, ∃ c, x = .str [c]) (hn : ar.length ≤ 10) (hf : FigOk f) (hp : p ≤ txt.length) (ht : txt.drop p = 121 :: f) (h9 : ¬ (f.length ≤ 9 ∧ numOf f + ar.length ≤ 999999999)) :
    (lev gloT (k + 4)).meth 6 36 σ0.length [] (rd σ0 txt p ar) = some (.exc ⟨5, some p⟩ (rd σ0 txt (p + (f.length + 1)) ar)) := by
  obtain ⟨ρ, h1, h2, h3⟩ := leaf_run (k := k) hl har hn hf hp ht
  obtain ⟨e1, e2, e3⟩ := leaf_two (k := k) (txt := txt) (p := p + (f.length + 1)) hf hn h1 h2
  rw [decide_eq_true h9] at e2
  have g8 : lkB (setLB ρ 18 (.str f)) 8 = some (.ref σ0.length) := (lk_setF ..).trans h1
  have g34 : lkB (setLB ρ 18 (.str f)) 34 = some (.str (121 :: f)) := (lk_setF ..).trans h2
  have es : EV (lev gloT (k + 3)) (.bin .Sub (.attr (.loc 8) 0) (.bi .len [(.loc 34)])) (setLB ρ 18 (.str f)) (rd σ0 txt (p + (f.length + 1)) ar) = some (.ok (.int p) (rd σ0 txt (p + (f.length + 1)) ar)) := by
    rw [EV_bin, rd_a0 g8, bnd_okL, kBin, EV_bi, kqm_0, EVs_cons, EV_loc, g34]
    show bnd (rok (if (121 :: f).length ≤ SZ then some (PV.int (121 :: f).length) else none) _) _ = _
    rw [if_pos (show (121 :: f).length ≤ SZ from Nat.le_trans (Nat.succ_le_succ hf.len) (by decide))]
    show some (R.ok (PV.int (((p + (f.length + 1) : Nat) : Int) - ((f.length + 1 : Nat) : Int))) _) = _
    rw [Int.natCast_add p, Int.add_sub_cancel]
  refine h3.trans ((congrArg outOf (e1.trans (iff_t e2))).trans ?_)
  rw [EXs_cons, EX_rais, kq_lev, kx_5, kk_t, EVs_cons, EV_cstr, bnd_okL, kVs, EVs_cons, es]
  rfl
end
end Mine
end
/-! L15: a term of names read -/
section
set_option autoImplicit false
set_option linter.unusedVariables false
set_option linter.unusedSimpArgs false
set_option maxRecDepth 100000
namespace Mine
open PySem
noncomputable def lamsOf : List Nat → List Nat
  | [] => []
  | c :: cs => 92 :: c :: 46 :: lamsOf cs
noncomputable def lamN : Nat → PV → PV
  | 0, v => v
  | n + 1, v => .tup [.str sLam, lamN n v]
theorem lams_len : ∀ cs : List Nat, (lamsOf cs).length = 3 * cs.length
  | [] => rfl
  | c :: cs => by simp only [lamsOf, List.length_cons, lams_len cs]; omega
theorem dot_no : (46 : Nat) ∉ sAln := by decide
noncomputable def tmD : CE := .bin .Sub (.loc 30) (.cint 1)
noncomputable def tmL : CE := .tup [(.cstr [108, 97, 109]), (.meth (.loc 8) 37 [tmD])]
noncomputable def tmB : List CS := [.exp (.meth (.loc 8) 33 [(.loc 13)]), .exp (.mapp (.attr (.loc 8) 2) (.meth (.loc 8) 34 [])), .exp (.meth (.loc 8) 33 [(.cstr [46])]), .asg 38 tmL, .exp (.mpop (.attr (.loc 8) 2)), .ret (.loc 38)]
noncomputable def tmE : List CS := r_term.2.drop 3
noncomputable def tmρ (n : Nat) (d : Int) (g : List Nat) : Loc := [(8, .ref n), (30, .int d), (13, .str g)]
section
variable {σ0 : Store} {txt : List Nat} {f : List Nat} {k : Nat} {d : Int} {p : Nat} {ar : List PV}
theorem tm_start {g : List Nat} (hd : d ≠ 0) (es : (lev gloT (k + 3)).meth 6 13 σ0.length [] (rd σ0 txt p ar) = some (.ok (.str g) (rd σ0 txt p ar))) : (lev gloT (k + 4)).meth 6 37 σ0.length [.int d] (rd σ0 txt p ar) = outOf (EXs (lev gloT (k + 3)) (.iff (.cmp .Eq (.loc 13) (.cstr [92])) tmB [] :: tmE) (tmρ σ0.length d g) (rd σ0 txt p ar)) := by
  have e0 : ET (lev gloT (k + 3)) (.cmp .Eq (.loc 30) (.cint 0)) [(8, .ref σ0.length), (30, .int d)] (rd σ0 txt p ar) = some (.ok (d == 0) (rd σ0 txt p ar)) := rfl
  rw [beq_false_of_ne hd] at e0
  exact (mt_37 _ _ _ _ _ rfl).trans (congrArg outOf ((if_skip (r := .asg 13 (.meth (.loc 8) 13 []) :: .iff (.cmp .Eq (.loc 13) (.cstr [92])) tmB [] :: tmE) e0).trans (asg_nx (rd_meth (l := []) (vs := []) rfl rfl rfl rfl es))))
theorem tm_leaf {r : R PV} (hd : d ≠ 0) (hl : txt.length ≤ 5000) (hp : p ≤ txt.length) (hc : txt[p]? = some 121) (el : (lev gloT (k + 4)).meth 6 36 σ0.length [] (rd σ0 txt p ar) = some r) : (lev gloT (k + 5)).meth 6 37 σ0.length [.int d] (rd σ0 txt p ar) = some r := by
  have es := sign_ok (k + 3) σ0 txt p ar (Nat.le_trans hp hl) hl [121] (at_cut hc) (by decide)
  have er := rd_meth (k := k + 4) (ρ := tmρ σ0.length d [121]) (m := 36) (l := []) (vs := []) (p := p) (txt := txt) (ar := ar) rfl rfl rfl rfl el
  rw [tm_start (k := k + 1) hd es, if_skip (c := .cmp .Eq (.loc 13) (.cstr [92])) rfl]
  refine (congrArg outOf (iff_t (c := .cmp .NotEq (.loc 13) (.cstr [40])) (b := [.ret (.meth (.loc 8) 36 [])]) rfl)).trans ?_
  cases r with
  | ok v σ => rw [ret_is er]; rfl
  | exc x σ => rw [ret_exc er]; rfl
theorem exp_nx {ρ : Loc} {e : CE} {r : List CS} {v : PV} {σ σ' : Store} (h : EV (lev gloT k) e ρ σ = some (.ok v σ')) (hv : kExp ρ v σ' = some (.nxt ρ σ')) : EXs (lev gloT k) (.exp e :: r) ρ σ = EXs (lev gloT k) r ρ σ' := by
  rw [EXs_cons, EX_exp, kq_lev, h, bndE_okL, hv]; rfl
/-- what a lam's text does -/
theorem tm_lam {c : Nat} {rest : List Nat} {r : R PV} (hd : d ≠ 0) (hl : txt.length ≤ 5000) (hn : ar.length + 1 ≤ 10) (hc : c ∈ sAln) (ht : txt.drop p = 92 :: c :: 46 :: rest) (hr : (lev gloT (k + 4)).meth 6 37 σ0.length [.int (d - 1)] (rd σ0 txt (p + 3) (ar ++ [PV.str [c]])) = some r) : (lev gloT (k + 5)).meth 6 37 σ0.length [.int d] (rd σ0 txt p ar) = outOf (nextOf (EXs (lev gloT (k + 4)) [.asg 38 tmL, .exp (.mpop (.attr (.loc 8) 2)), .ret (.loc 38)] (tmρ σ0.length d [92]) (rd σ0 txt (p + 3) (ar ++ [PV.str [c]]))) (EXs (lev gloT (k + 4)) tmE)) ∧ EV (lev gloT (k + 4)) (.meth (.loc 8) 37 [tmD]) (tmρ σ0.length d [92]) (rd σ0 txt (p + 3) (ar ++ [PV.str [c]])) = some r := by
  have hlen := congrArg List.length ht
  simp only [List.length_drop, List.length_cons] at hlen
  have hp2 : p + 2 ≤ txt.length := by omega
  have hp1 : p + 1 ≤ txt.length := Nat.le_of_succ_le hp2
  have hp : p ≤ 5000 := Nat.le_trans (Nat.le_of_succ_le hp1) hl
  have ht1 : txt.drop (p + 1) = [c] ++ 46 :: rest := by rw [← List.drop_drop, ht]; rfl
  have ht2 : txt.drop (p + 2) = 46 :: rest := by rw [← List.drop_drop, ht]; rfl
  have hc0 : txt[p]? = some 92 := by rw [← List.head?_drop, ht]; rfl
  have hc2 : txt[p + 2]? = some 46 := by rw [← List.head?_drop, ht2]; rfl
  have es := sign_ok (k + 3) σ0 txt p ar hp hl [92] (at_cut hc0) (by decide)
  have ew := want_ok (k + 1) σ0 txt p ar hp hl 92 hc0 (by decide)
  have en := nameN_ok (k + 1) σ0 txt ar hl [c] _ (p + 1) ht1 hp1 (fun x hx => by rw [List.mem_singleton.mp hx]; exact hc) (fun x hx => by cases hx; exact dot_no) (List.cons_ne_nil _ _)
  have ed := want_ok (k + 1) σ0 txt (p + 2) (ar ++ [PV.str [c]]) (Nat.le_trans hp2 hl) hl 46 hc2 (by decide)
  have m1 := rd_meth (k := k + 4) (ρ := tmρ σ0.length d [92]) (m := 33) (l := [.loc 13]) (vs := [.str [92]]) (p := p) (txt := txt) (ar := ar) rfl rfl rfl rfl ew
  have m2 := rd_meth (k := k + 4) (ρ := tmρ σ0.length d [92]) (m := 34) (l := []) (vs := []) (p := p + 1) (txt := txt) (ar := ar) rfl rfl rfl rfl en
  have m3 := rd_meth (k := k + 4) (ρ := tmρ σ0.length d [92]) (m := 33) (l := [.cstr [46]]) (vs := [.str [46]]) (p := p + 2) (txt := txt) (ar := ar ++ [PV.str [c]]) rfl rfl rfl rfl ed
  have mA : EV (lev gloT (k + 4)) (.mapp (.attr (.loc 8) 2) (.meth (.loc 8) 34 [])) (tmρ σ0.length d [92]) (rd σ0 txt (p + 1) ar) = some (.ok .none (rd σ0 txt (p + 2) (ar ++ [PV.str [c]]))) := by
    rw [EV_mapp, kq_lev, rd_a2 (ρ := tmρ σ0.length d [92]) rfl]
    show atL (rd σ0 txt (p + 1) ar)[σ0.length + 1]? (fun _ => bnd (EV (lev gloT (k + 4)) (.meth (.loc 8) 34 []) (tmρ σ0.length d [92]) (rd σ0 txt (p + 1) ar)) (kApp2 (σ0.length + 1))) = _
    rw [m2, rd, mid_get1, atL_some, bnd_okL, kApp2, rd, mid_get1, atL_some, if_pos (Nat.le_trans (Nat.le_of_succ_le hn) (by decide)), mid_set1]
    rfl
  refine ⟨?_, rd_meth (k := k + 4) (ρ := tmρ σ0.length d [92]) (m := 37) (l := [tmD]) (vs := [.int (d - 1)]) (p := p + 3) (txt := txt) (ar := ar ++ [PV.str [c]]) rfl rfl rfl rfl hr⟩
  rw [tm_start (k := k + 1) hd es]
  refine (congrArg outOf (iff_t (c := .cmp .Eq (.loc 13) (.cstr [92])) (b := tmB) rfl)).trans ?_
  rw [tmB, exp_nx m1 rfl, exp_nx mA rfl, exp_nx m3 rfl]
theorem tm_out {c : Nat} {v : PV} {q : Nat} (hn : ar.length + 1 ≤ 10) (e : EV (lev gloT (k + 4)) (.meth (.loc 8) 37 [tmD]) (tmρ σ0.length d [92]) (rd σ0 txt p (ar ++ [PV.str [c]])) = some (.ok v (rd σ0 txt q (ar ++ [PV.str [c]])))) : outOf (nextOf (EXs (lev gloT (k + 4)) [.asg 38 tmL, .exp (.mpop (.attr (.loc 8) 2)), .ret (.loc 38)] (tmρ σ0.length d [92]) (rd σ0 txt p (ar ++ [PV.str [c]]))) (EXs (lev gloT (k + 4)) tmE)) = some (.ok (.tup [.str sLam, v]) (rd σ0 txt q ar)) := by
  have eL : EV (lev gloT (k + 4)) tmL (tmρ σ0.length d [92]) (rd σ0 txt p (ar ++ [PV.str [c]])) = some (.ok (.tup [.str sLam, v]) (rd σ0 txt q (ar ++ [PV.str [c]]))) := by
    rw [tmL, EV_tup, EVs_cons, EV_cstr, bnd_okL, kVs, EVs_cons, e]; rfl
  have eP : EV (lev gloT (k + 4)) (.mpop (.attr (.loc 8) 2)) (setLB (tmρ σ0.length d [92]) 38 (.tup [.str sLam, v])) (rd σ0 txt q (ar ++ [PV.str [c]])) = some (.ok (.str [c]) (rd σ0 txt q ar)) := by
    rw [EV_mpop, kq_lev, rd_a2 rfl]
    show atL (rd σ0 txt q (ar ++ [PV.str [c]]))[σ0.length + 1]? (fun l => if l.length ≤ SZ then kPop2 (σ0.length + 1) l _ l.getLast? else none) = _
    rw [rd, mid_get1, atL_some, if_pos (by rw [List.length_append]; exact Nat.le_trans hn (by decide)), List.getLast?_concat]
    show some (R.ok (PV.str [c]) (List.set _ (σ0.length + 1) (.lst (ar ++ [PV.str [c]]).dropLast))) = _
    rw [List.dropLast_concat, mid_set1]; rfl
  rw [asg_nx eL, exp_nx eP rfl]; rfl
theorem tm_outx {c : Nat} {q : PX} {σ : Store} (e : EV (lev gloT (k + 4)) (.meth (.loc 8) 37 [tmD]) (tmρ σ0.length d [92]) (rd σ0 txt p (ar ++ [PV.str [c]])) = some (.exc q σ)) : outOf (nextOf (EXs (lev gloT (k + 4)) [.asg 38 tmL, .exp (.mpop (.attr (.loc 8) 2)), .ret (.loc 38)] (tmρ σ0.length d [92]) (rd σ0 txt p (ar ++ [PV.str [c]]))) (EXs (lev gloT (k + 4)) tmE)) = some (.exc q σ) := by
  rw [asg_exc (e := tmL) (v := q) (σ' := σ) (by rw [tmL, EV_tup, EVs_cons, EV_cstr, bnd_okL, kVs, EVs_cons, e]; rfl)]; rfl
end
/-- the number that comes: with the lams around -/
noncomputable def nmOk (f : List Nat) (n : Nat) : Prop := f.length ≤ 9 ∧ numOf f + n ≤ 999999999
theorem termN (σ0 : Store) (txt : List Nat) (hl : txt.length ≤ 5000) (f : List Nat) (hf : FigOk f) (k : Nat) (cs : List Nat) : ∀ (d : Int) (p : Nat) (ar : List PV), (∀ c ∈ cs, c ∈ sAln) → (∀ x ∈ ar, ∃ c, x = .str [c]) → ar.length + cs.length ≤ 10 → (cs.length : Int) < d → txt.drop p = lamsOf cs ++ 121 :: f →
    (nmOk f (ar.length + cs.length) → (lev gloT (k + cs.length + 5)).meth 6 37 σ0.length [.int d] (rd σ0 txt p ar) = some (.ok (lamN cs.length (.tup [.str (sVar ++ digs ((numOf f + (ar.length + cs.length) : Nat) : Int))])) (rd σ0 txt txt.length ar))) ∧
    (¬ nmOk f (ar.length + cs.length) → ∃ ar', (lev gloT (k + cs.length + 5)).meth 6 37 σ0.length [.int d] (rd σ0 txt p ar) = some (.exc ⟨5, some ((p + 3 * cs.length : Nat) : Int)⟩ (rd σ0 txt txt.length ar'))) := by
  induction cs with
  | nil =>
    intro d p ar hcs har hn hd ht
    have ht : txt.drop p = 121 :: f := ht
    have hlen := congrArg List.length ht
    rw [List.length_drop, List.length_cons] at hlen
    have hend : p + (f.length + 1) = txt.length := by omega
    have hp : p ≤ txt.length := hend ▸ Nat.le_add_right ..
    have hc : txt[p]? = some 121 := by rw [← List.head?_drop, ht]; rfl
    have hd0 : d ≠ 0 := fun z => by rw [z] at hd; exact absurd hd (by decide)
    rw [← hend]
    exact ⟨fun hq => tm_leaf hd0 hl hp hc (leafN_ok hl har hn hf hp ht hq.1 hq.2), fun hq => ⟨ar, tm_leaf hd0 hl hp hc (leafN_exc hl har hn hf hp ht hq)⟩⟩
  | cons c cs ih =>
    intro d p ar hcs har hn hd ht
    have hn : ar.length + (cs.length + 1) ≤ 10 := hn
    have hd : ((cs.length + 1 : Nat) : Int) < d := hd
    have hd0 : d ≠ 0 := fun z => by rw [z] at hd; exact absurd hd (Int.not_lt.mpr (Int.natCast_nonneg _))
    have hn1 : ar.length + 1 ≤ 10 := Nat.le_trans (Nat.add_le_add_left (Nat.succ_le_succ (Nat.zero_le _)) _) hn
    have hc : c ∈ sAln := hcs c (List.mem_cons_self ..)
    have har' : ∀ x ∈ ar ++ [PV.str [c]], ∃ c, x = .str [c] := by
      intro x hx
      rcases List.mem_append.mp hx with hx | hx
      · exact har x hx
      · exact ⟨c, List.mem_singleton.mp hx⟩
    have e : (ar ++ [PV.str [c]]).length + cs.length = ar.length + (cs.length + 1) := by rw [List.length_append, Nat.add_assoc, Nat.add_comm cs.length 1]; rfl
    obtain ⟨i1, i2⟩ := ih (d - 1) (p + 3) (ar ++ [PV.str [c]]) (fun x hx => hcs x (List.mem_cons_of_mem _ hx)) har' (e ▸ hn) (Int.lt_sub_right_of_add_lt hd) (by rw [← List.drop_drop, ht]; rfl)
    rw [e] at i1 i2
    have hk : k + (c :: cs).length + 5 = k + cs.length + 1 + 5 := rfl
    refine ⟨fun hq => ?_, fun hq => ?_⟩
    · obtain ⟨r1, r2⟩ := tm_lam (k := k + cs.length + 1) hd0 hl hn1 hc ht (i1 hq)
      exact r1.trans (tm_out hn1 r2)
    · obtain ⟨ar', i2⟩ := i2 hq
      rw [show p + 3 + 3 * cs.length = p + 3 * (cs.length + 1) by rw [Nat.mul_succ, Nat.add_comm (3 * _), Nat.add_assoc]] at i2
      obtain ⟨r1, r2⟩ := tm_lam (k := k + cs.length + 1) hd0 hl hn1 hc ht i2
      exact ⟨ar', r1.trans (tm_outx r2)⟩
theorem rd_zero {σ0 : Store} {txt : List Nat} {p : Nat} {ar : List PV} {o : PO} (h : σ0[0]? = some o) : (rd σ0 txt p ar)[0]? = some o := by
  unfold rd
  rw [List.getElem?_append_left (List.getElem?_eq_some_iff.mp h).1]
  exact h
noncomputable def onR : List CS := f_of_names.2.drop 2
theorem of_names (k : Nat) (σ0 : Store) (f : List Nat) (hf : FigOk f) (cs : List Nat) (hcs : ∀ c ∈ cs, c ∈ sAln) (hn : cs.length ≤ 3) :
    (nmOk f cs.length → ∃ σ', (∀ o, σ0[0]? = some o → σ'[0]? = some o) ∧ (lev gloT (k + cs.length + 6)).fn 40 [.str (lamsOf cs ++ 121 :: f)] σ0 = some (.ok (lamN cs.length (.tup [.str (sVar ++ digs ((numOf f + cs.length : Nat) : Int))])) σ')) ∧
    (¬ nmOk f cs.length → ∃ σ', (∀ o, σ0[0]? = some o → σ'[0]? = some o) ∧ (lev gloT (k + cs.length + 6)).fn 40 [.str (lamsOf cs ++ 121 :: f)] σ0 = some (.exc ⟨5, some ((3 * cs.length : Nat) : Int)⟩ σ')) := by
  have hl : (lamsOf cs ++ 121 :: f).length ≤ 5000 := by
    rw [List.length_append, lams_len, List.length_cons]
    exact Nat.le_trans (Nat.add_le_add (Nat.mul_le_mul_left 3 hn) (Nat.succ_le_succ hf.len)) (by decide)
  generalize htx : lamsOf cs ++ 121 :: f = txt at hl
  obtain ⟨t1, t2⟩ := termN σ0 txt hl f hf k cs 40 0 [] hcs (fun _ z => nomatch z) (by rw [List.length_nil, Nat.zero_add]; exact Nat.le_trans hn (by decide)) (Int.ofNat_lt.mpr (Nat.lt_of_le_of_lt hn (by decide))) htx.symm
  rw [List.length_nil, Nat.zero_add] at t1 t2
  rw [Nat.zero_add] at t2
  have ei : EV (lev gloT (k + cs.length + 5)) (.call 6 [(.loc 1)]) [(1, .str txt)] σ0 = some (.ok (.ref σ0.length) (rd σ0 txt 0 [])) := init_ok (k + cs.length + 4) σ0 txt
  have es := sign_ok (k + cs.length + 4) σ0 txt txt.length [] hl hl [] (at_end (Nat.le_refl _)) (by decide)
  have run := (fn_40 (k + cs.length + 5) [.str txt] σ0 rfl).trans (congrArg outOf (asg_nx (ρ := [(1, .str txt)]) (x := 41) (r := .asg 38 (.meth (.loc 41) 37 [(.glo 42)]) :: onR) ei))
  have mt : ∀ (ρ : Loc) (m : Nat) (l : List CE) (vs : List PV) (q : Nat) (br : List PV) (r : Option (R PV)), lkB ρ 41 = some (.ref σ0.length) → (lev gloT (k + cs.length + 5)).km 6 m = true → lkB [(1, .str txt), (0, .int q), (2, .ref (σ0.length + 1))] m = none → EVs (lev gloT (k + cs.length + 5)) l ρ (rd σ0 txt q br) = some (.ok vs (rd σ0 txt q br)) → (lev gloT (k + cs.length + 5)).meth 6 m σ0.length vs (rd σ0 txt q br) = r → EV (lev gloT (k + cs.length + 5)) (.meth (.loc 41) m l) ρ (rd σ0 txt q br) = r := fun ρ m l vs q br r h8 hk hm hl' hr => by
    rw [EV_meth, kq_lev, EV_loc, h8]
    show atO (rd σ0 txt q br)[σ0.length]? _ = _
    rw [rd, mid_get]
    show kNo (lkB [(1, .str txt), (0, .int q), (2, .ref (σ0.length + 1))] m) (kk ((lev gloT (k + cs.length + 5)).km 6 m) (bnd (EVs (lev gloT (k + cs.length + 5)) l ρ (rd σ0 txt q br)) _)) = _
    rw [hm, hk, hl']; exact hr
  refine ⟨fun hq => ⟨rd σ0 txt txt.length [], fun _ => rd_zero, run.trans ?_⟩, fun hq => ?_⟩
  · have m1 := mt [(1, .str txt), (41, .ref σ0.length)] 37 [.glo 42] [.int 40] 0 [] _ rfl rfl rfl rfl (t1 hq)
    refine (congrArg outOf (asg_nx m1)).trans ?_
    generalize lamN cs.length (.tup [.str (sVar ++ digs ((numOf f + cs.length : Nat) : Int))]) = v
    have m2 := mt [(1, .str txt), (41, .ref σ0.length), (38, v)] 13 [] [] txt.length [] _ rfl rfl rfl rfl es
    refine (congrArg outOf (if_skip (c := .cmp .NotEq (.meth (.loc 41) 13 []) (.cstr [])) (r := [.ret (.loc 38)]) ?_)).trans rfl
    rw [ET_cmp, show EV _ (.meth (.loc 41) 13 []) (setLB [(1, .str txt), (41, .ref σ0.length)] 38 v) _ = _ from m2]; rfl
  · obtain ⟨ar', t2⟩ := t2 hq
    have m1 := mt [(1, .str txt), (41, .ref σ0.length)] 37 [.glo 42] [.int 40] 0 [] _ rfl rfl rfl rfl t2
    exact ⟨rd σ0 txt txt.length ar', fun _ => rd_zero, run.trans ((congrArg outOf (asg_exc m1)).trans rfl)⟩
end Mine
end
/-! L16: the law's last question -/
section
set_option autoImplicit false
set_option linter.unusedVariables false
set_option linter.unusedSimpArgs false
set_option maxRecDepth 100000
namespace Mine
open PySem
theorem quiet_q (Φ : Sig) : Φ.quiet.q = true := rfl
theorem quiet_glo (Φ : Sig) : Φ.quiet.glo = Φ.glo := rfl
theorem caught_ok {b : Bool} {σ : Store} : caughtOf (some (.ok (.bool b) σ)) = some (.ret (.bool b) [] σ) := rfl
noncomputable def abc : List Nat := [97, 98, 99]
noncomputable def lamE : CE := .bin .Add (.bin .Add (.cstr [92]) (.sub (.cstr [97, 98, 99]) (.loc 63))) (.cstr [46])
theorem ec_rng (Φ : Sig) (d : Nat) (hd : d ≤ 3) (σ : Store) : ∀ (m i : Nat) (ρ : Loc) (acc : List PV), i + m = d → acc.length ≤ i → EC Φ lamE [63] false none (.rng d) i ρ acc σ = some (.ok (acc ++ ((abc.take d).drop i).map fun c => .str [92, c, 46]) σ) := by
  intro m
  induction m with
  | zero =>
    intro i ρ acc h1 h2
    rw [Nat.add_zero] at h1
    subst h1
    rw [EC_end (rng_end (Nat.le_trans hd (by decide))), List.drop_eq_nil_iff.mpr (by rw [List.length_take]; exact Nat.min_le_left ..), List.map_nil, List.append_nil]
  | succ m ih =>
    intro i ρ acc h1 h2
    have g : i < d := h1 ▸ Nat.lt_add_of_pos_right (Nat.succ_pos m)
    have hi3 : i < 3 := Nat.lt_of_lt_of_le g hd
    have hi : i < (abc.take d).length := by rw [List.length_take]; exact Nat.lt_min.mpr ⟨g, hi3⟩
    have e : EV Φ lamE (setLB ρ 63 (.int i)) σ = some (.ok (.str [92, abc[i]'hi3, 46]) σ) := by
      have hx : EV Φ (.sub (.cstr [97, 98, 99]) (.loc 63)) (setLB ρ 63 (.int i)) σ = some (.ok (.str [abc[i]'hi3]) σ) := by
        rw [EV_sub, EV_cstr, bnd_okL, kSub, EV_loc, lk_same]
        show rok (if 0 ≤ (i : Int) ∧ 3 ≤ SZ then (abc[i]?).map (fun c => PV.str [c]) else none) σ = _
        rw [if_pos ⟨Int.natCast_nonneg _, by decide⟩, List.getElem?_eq_getElem hi3]
        rfl
      rw [lamE, EV_bin, EV_bin, EV_cstr, bnd_okL, kBin, hx]
      rfl
    rw [EC_add (rng_at (Nat.le_trans hd (by decide)) g) rfl rfl e (Nat.lt_of_le_of_lt h2 (Nat.lt_trans hi3 (by decide))), ih (i + 1) _ _ ((Nat.add_right_comm ..).trans h1) (by rw [List.length_append]; exact Nat.succ_le_succ h2), List.drop_eq_getElem_cons hi, List.append_assoc, List.getElem_take]
    rfl
theorem strs_map (l : List Nat) : strsOf (l.map fun c => .str [92, c, 46]) = some (l.map fun c => [92, c, 46]) := by
  induction l with
  | nil => rfl
  | cons a r ih => simp [strsOf, ih]
theorem flat_lams (l : List Nat) : (l.map fun c => [92, c, 46]).flatten = lamsOf l := by
  induction l with
  | nil => rfl
  | cons a r ih => simp [lamsOf, ih]
noncomputable def dueB : List CS := [.asg 65 (.tup [(.cstr [108, 97, 109]), (.loc 65)])]
theorem due_loop (Φ : Sig) (hq : Φ.q = false) (d : Nat) (hd : d ≤ 3) (σ : Store) (v : PV) : ∀ (m i : Nat) (ρ : Loc), i + m = d → lkB ρ 65 = some (lamN i v) →
    ∃ ρ', (∀ y, y ≠ 63 → y ≠ 65 → lkB ρ' y = lkB ρ y) ∧ lkB ρ' 65 = some (lamN d v) ∧ EF Φ [63] false (.rng d) i dueB ρ σ = some (.nxt ρ' σ) := by
  intro m
  induction m with
  | zero =>
    intro i ρ h1 h2
    rw [Nat.add_zero] at h1
    subst h1
    exact ⟨ρ, fun _ _ _ => rfl, h2, EF_end (rng_end (Nat.le_trans hd (by decide)))⟩
  | succ m ih =>
    intro i ρ h1 h2
    have g : i < d := h1 ▸ Nat.lt_add_of_pos_right (Nat.succ_pos m)
    obtain ⟨ρ', a1, a2, a3⟩ := ih (i + 1) (setLB (setLB ρ 63 (.int i)) 65 (lamN (i + 1) v)) ((Nat.add_right_comm ..).trans h1) (lk_same ..)
    refine ⟨ρ', fun y h3 h4 => ?_, a2, ?_⟩
    · rw [a1 y h3 h4, lk_setF, lk_setF, beq_false_of_ne (fun z => h4 z.symm), beq_false_of_ne (fun z => h3 z.symm)]
    · have e : EXs Φ dueB (setLB ρ 63 (.int i)) σ = some (.nxt (setLB (setLB ρ 63 (.int i)) 65 (lamN (i + 1) v)) σ) := by
        have h3 : lkB (setLB ρ 63 (.int i)) 65 = some (lamN i v) := (lk_setF ..).trans h2
        show nextOf (kq Φ (bndE _ (bnd (bnd (some (.ok (.str [108, 97, 109]) σ)) (kVs (EVs Φ [.loc 65] (setLB ρ 63 (.int i))))) kTup) _)) _ = _
        rw [bnd_okL, kVs, EVs_cons, EV_loc, h3, kq, hq]
        rfl
      rw [EF_at (rng_at (Nat.le_trans hd (by decide)) g) rfl e]
      exact a3
theorem eqvs_two {n : Nat} {a b : PV} {l m : List PV} (h : eqvN n a b = some true) (h' : eqvs (eqvN n) l m = some true) : eqvs (eqvN n) (a :: l) (b :: m) = some true := by
  unfold eqvs
  rw [h, h']
  rfl
theorem eqv_strs (n : Nat) (s : List Nat) : eqvN (n + 1) (.str s) (.str s) = some true := by
  show some (s == s) = _
  rw [beq_self_eq_true]
theorem eqvs_no {n : Nat} : eqvs (eqvN n) [] [] = some true := rfl
theorem eqv_lamN (s : List Nat) : ∀ (d n : Nat), d + 2 ≤ n → eqvN n (lamN d (.tup [.str s])) (lamN d (.tup [.str s])) = some true := by
  intro d
  induction d with
  | zero =>
    intro n h
    obtain ⟨m, rfl⟩ := Nat.exists_eq_add_of_le' h
    exact eqvs_two (n := m + 1) (l := []) (m := []) (eqv_strs ..) eqvs_no
  | succ d ih =>
    intro n h
    obtain ⟨m, rfl⟩ := Nat.exists_eq_add_of_le' h
    exact eqvs_two (n := m + d + 1 + 1) (eqv_strs ..) (eqvs_two (n := m + d + 1 + 1) (ih _ (Nat.le_trans (Nat.le_add_left (d + 2) m) (Nat.le_refl _))) eqvs_no)
noncomputable def irJ : CE := .mjoin (.cstr []) (.comp lamE [63] false [] (.bi .range [(.loc 44)]) .none)
noncomputable def irI : CE := .call 40 [(.bin .Add (.bin .Add (.loc 49) (.cstr [121])) (.loc 18))]
noncomputable def irE : CE := .bop true [(.cmp .Eq (.attr (.loc 64) 0) (.bi .len [(.loc 49)])), (.bop false [(.cmp .Is (.loc 22) .cnone), (.cmp .Gt (.bin .Add (.loc 22) (.loc 44)) (.cint 999999999))])]
noncomputable def irT : CS := .tryy [.asg 10 irI] 5 64 irE
noncomputable def irV : CE := .ite (.cmp .Is (.loc 22) .cnone) (.tup []) (.tup [(.bin .Add (.cstr [118, 97, 114]) (.bi .str [(.bin .Add (.loc 22) (.loc 44))]))])
noncomputable def irR : CE := .bop true [(.cmp .IsNot (.loc 22) .cnone), (.cmp .Eq (.loc 10) (.loc 65))]
noncomputable def irρ (f : List Nat) (v : PV) (d : Nat) (A : List Nat) : Loc := [(43, .ref 1), (18, .str f), (22, v), (44, .int d), (49, .str A)]
section
variable {k d : Nat} {f A : List Nat} {v u : PV} {σ σ' : Store}
theorem ir_j (hd : d ≤ 3) {ρ : Loc} (hρ : lkB ρ 44 = some (.int d)) : EV (lev gloT k) irJ ρ σ = some (.ok (.str (lamsOf (abc.take d))) σ) := by
  have hcl : (abc.take d).length ≤ 3 := by rw [List.length_take]; exact Nat.le_trans (Nat.min_le_left ..) hd
  have eR : EV (lev gloT k) (.bi .range [(.loc 44)]) ρ σ = some (.ok (.rng d) σ) := by
    rw [EV_bi, kqm_3, EVs_cons, EV_loc, hρ]
    show rok (if d ≤ SZ then some (PV.rng d) else none) σ = _
    rw [if_pos (Nat.le_trans hd (by decide))]; rfl
  have ec := ec_rng (lev gloT k) d hd σ d 0 [] [] (Nat.zero_add _) (Nat.le_refl _)
  have eC : EV (lev gloT k) (.comp lamE [63] false [] (.bi .range [(.loc 44)]) .none) ρ σ = some (.ok (.lst ((abc.take d).map fun c => .str [92, c, 46])) σ) := by
    rw [EV_comp, kq_lev, eR]
    exact congrArg (bnd · kComp2) ec
  rw [irJ, EV_mjoin, EV_cstr]
  show bnd (EV (lev gloT k) (.comp lamE [63] false [] (.bi .range [(.loc 44)]) .none) ρ σ) kJoin2 = _
  rw [eC]
  show (match strsOf _ with | some ss => _ | none => _) = _
  rw [strs_map]
  dsimp only
  rw [flat_lams, if_pos ⟨by rw [List.length_map]; exact Nat.le_trans hcl (by decide), by rw [lams_len]; exact Nat.le_trans (Nat.mul_le_mul_left 3 hcl) (by decide)⟩]
theorem ir_i (hA : A.length ≤ 10) (hf : FigOk f) {r : Option (R PV)} (h : (lev gloT (k + 1)).fn 40 [.str (A ++ 121 :: f)] σ = r) : EV (lev gloT (k + 1)) irI (irρ f v d A) σ = r := by
  have e : EV (lev gloT (k + 1)) (.bin .Add (.bin .Add (.loc 49) (.cstr [121])) (.loc 18)) (irρ f v d A) σ = some (.ok (.str (A ++ 121 :: f)) σ) := by
    show bnd (rok (binop .Add (.str A) (.str [121])) σ) (kBin .Add (EV (lev gloT (k + 1)) (.loc 18) (irρ f v d A))) = _
    rw [add_str, if_pos (show A.length + ([121] : List Nat).length ≤ SZ from Nat.le_trans (Nat.succ_le_succ hA) (by decide))]
    show rok (binop .Add (.str (A ++ [121])) (.str f)) σ = _
    rw [add_str, if_pos (by rw [List.length_append]; exact Nat.le_trans (Nat.add_le_add (Nat.succ_le_succ hA) hf.len) (by decide)), List.append_assoc]
    rfl
  rw [irI, EV_call, kq_lev, kn_40, kk_t, EVs_cons, e]
  exact h
theorem ir_t (e : EV (lev gloT (k + 2)) irI (irρ f v d A) σ = some (.ok u σ')) : EX (lev gloT (k + 2)) irT (irρ f v d A) σ = some (.nxt (setLB (irρ f v d A) 10 u) σ') := by
  rw [irT, EX_tryy, kq_lev, kx_5, kk_t, asg_nx e]; rfl
theorem ir_x (hA : A.length ≤ 10) (e : EV (lev gloT (k + 2)) irI (irρ f v d A) σ = some (.exc ⟨5, some ((A.length : Nat) : Int)⟩ σ')) (hv : EB (lev gloT (k + 2)).quiet [(.cmp .Is (.loc 22) .cnone), (.cmp .Gt (.bin .Add (.loc 22) (.loc 44)) (.cint 999999999))] false (setLB (irρ f v d A) 64 (.exn A.length)) σ' = some (.ok (.bool true) σ')) : EX (lev gloT (k + 2)) irT (irρ f v d A) σ = some (.ret (.bool true) [] σ') := by
  have e1 : EV (lev gloT (k + 2)).quiet (.cmp .Eq (.attr (.loc 64) 0) (.bi .len [(.loc 49)])) (setLB (irρ f v d A) 64 (.exn A.length)) σ' = some (.ok (.bool true) σ') := by
    show bnd (rok (if A.length ≤ SZ then some (PV.int A.length) else none) σ') (kCmp2 .Eq (.int A.length)) = _
    rw [if_pos (Nat.le_trans hA (by decide))]
    show some (R.ok (PV.bool ((A.length : Int) == (A.length : Int))) σ') = _
    rw [beq_self_eq_true]
  rw [irT, EX_tryy, kq_lev, kx_5, kk_t, asg_exc e]
  show caughtOf (EV (lev gloT (k + 2)).quiet irE (setLB (irρ f v d A) 64 (.exn A.length)) σ') = _
  rw [irE, EV_bop, EB_cons, e1]
  show caughtOf (EB (lev gloT (k + 2)).quiet [(.cmp .Is (.loc 22) .cnone), (.cmp .Gt (.bin .Add (.loc 22) (.loc 44)) (.cint 999999999))] false _ σ') = _
  rw [hv]; rfl
end
theorem is_read (k : Nat) (T : List Nat) (s : List Int) (p : Nat) (tl : Store) (hp : p < 980) (hs : s.length ≤ 40) :
    ∃ σ', σ'[0]? = some (.tab T) ∧ (lev gloT (k + 10)).fn 62 [.ref 1] (fd T s p tl) = some (.ok (.bool true) σ') := by
  obtain ⟨f, hf, ef⟩ := figures_ok (k + 7) T s p tl (Nat.lt_trans hp (by decide)) hs
  obtain ⟨d, hd, ed⟩ := dip_ok (k + 8) T s (p + 3) tl 4 (by decide) (Nat.lt_trans (Nat.add_lt_add_right hp 3) (by decide)) hs
  have hd3 : d ≤ 3 := Nat.le_of_lt_succ (Int.ofNat_lt.mp hd)
  have hz : (fd T s (p + 3 + 1) tl)[0]? = some (.tab T) := rfl
  have run := (fn_62 (k + 9) [.ref 1] (fd T s p tl) rfl).trans (congrArg outOf ((asgT_nx (k := k + 9) (e := .call 46 [(.loc 43)]) (σ := fd T s p tl) (l := [.str f, idxOf f]) (σ' := fd T s (p + 3) tl) (ρ := [(43, .ref 1)]) (xs := [18, 22]) (r := .asg 44 (.call 45 [(.loc 43), (.cint 4)]) :: .asg 49 irJ :: irT :: .asg 65 irV :: .forr [63] false (.bi .range [(.loc 44)]) dueB :: [.ret irR]) (ρ' := [(43, .ref 1), (18, .str f), (22, idxOf f)]) ef rfl).trans ((asg_nx (k := k + 9) (e := .call 45 [(.loc 43), (.cint 4)]) (ρ := [(43, .ref 1), (18, .str f), (22, idxOf f)]) (σ := fd T s (p + 3) tl) ed).trans (asg_nx (ir_j hd3 rfl)))))
  have run : (lev gloT (k + 10)).fn 62 [.ref 1] (fd T s p tl) = outOf (EXs (lev gloT (k + 9)) (irT :: .asg 65 irV :: .forr [63] false (.bi .range [(.loc 44)]) dueB :: [.ret irR]) (irρ f (idxOf f) d (lamsOf (abc.take d))) (fd T s (p + 3 + 1) tl)) := run
  generalize fd T s (p + 3 + 1) tl = σ at run hz
  have hcl : (abc.take d).length = d := by rw [List.length_take]; exact Nat.min_eq_left hd3
  have hcs : ∀ c ∈ abc.take d, c ∈ sAln := fun c hc => (by decide : ∀ c ∈ abc, c ∈ sAln) c (List.mem_of_mem_take hc)
  obtain ⟨n1, n2⟩ := of_names (k + (3 - d)) σ f hf (abc.take d) hcs (by rw [hcl]; exact hd3)
  rw [hcl] at n1 n2
  rw [show k + (3 - d) + d + 6 = k + 9 by rw [Nat.add_assoc k, Nat.sub_add_cancel hd3]] at n1 n2
  have hll : (lamsOf (abc.take d)).length = 3 * d := by rw [lams_len, hcl]
  have hA : (lamsOf (abc.take d)).length ≤ 10 := by rw [hll]; exact Nat.le_trans (Nat.mul_le_mul_left 3 hd3) (by decide)
  rw [← hll] at n2
  generalize lamsOf (abc.take d) = A at n1 n2 run hA
  by_cases hq : nmOk f d
  · obtain ⟨σ', n0, n1⟩ := n1 hq
    have g1 : numOf f + d < 1000000000000000000 := Nat.lt_of_le_of_lt hq.2 (by decide)
    have h8 : 3 + (digs ((numOf f + d : Nat) : Int)).length ≤ SZ := Nat.le_trans (Nat.add_le_add_left (digs_short (i := ((numOf f + d : Nat) : Int)) g1) 3) (by decide)
    refine ⟨σ', n0 _ hz, run.trans ?_⟩
    rw [show idxOf f = .int (numOf f) from if_pos hq.1, EXs_nx (ir_t (ir_i hA hf n1))]
    generalize hD : digs ((numOf f + d : Nat) : Int) = D at h8
    have eV : EV (lev gloT (k + 9)) irV (setLB (irρ f (.int (numOf f)) d A) 10 (lamN d (.tup [.str (sVar ++ D)]))) σ' = some (.ok (.tup [.str (sVar ++ D)]) σ') := by
      show bnd (bnd (bnd (rok (if numOf f + d < 1000000000000000000 then some (PV.str (digs ((numOf f + d : Nat) : Int))) else none) σ') (kBin2 .Add (.str sVar))) _) _ = _
      rw [if_pos g1, hD]
      show bnd (bnd (rok (binop .Add (.str sVar) (.str D)) σ') _) _ = _
      rw [add_str, if_pos (show sVar.length + D.length ≤ SZ from h8)]; rfl
    rw [asg_nx eV]
    obtain ⟨ρ', a1, a2, a3⟩ := due_loop (lev gloT (k + 9)) rfl d hd3 σ' (.tup [.str (sVar ++ D)]) d 0 (setLB (setLB (irρ f (.int (numOf f)) d A) 10 (lamN d (.tup [.str (sVar ++ D)]))) 65 (.tup [.str (sVar ++ D)])) (Nat.zero_add _) rfl
    have b1 : lkB ρ' 22 = some (.int (numOf f)) := (a1 22 (by decide) (by decide)).trans rfl
    have b2 : lkB ρ' 10 = some (lamN d (.tup [.str (sVar ++ D)])) := (a1 10 (by decide) (by decide)).trans rfl
    have t3 : EX (lev gloT (k + 9)) (.forr [63] false (.bi .range [(.loc 44)]) dueB) (setLB (setLB (irρ f (.int (numOf f)) d A) 10 (lamN d (.tup [.str (sVar ++ D)]))) 65 (.tup [.str (sVar ++ D)])) σ' = some (.nxt ρ' σ') := by
      show bndE _ (rok (if d ≤ SZ then some (PV.rng d) else none) σ') (kForr _ [63] false (EXs (lev gloT (k + 9)) dueB)) = _
      rw [if_pos (Nat.le_trans hd3 (by decide))]
      exact a3
    have t4 : EV (lev gloT (k + 9)) irR ρ' σ' = some (.ok (.bool true) σ') := by
      have e1 : EV (lev gloT (k + 9)) (.cmp .IsNot (.loc 22) .cnone) ρ' σ' = some (.ok (.bool true) σ') := by rw [EV_cmp, EV_loc, b1]; rfl
      have eq : eqv (lamN d (.tup [.str (sVar ++ D)])) (lamN d (.tup [.str (sVar ++ D)])) = some true := eqv_lamN _ d 40 (Nat.le_trans (Nat.add_le_add_right hd3 2) (by decide))
      rw [irR, EV_bop, EB_cons, e1]
      show EV (lev gloT (k + 9)) (.cmp .Eq (.loc 10) (.loc 65)) ρ' σ' = _
      rw [EV_cmp, EV_loc, b2, rok_someL, bnd_okL, kCmp, EV_loc, a2, rok_someL, bnd_okL, kCmp2, eq_op, eq]; rfl
    rw [EXs_nx t3, ret_is t4]; rfl
  · obtain ⟨σ', n0, n2⟩ := n2 hq
    refine ⟨σ', n0 _ hz, run.trans ?_⟩
    have hv : EB (lev gloT (k + 9)).quiet [(.cmp .Is (.loc 22) .cnone), (.cmp .Gt (.bin .Add (.loc 22) (.loc 44)) (.cint 999999999))] false (setLB (irρ f (idxOf f) d A) 64 (.exn A.length)) σ' = some (.ok (.bool true) σ') := by
      by_cases h9 : f.length ≤ 9
      · rw [show idxOf f = .int (numOf f) from if_pos h9]
        show some (R.ok (PV.bool (decide ((999999999 : Int) < (numOf f + d : Nat)))) σ') = _
        rw [decide_eq_true (show (999999999 : Int) < (numOf f + d : Nat) from Int.ofNat_lt.mpr (Nat.not_le.mp fun z => hq ⟨h9, z⟩))]
      · rw [show idxOf f = .none from if_neg h9]; rfl
    rw [EXs_rt (ir_x hA (ir_i hA hf n2) hv)]; rfl
end Mine
end
/-! L17: the law's end -/
section
set_option autoImplicit false
set_option linter.unusedVariables false
set_option linter.unusedSimpArgs false
set_option maxRecDepth 100000
namespace Mine
open PySem
theorem law_q (k : Nat) : (lev gloT k).law.q = false := lev_q k
theorem law_top (k : Nat) : (lev gloT k).law.top = true := rfl
theorem law_fn (k : Nat) : (lev gloT k).law.fn = (lev gloT k).fn := rfl
theorem law_kn (k : Nat) : (lev gloT k).law.kn = (lev gloT k).kn := rfl
theorem law_low (k : Nat) : (lev gloT k).law.low = lev gloT k := rfl
noncomputable def long (x : List Nat × Nat) : Bool := !decide (x.1.length ≤ 9)
noncomputable def bad (x : List Nat × Nat) : Bool := long x || decide (x.2 ≤ numOf x.1)
theorem idx_long {x : List Nat × Nat} (h : long x = true) : idxOf x.1 = .none := by
  unfold idxOf
  rw [if_neg (fun z => by rw [long, decide_eq_true z] at h; cases h)]
theorem idx_short {x : List Nat × Nat} (h : long x = false) : idxOf x.1 = .int (numOf x.1) := by
  unfold idxOf
  by_cases z : x.1.length ≤ 9
  · exact if_pos z
  · rw [long, decide_eq_false z] at h; cases h
theorem cl_is : ∀ (t : Tm) (a : Nat), clT t a = if (t.lvs a).any long = true then .error 3 else .ok ((t.lvs a).filter bad).isEmpty
  | .var f, a => by
    simp only [clT, Tm.lvs]
    by_cases h : f.length ≤ 9
    · by_cases h' : numOf f < a
      · have : ¬ a ≤ numOf f := Nat.not_le_of_lt h'
        simp [h, h', long, bad, this]
      · have : a ≤ numOf f := Nat.not_lt.mp h'
        simp [h, h', long, bad, this]
    · simp [h, long]
  | .oth o, a => by simp [clT, Tm.lvs]
  | .lam t, a => by
    simp only [clT, Tm.lvs]
    exact cl_is t (a + 1)
  | .app l r, a => by
    rw [show (Tm.app l r).lvs a = l.lvs a ++ r.lvs a from rfl, List.any_append, List.filter_append, clT, cl_is l a, cl_is r a]
    cases h : (l.lvs a).any long with
    | true => simp
    | false =>
      cases h' : (r.lvs a).any long with
      | true => simp
      | false => cases (l.lvs a).filter bad <;> simp
section
variable {rows : List (List Nat × Nat)} {σ : Store} {Φ : Sig}
theorem long_comp (hn : rows.length ≤ 10) (hσ : σ[2]? = some (.lst (rows.map rowOf))) : ∀ (m i : Nat) (ρ : Loc) (acc : List PV), i + m = rows.length → acc.length ≤ i → EC Φ (.loc 22) [22, 2] true none (.ref 2) i ρ acc σ = some (.ok (acc ++ (rows.drop i).map fun x => idxOf x.1) σ) := by
  intro m
  induction m with
  | zero =>
    intro i ρ acc h1 h2
    rw [Nat.add_zero] at h1
    subst h1
    rw [EC_end (by simp [itemAt, hσ]), List.drop_length, List.map_nil, List.append_nil]
  | succ m ih =>
    intro i ρ acc h1 h2
    have hi : i < rows.length := h1 ▸ Nat.lt_add_of_pos_right (Nat.succ_pos m)
    have e : itemAt σ true (.ref 2) i = some (some (rowOf rows[i])) := by simp [itemAt, hσ, hi]
    have e2 : EV Φ (.loc 22) (setLB (setLB ρ 22 (idxOf rows[i].1)) 2 (.int rows[i].2)) σ = some (.ok (idxOf rows[i].1) σ) := by
      rw [EV_loc, lk_setF, lk_setF]; rfl
    rw [EC_add e rfl rfl e2 (Nat.lt_of_le_of_lt h2 (Nat.lt_of_lt_of_le hi (Nat.le_trans hn (by decide)))), ih (i + 1) _ _ ((Nat.add_right_comm ..).trans h1) (by rw [List.length_append]; exact Nat.succ_le_succ h2), List.drop_eq_getElem_cons hi, List.map_cons, List.append_assoc]
    rfl
theorem none_any : ∀ l : List (List Nat × Nat), noneIn (l.map fun x => idxOf x.1) = some (l.any long)
  | [] => rfl
  | x :: r => by
    rw [List.map_cons, List.any_cons]
    cases h : long x with
    | true => rw [idx_long h]; simp [noneIn, none_any r]
    | false => rw [idx_short h]; simp [noneIn, none_any r]
noncomputable def badC : CE := .bop false [(.cmp .Is (.sub (.loc 70) (.cint 0)) .cnone), (.cmp .GtE (.sub (.loc 70) (.cint 0)) (.sub (.loc 70) (.cint 1)))]
theorem bad_at {ρ : Loc} (x : List Nat × Nat) (h : lkB ρ 70 = some (rowOf x)) : ET Φ badC ρ σ = some (.ok (bad x) σ) := by
  have e0 : EV Φ (.sub (.loc 70) (.cint 0)) ρ σ = some (.ok (idxOf x.1) σ) := by rw [EV_sub, EV_loc, h]; rfl
  have e1 : EV Φ (.sub (.loc 70) (.cint 1)) ρ σ = some (.ok (.int x.2) σ) := by rw [EV_sub, EV_loc, h]; rfl
  rw [badC, ET_bop, ETs_cons, ET_cmp, e0]
  cases hl : long x with
  | true => rw [idx_long hl, bad, hl]; rfl
  | false =>
    rw [idx_short hl] at e0 ⊢
    rw [bad, hl]
    show bnd (bnd (bnd (EV Φ (.sub (.loc 70) (.cint 0)) ρ σ) (kCmp .GtE (EV Φ (.sub (.loc 70) (.cint 1)) ρ))) kTruth) (kTs false (ETs Φ [] false ρ)) = _
    rw [e0, bnd_okL, kCmp, e1]
    show kTs false _ (decide ((x.2 : Int) ≤ numOf x.1)) σ = _
    rw [show decide ((x.2 : Int) ≤ numOf x.1) = decide (x.2 ≤ numOf x.1) from decide_eq_decide.mpr Int.ofNat_le]
    cases decide (x.2 ≤ numOf x.1) <;> rfl
theorem bad_comp (hn : rows.length ≤ 10) (hσ : σ[2]? = some (.lst (rows.map rowOf))) : ∀ (m i : Nat) (ρ : Loc) (acc : List PV), i + m = rows.length → acc.length ≤ i → EC Φ (.loc 70) [70] false (some badC) (.ref 2) i ρ acc σ = some (.ok (acc ++ ((rows.drop i).filter bad).map rowOf) σ) := by
  intro m
  induction m with
  | zero =>
    intro i ρ acc h1 h2
    rw [Nat.add_zero] at h1
    subst h1
    rw [EC_end (by simp [itemAt, hσ]), List.drop_length, List.filter_nil, List.map_nil, List.append_nil]
  | succ m ih =>
    intro i ρ acc h1 h2
    have hi : i < rows.length := h1 ▸ Nat.lt_add_of_pos_right (Nat.succ_pos m)
    have e : itemAt σ false (.ref 2) i = some (some (rowOf rows[i])) := by simp [itemAt, hσ, hi]
    have e1 : condOf Φ (some badC) (setLB ρ 70 (rowOf rows[i])) σ = _ := bad_at (Φ := Φ) (σ := σ) rows[i] (lk_same ρ 70 (rowOf rows[i]))
    have e2 : EV Φ (.loc 70) (setLB ρ 70 (rowOf rows[i])) σ = some (.ok (rowOf rows[i]) σ) := by
      rw [EV_loc, lk_same]; rfl
    rw [List.drop_eq_getElem_cons hi]
    cases hb : bad rows[i] with
    | true =>
      rw [hb] at e1
      rw [EC_add e rfl e1 e2 (Nat.lt_of_le_of_lt h2 (Nat.lt_of_lt_of_le hi (Nat.le_trans hn (by decide)))), ih (i + 1) _ _ ((Nat.add_right_comm ..).trans h1) (by rw [List.length_append]; exact Nat.succ_le_succ h2), List.filter_cons_of_pos hb, List.map_cons, List.append_assoc]
      rfl
    | false =>
      rw [hb] at e1
      rw [EC_skip e rfl e1, ih (i + 1) _ _ ((Nat.add_right_comm ..).trans h1) (Nat.le_succ_of_le h2), List.filter_cons_of_neg (by rw [hb]; decide)]
end
theorem eqv_ix (ns : List Int) (t : Tm) : ∀ (n c : Nat), t.dep + 2 ≤ n → eqvN n (ixT ns t c) (ixT ns t c) = some true := by
  induction t with
  | var f =>
    intro n c h
    obtain ⟨m, rfl⟩ := Nat.exists_eq_add_of_le' h
    exact eqvs_two (n := m + 1) (l := []) (m := []) (eqv_strs ..) eqvs_no
  | oth f =>
    intro n c h
    obtain ⟨m, rfl⟩ := Nat.exists_eq_add_of_le' h
    exact eqvs_two (n := m + 1) (l := []) (m := []) (eqv_strs ..) eqvs_no
  | lam t ih =>
    intro n c h
    obtain ⟨m, rfl⟩ := Nat.exists_eq_add_of_le' h
    exact eqvs_two (n := m + (Tm.lam t).dep + 1) (eqv_strs ..) (eqvs_two (n := m + (Tm.lam t).dep + 1) (ih _ c (Nat.le_add_left ..)) eqvs_no)
  | app l r ihl ihr =>
    intro n c h
    obtain ⟨m, rfl⟩ := Nat.exists_eq_add_of_le' h
    exact eqvs_two (n := m + (Tm.app l r).dep + 1) (eqv_strs ..) (eqvs_two (n := m + (Tm.app l r).dep + 1) (ihl _ c (Nat.le_trans (Nat.add_le_add_right (Nat.le_max_left ..) 2) (Nat.le_add_left ..))) (eqvs_two (n := m + (Tm.app l r).dep + 1) (ihr _ _ (Nat.le_trans (Nat.add_le_add_right (Nat.le_max_right ..) 2) (Nat.le_add_left ..))) eqvs_no))
end Mine
end
/-! L18: the law holds -/
section
set_option autoImplicit false
set_option linter.unusedVariables false
set_option linter.unusedSimpArgs false
set_option maxRecDepth 100000
namespace Mine
open PySem
theorem law_tail (s : List Int) (hs : s.length ≤ 40) (t : Tm) (ht : t.ok) (hd : t.dep ≤ 3) (hr : (t.lvs 0).length ≤ 4) (p : Nat) (hp : p < 980) (tl : Store) (ρ : Loc) (h20 : lkB ρ 20 = some t.rep) (h56 : lkB ρ 56 = some (.ref 2)) (h43 : lkB ρ 43 = some (.ref 1)) :
    ∃ ρ' σ', σ'[0]? = some (.tab [200, 195]) ∧ EXs (lev gloT 20).law (f_law.2.drop 6) ρ (fd [195] s p (.lst ((t.lvs 0).map rowOf) :: tl)) = some (.ret (.bool true) ρ' σ') := by
  have hσ : (fd [195] s p (.lst ((t.lvs 0).map rowOf) :: tl))[2]? = some (.lst ((t.lvs 0).map rowOf)) := rfl
  have c1 := long_comp (Φ := (lev gloT 20).law) (by omega) hσ (t.lvs 0).length 0 [] [] (by omega) (by simp)
  have c2 := bad_comp (Φ := (lev gloT 20).law) (by omega) hσ (t.lvs 0).length 0 [] [] (by omega) (by simp)
  simp only [List.nil_append, List.drop_zero] at c1 c2
  have n1 := none_any (t.lvs 0)
  have s1 : EX (lev gloT 20).law (.asg 69 (.cmp .In .cnone (.comp (.loc 22) [22, 2] true [] (.loc 56) .none))) ρ (fd [195] s p (.lst ((t.lvs 0).map rowOf) :: tl)) = some (.nxt (setLB ρ 69 (.bool ((t.lvs 0).any long))) (fd [195] s p (.lst ((t.lvs 0).map rowOf) :: tl))) := by
    have e : EV (lev gloT 20).law (.comp (.loc 22) [22, 2] true [] (.loc 56) .none) ρ (fd [195] s p (.lst ((t.lvs 0).map rowOf) :: tl)) = some (.ok (.lst ((t.lvs 0).map fun x => idxOf x.1)) (fd [195] s p (.lst ((t.lvs 0).map rowOf) :: tl))) := by
      rw [EV_comp, kq_law, EV_loc, h56]
      exact congrArg (bnd · kComp2) c1
    rw [EX_asg, kq_law, EV_cmp, EV_cnone, bnd_okL, kCmp, e]
    show bndE ρ (rok ((noneIn _).map PV.bool) _) _ = _
    rw [n1]; rfl
  have s2 : EX (lev gloT 20).law (.asg 65 (.cmpNil .Eq (.comp (.loc 70) [70] false [] (.loc 56) (some badC)))) (setLB ρ 69 (.bool ((t.lvs 0).any long))) (fd [195] s p (.lst ((t.lvs 0).map rowOf) :: tl)) = some (.nxt (setLB (setLB ρ 69 (.bool ((t.lvs 0).any long))) 65 (.bool ((t.lvs 0).filter bad).isEmpty)) (fd [195] s p (.lst ((t.lvs 0).map rowOf) :: tl))) := by
    have e : EV (lev gloT 20).law (.comp (.loc 70) [70] false [] (.loc 56) (some badC)) (setLB ρ 69 (.bool ((t.lvs 0).any long))) (fd [195] s p (.lst ((t.lvs 0).map rowOf) :: tl)) = some (.ok (.lst (((t.lvs 0).filter bad).map rowOf)) (fd [195] s p (.lst ((t.lvs 0).map rowOf) :: tl))) := by
      rw [EV_comp, kq_law, EV_loc, show lkB (setLB ρ 69 (.bool ((t.lvs 0).any long))) 56 = some (.ref 2) from (lk_setF ..).trans h56]
      exact congrArg (bnd · kComp2) c2
    rw [EX_asg, kq_law, EV_cmpNil, e, ← List.isEmpty_map]
    rfl
  obtain ⟨σ', hz, e62⟩ := is_read 10 [200, 195] s p (.lst ((t.lvs 0).map rowOf) :: tl) hp hs
  have e62 : (lev gloT 20).fn 62 [.ref 1] (fd [200, 195] s p (.lst ((t.lvs 0).map rowOf) :: tl)) = some (.ok (.bool true) σ') := e62
  have e32 : (lev gloT 20).fn 32 [t.rep] (fd [200, 195] s p (.lst ((t.lvs 0).map rowOf) :: tl)) = some (outB (fd [200, 195] s p (.lst ((t.lvs 0).map rowOf) :: tl)) (clT t 0)) := closed_ok _ t 14 ht (Nat.le_trans hd (by decide))
  have k32 : (lev gloT 20).kn 32 = true := rfl
  have k62 : (lev gloT 20).kn 62 = true := rfl
  rw [show f_law.2.drop 6 = [.asg 69 (.cmp .In .cnone (.comp (.loc 22) [22, 2] true [] (.loc 56) .none)), .asg 65 (.cmpNil .Eq (.comp (.loc 70) [70] false [] (.loc 56) (some badC))), .ret (.bop true [(.cmp .Eq (.heard 200 [20] (.call 32 [(.loc 20)])) (.ite (.loc 69) (.tup [(.cstr [108, 105, 109, 105, 116]), .cnone]) (.tup [(.cstr [116, 111, 108, 100]), (.loc 65)]))), (.call 62 [(.loc 43)])])] from rfl]
  rw [EXs_nx s1, EXs_nx s2]
  have b69 : lkB (setLB (setLB ρ 69 (.bool ((t.lvs 0).any long))) 65 (.bool ((t.lvs 0).filter bad).isEmpty)) 69 = some (.bool ((t.lvs 0).any long)) := (lk_setF ..).trans (lk_setF ..)
  have b65 : lkB (setLB (setLB ρ 69 (.bool ((t.lvs 0).any long))) 65 (.bool ((t.lvs 0).filter bad).isEmpty)) 65 = some (.bool ((t.lvs 0).filter bad).isEmpty) := lk_setF ..
  have b20 : lkB (setLB (setLB ρ 69 (.bool ((t.lvs 0).any long))) 65 (.bool ((t.lvs 0).filter bad).isEmpty)) 20 = some t.rep := (lk_setF ..).trans ((lk_setF ..).trans h20)
  have b43 : lkB (setLB (setLB ρ 69 (.bool ((t.lvs 0).any long))) 65 (.bool ((t.lvs 0).filter bad).isEmpty)) 43 = some (.ref 1) := (lk_setF ..).trans ((lk_setF ..).trans h43)
  refine ⟨setLB (setLB ρ 69 (.bool ((t.lvs 0).any long))) 65 (.bool ((t.lvs 0).filter bad).isEmpty), σ', hz, ?_⟩
  generalize setLB (setLB ρ 69 (.bool ((t.lvs 0).any long))) 65 (.bool ((t.lvs 0).filter bad).isEmpty) = ρ' at b69 b65 b20 b43
  have eH : EV (lev gloT 20).law (.heard 200 [20] (.call 32 [(.loc 20)])) ρ' (fd [195] s p (.lst ((t.lvs 0).map rowOf) :: tl)) = heardOf sTold sLimit sTerm (some (outB (fd [200, 195] s p (.lst ((t.lvs 0).map rowOf) :: tl)) (clT t 0))) := by
    rw [EV_heard, kq_law, show captureB ρ' [20] = some [(20, t.rep)] by simp only [captureB, b20]]
    exact congrArg (heardOf sTold sLimit sTerm) e32
  have e2 : EV (lev gloT 20).law (.call 62 [(.loc 43)]) ρ' (fd [200, 195] s p (.lst ((t.lvs 0).map rowOf) :: tl)) = some (.ok (.bool true) σ') := by
    show bnd (bnd (rok (lkB ρ' 43) _) _) _ = _
    rw [b43]; exact e62
  rw [EXs_cons, EX_ret, EV_bop, EB_cons, EV_cmp, eH, cl_is t 0]
  generalize ((t.lvs 0).filter bad).isEmpty = x at b65
  cases hl : (t.lvs 0).any long with
  | true =>
    rw [hl] at b69
    have eR : EV (lev gloT 20).law (.ite (.loc 69) (.tup [(.cstr [108, 105, 109, 105, 116]), .cnone]) (.tup [(.cstr [116, 111, 108, 100]), (.loc 65)])) ρ' (fd [200, 195] s p (.lst ((t.lvs 0).map rowOf) :: tl)) = some (.ok (.tup [.str sLimit, .none]) (fd [200, 195] s p (.lst ((t.lvs 0).map rowOf) :: tl))) := by
      rw [EV_ite, ET_loc, b69]; rfl
    show nextOf (bndE ρ' (bnd (kCmp .Eq (EV (lev gloT 20).law (.ite (.loc 69) (.tup [(.cstr [108, 105, 109, 105, 116]), .cnone]) (.tup [(.cstr [116, 111, 108, 100]), (.loc 65)])) ρ') (.tup [.str sLimit, .none]) (fd [200, 195] s p (.lst ((t.lvs 0).map rowOf) :: tl))) _) _) _ = _
    rw [kCmp, eR]
    show nextOf (bndE ρ' (EV (lev gloT 20).law (.call 62 [(.loc 43)]) ρ' _) _) _ = _
    rw [e2]; rfl
  | false =>
    rw [hl] at b69
    have eR : EV (lev gloT 20).law (.ite (.loc 69) (.tup [(.cstr [108, 105, 109, 105, 116]), .cnone]) (.tup [(.cstr [116, 111, 108, 100]), (.loc 65)])) ρ' (fd [200, 195] s p (.lst ((t.lvs 0).map rowOf) :: tl)) = some (.ok (.tup [.str sTold, .bool x]) (fd [200, 195] s p (.lst ((t.lvs 0).map rowOf) :: tl))) := by
      rw [EV_ite, ET_loc, b69]
      show EV (lev gloT 20).law (.tup [(.cstr [116, 111, 108, 100]), (.loc 65)]) ρ' _ = _
      rw [EV_tup, EVs_cons, EV_cstr, bnd_okL, kVs, EVs_cons, EV_loc, b65]; rfl
    show nextOf (bndE ρ' (bnd (kCmp .Eq (EV (lev gloT 20).law (.ite (.loc 69) (.tup [(.cstr [108, 105, 109, 105, 116]), .cnone]) (.tup [(.cstr [116, 111, 108, 100]), (.loc 65)])) ρ') (.tup [.str sTold, .bool x]) (fd [200, 195] s p (.lst ((t.lvs 0).map rowOf) :: tl))) _) _) _ = _
    rw [kCmp, eR]
    cases x
    · show nextOf (bndE ρ' (EV (lev gloT 20).law (.call 62 [(.loc 43)]) ρ' _) _) _ = _
      rw [e2]; rfl
    · show nextOf (bndE ρ' (EV (lev gloT 20).law (.call 62 [(.loc 43)]) ρ' _) _) _ = _
      rw [e2]; rfl
end Mine
end
/-! L19: the law runs -/
section
set_option autoImplicit false
set_option linter.unusedVariables false
set_option linter.unusedSimpArgs false
set_option maxRecDepth 100000
namespace Mine
open PySem
theorem lvs_ok : ∀ (t : Tm) (a : Nat), t.ok → ∀ x ∈ t.lvs a, FigOk x.1
  | .var f, a, h, x, hx => by
    simp only [Tm.lvs, List.mem_singleton] at hx
    subst hx
    exact h
  | .oth _, _, _, x, hx => by simp [Tm.lvs] at hx
  | .lam t, a, h, x, hx => lvs_ok t (a + 1) h x hx
  | .app l r, a, h, x, hx => by
    simp only [Tm.lvs, List.mem_append] at hx
    rcases hx with hx | hx
    · exact lvs_ok l a h.1 x hx
    · exact lvs_ok r a h.2 x hx
theorem late_err (by_ : Int) (b : Nat) : ∀ (l : List (List Nat × Nat)) (c : Nat), lateAll by_ b l = .error c → c = 3 ∨ c = 4
  | [], c, h => by cases h
  | (f, a) :: r, c, h => by
    simp only [lateAll] at h
    cases q : lateOf by_ b a f with
    | error e =>
      rw [q] at h
      cases h
      unfold lateOf at q
      split at q
      · split at q
        · split at q
          · cases q; exact .inr rfl
          · split at q
            · cases q
            · cases q; exact .inl rfl
        · cases q
      · cases q; exact .inl rfl
    | ok i =>
      rw [q] at h
      dsimp only at h
      cases q' : lateAll by_ b r with
      | error e =>
        rw [q'] at h
        cases h
        exact late_err by_ b r _ q'
      | ok m => rw [q'] at h; cases h
theorem late_small (by_ : Int) (b : Nat) (hb : by_.natAbs ≤ 1000000000) : ∀ (l : List (List Nat × Nat)) (ns : List Int), (∀ x ∈ l, FigOk x.1) → lateAll by_ b l = .ok ns → ∀ x ∈ ns, x.natAbs < 1000000000000000000
  | [], ns, _, h, x, hx => by cases h; cases hx
  | (f, a) :: r, ns, hok, h, x, hx => by
    simp only [lateAll] at h
    cases q : lateOf by_ b a f with
    | error e => rw [q] at h; cases h
    | ok i =>
      rw [q] at h
      dsimp only at h
      cases q' : lateAll by_ b r with
      | error e => rw [q'] at h; cases h
      | ok m =>
        rw [q'] at h
        cases h
        rcases List.mem_cons.mp hx with rfl | hx
        · have hf : FigOk f := hok _ (List.mem_cons_self ..)
          unfold lateOf at q
          split at q
          · rename_i h9
            have hle := num_le hf h9
            split at q
            · split at q
              · cases q
              · split at q
                · cases q; omega
                · cases q
            · cases q; omega
          · cases q
        · exact late_small by_ b hb r m (fun y hy => hok y (List.mem_cons_of_mem _ hy)) q' x hx
theorem by_at (d : Nat) (h : (d : Int) < 6) : ∃ b : Int, b.natAbs ≤ 1000000000 ∧ seqAt [.int 0, .int 1, .int 7, .int 999999990, .int (-1), .int (-3)] (d : Int) = some (.int b) := by
  obtain ⟨b, hb, e⟩ := pick_at ([0, 1, 7, 999999990, -1, -3] : List Int) (fun b => .int b) (by decide) (Int.ofNat_lt.mp h : d < 6)
  exact ⟨b, (by decide : ∀ b ∈ ([0, 1, 7, 999999990, -1, -3] : List Int), b.natAbs ≤ 1000000000) b hb, e⟩
noncomputable def lw1 : CE := .tup [(.lst [(.bi .list [(.slice (.loc 66) .none (some (.cint 40)))]), (.cint 0)]), (.lst [])]
noncomputable def lw2 : CE := .call 52 [(.loc 43), (.cint 3), (.cint 0), (.loc 56)]
noncomputable def lw3 : CE := .tup [(.sub (.tup [(.cint 0), (.cint 1), (.cint 7), (.cint 999999990), (.neg (.cint 1)), (.neg (.cint 3))]) (.call 45 [(.loc 43), (.cint 6)])), (.call 45 [(.loc 43), (.cint 3)])]
noncomputable def lw4 : CE := .call 57 [(.loc 56), (.loc 26), (.loc 14)]
noncomputable def lw5 : CE := .heard 195 [20, 26, 14] (.call 29 [(.loc 20), (.loc 26), (.loc 14)])
noncomputable def lwA : CE := .cmp .NotEq (.sub (.loc 10) (.cint 0)) (.loc 68)
noncomputable def lwB : CE := .cmp .Eq (.loc 68) (.cstr [116, 111, 108, 100])
noncomputable def lwC : CE := .cmp .NotEq (.sub (.loc 10) (.cint 1)) (.call 60 [(.loc 20), (.lst []), (.loc 59)])
noncomputable def lw6 : CS := .iff (.bop false [lwA, .bop true [lwB, lwC]]) [.ret (.cbool false)] []
section
variable {ρ : Loc} {σ σ' σ'' : Store} {v : PV}
theorem asg_law {x : Nat} {e : CE} (h : EV (lev gloT 20).law e ρ σ = some (.ok v σ')) : EX (lev gloT 20).law (.asg x e) ρ σ = some (.nxt (setLB ρ x v) σ') := by
  rw [EX_asg, kq_law, h]; rfl
theorem asgT_law {xs : List Nat} {e : CE} {l : List PV} {ρ' : Loc} (h : EV (lev gloT 20).law e ρ σ = some (.ok (.tup l) σ')) (h' : setLsB ρ xs l = some ρ') : EX (lev gloT 20).law (.asgT xs e) ρ σ = some (.nxt ρ' σ') := by
  rw [EX_asgT, kq_law, h]
  show kAsgT2 _ (setLsB ρ xs l) = _
  rw [h']; rfl
theorem iff_law (hA : ET (lev gloT 20).law lwA ρ σ = some (.ok false σ)) {b : Bool} (hB : ET (lev gloT 20).law lwB ρ σ = some (.ok b σ)) (hC : b = true → ET (lev gloT 20).law lwC ρ σ = some (.ok false σ')) (hn : b = false → σ' = σ) : EX (lev gloT 20).law lw6 ρ σ = some (.nxt ρ σ') := by
  rw [lw6, EX_iff, ET_bop, ETs_cons, hA, bnd_okL, kTs, ETs_cons, ET_bop, ETs_cons, hB, bnd_okL]
  cases b with
  | true => rw [kTs, ETs_cons, hC rfl]; rfl
  | false => rw [hn rfl]; rfl
end
theorem law_runs (script : List Int) (hl : script.length ≤ 63) : ∃ ρ' σ', σ'[0]? = some (.tab [200, 195]) ∧ EXs (lev gloT 20).law f_law.2 [(66, .lst (script.map .int))] [.tab []] = some (.ret (.bool true) ρ' σ') := by
  have h0 : (script.map PV.int).length ≤ SZ := by rw [List.length_map]; exact Nat.le_trans hl (by decide)
  generalize hsc : script.take 40 = s
  have hs : s.length ≤ 40 := by rw [← hsc, List.length_take]; exact Nat.min_le_left ..
  have htk : (script.map PV.int).take 40 = s.map PV.int := by rw [← List.map_take, hsc]
  have s1 : EX (lev gloT 20).law (.asgT [43, 56] lw1) [(66, .lst (script.map .int))] [.tab []] = some (.nxt [(66, .lst (script.map .int)), (43, .ref 1), (56, .ref 2)] (fd [] s 0 [.lst []])) := by
    refine asgT_law (l := [.ref 1, .ref 2]) ?_ rfl
    have e : EV (lev gloT 20).law (.bi .list [(.slice (.loc 66) .none (some (.cint 40)))]) [(66, .lst (script.map .int))] [.tab []] = some (.ok (.lst (s.map .int)) [.tab []]) := by
      show bnd (bnd (rok (sliceop (.lst (script.map .int)) none (some (.int 40))) [.tab []]) (kVs _)) (kBi .list) = _
      rw [slice_lst, if_pos h0, if_pos (by decide), show (40 : Int).toNat = 40 from rfl, htk]
      show rok (if (s.map PV.int).length ≤ SZ then _ else _) _ = _
      rw [if_pos (by rw [List.length_map]; exact Nat.le_trans hs (by decide))]; rfl
    rw [lw1, EV_tup, EVs_cons, EV_lst, kq_law, EVs_cons, e]
    rfl
  obtain ⟨t, p1, ht, hd, hp1, hr, e52⟩ := term_ok 14 [] s [] hs 3 0 0 [] (by decide) (Nat.zero_le _)
  have s2 : EX (lev gloT 20).law (.asg 20 lw2) [(66, .lst (script.map .int)), (43, .ref 1), (56, .ref 2)] (fd [] s 0 [.lst []]) = some (.nxt [(66, .lst (script.map .int)), (43, .ref 1), (56, .ref 2), (20, t.rep)] (fd [] s p1 [.lst ((t.lvs 0).map rowOf)])) := asg_law e52
  have hp1 : p1 ≤ 75 := hp1
  rw [List.nil_append, List.length_map] at hr
  obtain ⟨d1, hd1, e45⟩ := dip_ok 19 [] s p1 [.lst ((t.lvs 0).map rowOf)] 6 (by decide) (Nat.lt_of_le_of_lt hp1 (by decide)) hs
  obtain ⟨b, hb, e45'⟩ := dip_ok 19 [] s (p1 + 1) [.lst ((t.lvs 0).map rowOf)] 3 (by decide) (Nat.lt_of_le_of_lt (Nat.succ_le_succ hp1) (by decide)) hs
  obtain ⟨by_, hby, eby⟩ := by_at d1 hd1
  have s3 : EX (lev gloT 20).law (.asgT [26, 14] lw3) [(66, .lst (script.map .int)), (43, .ref 1), (56, .ref 2), (20, t.rep)] (fd [] s p1 [.lst ((t.lvs 0).map rowOf)]) = some (.nxt [(66, .lst (script.map .int)), (43, .ref 1), (56, .ref 2), (20, t.rep), (26, .int by_), (14, .int b)] (fd [] s (p1 + 2) [.lst ((t.lvs 0).map rowOf)])) := by
    refine asgT_law (l := [.int by_, .int b]) ?_ rfl
    have c1 : EV (lev gloT 20).law (.call 45 [(.loc 43), (.cint 6)]) [(66, .lst (script.map .int)), (43, .ref 1), (56, .ref 2), (20, t.rep)] (fd [] s p1 [.lst ((t.lvs 0).map rowOf)]) = _ := e45
    have c2 : EV (lev gloT 20).law (.call 45 [(.loc 43), (.cint 3)]) [(66, .lst (script.map .int)), (43, .ref 1), (56, .ref 2), (20, t.rep)] (fd [] s (p1 + 1) [.lst ((t.lvs 0).map rowOf)]) = _ := e45'
    rw [lw3, EV_tup, EVs_cons, EV_sub]
    show bnd (bnd (bnd (EV (lev gloT 20).law (.call 45 [(.loc 43), (.cint 6)]) _ _) (kSub2 _)) _) _ = _
    rw [c1, bnd_okL, kSub2, sub_tup, eby, rok_someL, bnd_okL, kVs, EVs_cons, c2]
    rfl
  have hp : p1 + 2 < 980 := Nat.lt_of_le_of_lt (Nat.add_le_add_right hp1 2) (by decide)
  generalize p1 + 2 = p at s3 hp
  have hok := lvs_ok t 0 ht
  have e57 := late_ok 19 [] s p by_ b (t.lvs 0) hok (Nat.le_trans hr (by decide))
  have hb : b ≤ 100 := Nat.le_trans (Nat.le_of_lt (Int.ofNat_lt.mp hb)) (by decide)
  have e29 : ∀ σ, (lev gloT 20).fn 29 [t.rep, .int by_, .int b] σ = some (outE σ (mvT by_ b t 0)) := fun σ => shifted_ok by_ b σ t 14 ht (Nat.le_trans hd (by decide))
  rw [show f_law.2 = .asgT [43, 56] lw1 :: .asg 20 lw2 :: .asgT [26, 14] lw3 :: .asgT [68, 59] lw4 :: .asg 10 lw5 :: lw6 :: f_law.2.drop 6 from rfl, EXs_nx s1, EXs_nx s2, EXs_nx s3]
  have eHH : ∀ (ρ : Loc) (tl : Store), captureB ρ [20, 26, 14] = some [(20, t.rep), (26, .int by_), (14, .int b)] → EV (lev gloT 20).law lw5 ρ (fd [] s p tl) = heardOf sTold sLimit sTerm (some (outE (fd [195] s p tl) (mvT by_ b t 0))) := fun ρ tl g => by
    rw [lw5, EV_heard, kq_law, g]
    exact congrArg (heardOf sTold sLimit sTerm) (e29 _)
  have hmv := mv_ix by_ b t 0 [] []
  cases q : lateAll by_ b (t.lvs 0) with
  | ok ns =>
    rw [q] at e57 hmv
    have hmv : mvT by_ b t 0 = .ok (ixT (ns ++ []) t 0) := hmv
    rw [List.append_nil] at hmv
    have hns := late_small by_ b hby _ _ hok q
    have hnl := late_len by_ b _ _ q
    rw [lvs_cnt] at hnl
    have s4 : EX (lev gloT 20).law (.asgT [68, 59] lw4) [(66, .lst (script.map .int)), (43, .ref 1), (56, .ref 2), (20, t.rep), (26, .int by_), (14, .int b)] (fd [] s p [.lst ((t.lvs 0).map rowOf)]) = some (.nxt [(66, .lst (script.map .int)), (43, .ref 1), (56, .ref 2), (20, t.rep), (26, .int by_), (14, .int b), (68, .str sTold), (59, .ref 3)] (fd [] s p [.lst ((t.lvs 0).map rowOf), .lst (ns.map .int)])) := asgT_law (l := [.str sTold, .ref 3]) e57 rfl
    have s5 : EX (lev gloT 20).law (.asg 10 lw5) [(66, .lst (script.map .int)), (43, .ref 1), (56, .ref 2), (20, t.rep), (26, .int by_), (14, .int b), (68, .str sTold), (59, .ref 3)] (fd [] s p [.lst ((t.lvs 0).map rowOf), .lst (ns.map .int)]) = some (.nxt [(66, .lst (script.map .int)), (43, .ref 1), (56, .ref 2), (20, t.rep), (26, .int by_), (14, .int b), (68, .str sTold), (59, .ref 3), (10, .tup [.str sTold, ixT ns t 0])] (fd [195] s p [.lst ((t.lvs 0).map rowOf), .lst (ns.map .int)])) := asg_law (by rw [eHH _ _ rfl, hmv]; rfl)
    have hc : 0 + t.cnt ≤ ns.length := by rw [Nat.zero_add, hnl]; exact Nat.le_refl _
    have hr' : ns.length ≤ 10 := by rw [hnl, ← lvs_cnt t 0]; exact Nat.le_trans hr (by decide)
    have e60 := indexed_ok [195] s p (.lst ((t.lvs 0).map rowOf)) ns hr' hns t 19 0 ht (Nat.le_trans hd (by decide)) hc
    have eqi : eqv (ixT ns t 0) (ixT ns t 0) = some true := eqv_ix ns t 40 0 (Nat.le_trans (Nat.add_le_add_right hd 2) (by decide))
    generalize hρ : ([(66, .lst (script.map .int)), (43, .ref 1), (56, .ref 2), (20, t.rep), (26, .int by_), (14, .int b), (68, .str sTold), (59, .ref 3), (10, .tup [.str sTold, ixT ns t 0])] : Loc) = ρ at s5
    have c60 : EV (lev gloT 20).law (.call 60 [(.loc 20), (.lst []), (.loc 59)]) ρ (fd [195] s p [.lst ((t.lvs 0).map rowOf), .lst (ns.map .int)]) = some (.ok (ixT ns t 0) (fd [195] s p [.lst ((t.lvs 0).map rowOf), .lst (ns.map .int), .lst (List.replicate (0 + t.cnt) (.int 0))])) := by rw [← hρ]; exact e60
    have eC : ET (lev gloT 20).law lwC ρ (fd [195] s p [.lst ((t.lvs 0).map rowOf), .lst (ns.map .int)]) = some (.ok false (fd [195] s p [.lst ((t.lvs 0).map rowOf), .lst (ns.map .int), .lst (List.replicate (0 + t.cnt) (.int 0))])) := by
      rw [lwC, ET_cmp, show EV (lev gloT 20).law (.sub (.loc 10) (.cint 1)) ρ (fd [195] s p [.lst ((t.lvs 0).map rowOf), .lst (ns.map .int)]) = some (.ok (ixT ns t 0) (fd [195] s p [.lst ((t.lvs 0).map rowOf), .lst (ns.map .int)])) by rw [← hρ]; rfl, bnd_okL, kCmp, c60]
      show bnd (rok (((eqv _ _).map not).map PV.bool) _) _ = _
      rw [eqi]; rfl
    rw [EXs_nx s4, EXs_nx s5, EXs_nx (iff_law (by rw [← hρ]; rfl) (b := true) (by rw [← hρ]; rfl) (fun _ => eC) (fun z => by cases z))]
    exact law_tail s hs t ht hd hr p hp _ _ (by rw [← hρ]; rfl) (by rw [← hρ]; rfl) (by rw [← hρ]; rfl)
  | error c =>
    rw [q] at e57 hmv
    obtain ⟨l, e57⟩ := e57
    have hw : heardOf sTold sLimit sTerm (some (outE (fd [195] s p [.lst ((t.lvs 0).map rowOf), .lst l]) (.error c))) = some (.ok (.tup [.str (wordOf c), .none]) (fd [195] s p [.lst ((t.lvs 0).map rowOf), .lst l])) ∧ eqv (.str (wordOf c)) (.str [116, 111, 108, 100]) = some false := by
      rcases late_err by_ b _ _ q with rfl | rfl
      · exact ⟨rfl, rfl⟩
      · exact ⟨rfl, rfl⟩
    have s4 : EX (lev gloT 20).law (.asgT [68, 59] lw4) [(66, .lst (script.map .int)), (43, .ref 1), (56, .ref 2), (20, t.rep), (26, .int by_), (14, .int b)] (fd [] s p [.lst ((t.lvs 0).map rowOf)]) = some (.nxt [(66, .lst (script.map .int)), (43, .ref 1), (56, .ref 2), (20, t.rep), (26, .int by_), (14, .int b), (68, .str (wordOf c)), (59, .none)] (fd [] s p [.lst ((t.lvs 0).map rowOf), .lst l])) := asgT_law (l := [.str (wordOf c), .none]) e57 rfl
    have s5 : EX (lev gloT 20).law (.asg 10 lw5) [(66, .lst (script.map .int)), (43, .ref 1), (56, .ref 2), (20, t.rep), (26, .int by_), (14, .int b), (68, .str (wordOf c)), (59, .none)] (fd [] s p [.lst ((t.lvs 0).map rowOf), .lst l]) = some (.nxt [(66, .lst (script.map .int)), (43, .ref 1), (56, .ref 2), (20, t.rep), (26, .int by_), (14, .int b), (68, .str (wordOf c)), (59, .none), (10, .tup [.str (wordOf c), .none])] (fd [195] s p [.lst ((t.lvs 0).map rowOf), .lst l])) := asg_law (by rw [eHH _ _ rfl, hmv]; exact hw.1)
    have eqt : eqv (.str (wordOf c)) (.str (wordOf c)) = some true := eqv_strs 39 _
    rw [EXs_nx s4, EXs_nx s5, EXs_nx (iff_law (σ' := fd [195] s p [.lst ((t.lvs 0).map rowOf), .lst l]) (b := false) (by
      show bnd (rok (((eqv (.str (wordOf c)) (.str (wordOf c))).map not).map PV.bool) _) _ = _
      rw [eqt]; rfl) (by
      show bnd (rok ((eqv (.str (wordOf c)) (.str [116, 111, 108, 100])).map PV.bool) _) _ = _
      rw [hw.2]; rfl) (fun z => by cases z) (fun _ => rfl))]
    exact law_tail s hs t ht hd hr p hp _ _ rfl rfl rfl
end Mine
end
/-! M42: the law, walked -/
section
set_option autoImplicit false
set_option linter.unusedVariables false
set_option linter.unusedSimpArgs false
set_option maxRecDepth 100000
namespace Mine
open PySem PySem.W PySem.Calls PyProof.Rows
theorem rel_ints {L : Lo} {h : Heap} : ∀ {vs : List Value} {ns : List Int}, IntsAre vs ns → RelVs false L h vs (ns.map .int)
  | _, _, .nil => by simp [RelVs]
  | _, _, .cons n t r => by
    simp only [List.map_cons, RelVs, RelV]
    exact ⟨⟨t, rfl⟩, rel_ints r⟩
section
variable {prog : Program} {w : World} {mg mb : Str → Option Value} {s : Shared}
noncomputable def Lo.tab : Lo := ⟨[⟨270, 270⟩], []⟩
theorem own_tab {a : Addr} (h : a ∈ own Lo.tab) : a = 270 := by
  simp [own, Lo.tab, ownT] at h
  exact h
theorem Gd.st (G : Gd prog w s.heap mg mb) : St (Wof prog w s.heap mg mb) false [] Lo.tab [.tab []] s.heap where
  base := fun b o e => of_hideAll [270] e
  offb := fun a ha => by
    rw [own_tab ha]
    exact hideAll_none [270] (by simp)
  lay := {
    len := rfl
    apart := fun i j p r hi hj hij => by
      have h1 : i < 1 := (List.getElem?_eq_some_iff.mp hi).1
      have h2 : j < 1 := (List.getElem?_eq_some_iff.mp hj).1
      lia
    objs := fun i p o hi ho => by
      have h1 : i < 1 := (List.getElem?_eq_some_iff.mp hi).1
      obtain rfl : i = 0 := by lia
      cases hi
      cases ho
      exact ⟨rfl, rfl, #[], G.tab, trivial, fun _ _ => rfl⟩
    hidden := fun a ha => by cases ha }
  fr := fun e he => by cases he
theorem law_wp (G : Gd prog w s.heap mg mb) {lst : Addr} {vs : List Value} {ns : List Int} (hl : s.heap.IsList lst vs.toArray) (hI : IntsAre vs ns) (hn : ns.length ≤ 63) {Q E : Value → Shared → Prop}
    (h : ∀ h' tk, (∀ b o, b ≠ 270 → s.heap.get? b = some o → h'.get? b = some o) → (∃ ps, h'.get? 270 = some (tabObj ps)) → Q (.bool true) { s with heap := h', toks := tk }) :
    wpAny (model prog w) callerA (call (.ref 273) [.ref lst]) Q E s := by
  obtain ⟨ρ', σ', hz, hr⟩ := law_runs ns hn
  have hne : lst ∉ own Lo.tab := fun z => by
    have := own_tab z
    subst this
    obtain ⟨o, ho, hc, n, hd⟩ := hl
    rw [G.tab] at ho
    cases ho
    cases hc
  refine law_ok (W := Wof prog w s.heap mg mb) (K := KK w.params) (args := [.lst (ns.map .int)]) (fs := []) G.prg is_f_law (k := 20) rfl hr ⟨rfl, by decide, by decide⟩ rfl G.st ⟨⟨lst, vs.toArray, rfl, hne, hl, ?_⟩, trivial⟩ ?_
  · simpa using rel_ints hI
  · intro v L' h' tk st af rel
    obtain rfl : v = .bool true := rel
    refine h h' tk (fun b o hb e => st.base b o (G.old b o hb e)) ?_
    obtain ⟨⟨T, rfl, hT⟩, _⟩ := af
    have h0 : (Lo.tab.add T).l[0]? = some ⟨270, 270⟩ := rfl
    obtain ⟨_, _, ps, hps, _⟩ := st.lay.objs 0 _ _ h0 hz
    exact ⟨ps, hps⟩
end
end Mine
end
section
set_option maxRecDepth 100000
set_option maxHeartbeats 8000000
open PySem PySem.W PyProof.Rows
namespace Mine
theorem mk_gd {p : Program} {loose : List Str} {mean : ExcName → Option Value} {prog : Program} {w : World} {mg mb : Str → Option Value} {h : Heap} (T : Top p loose mean mg mb h) (X : (KK w.params).In h) (ht : h.get? 270 = some (tabObj #[])) (hf : ((prog.main.file : Str) == ("/claim/cut.py" : Str)) = true) (hs : (prog.main.scope.names.lookup ("super" : Str)).isSome = false) : Gd prog w h mg mb :=
  ⟨X, ht, T.g, T.b, T.nolimit, T.builtins, T.bmain, hf, hs⟩
theorem file_ok : ((PySem.Challenge.rw_sa0024_01.row.prog.main.file : Str) == ("/claim/cut.py" : Str)) = true := by decide +kernel
theorem super_ok : (PySem.Challenge.rw_sa0024_01.row.prog.main.scope.names.lookup ("super" : Str)).isSome = false := by decide +kernel
theorem good_end {mean : ExcName → Option Value} {args : List WData} {cl : Str → Option Addr} {s : Shared} (w : World) (X : (KK w.params).In s.heap) (ht : s.heap.get? 270 = some (tabObj #[])) (hg : s.gens = #[]) {h' : Heap} {tk : Nat} (k : ∀ b o, b ≠ 270 → s.heap.get? b = some o → h'.get? b = some o) (hp : ∃ ps, h'.get? 270 = some (tabObj ps)) :
    GoodWG PySem.Challenge.rw_sa0024_01.row.claim cl mean args s (.ok (.ret (.bool true))) { s with heap := h', toks := tk } := by
  refine ⟨.inl ⟨.bool true, .bool true, [], rfl, fun _ => rfl, .bool true, by with_unfolding_all rfl, fun _ => ⟨List.nodup_nil, fun a ha => by cases ha⟩⟩, ⟨fun b o e => ?_, fun b o e => ?_⟩, rfl, .of_eq hg⟩
  · by_cases hb : b = 270
    · subst hb
      rw [ht] at e
      cases e
      obtain ⟨ps, hps⟩ := hp
      refine .inr (.inl ⟨⟨272, _, _, X _ _ rfl, rfl, rfl, rfl⟩, rfl, #[], ps, rfl, ?_⟩)
      rw [hps]
      simp
    · exact .inl (k b o hb e)
  · by_cases hb : b = 270
    · subst hb
      obtain ⟨ps, hps⟩ := hp
      exact ⟨_, hps⟩
    · exact ⟨o, k b o hb e⟩
end Mine
end
section
open PySem.Calls
set_option autoImplicit false
set_option maxRecDepth 100000
set_option maxHeartbeats 8000000
theorem PySem.Challenge.cw_sa0024_01_holds : PySem.Challenge.rw_sa0024_01.Holds := by
  refine holds_law Mine.said fun said => ?_
  refine holds_open (q := Mine.qv) (loose := []) (Xt := fun s => xlAt Mine.qv [] s && recOk PySem.Challenge.rw_sa0024_01.row.records s) (XP := XL Mine.qv []) (Yf := Mine.kH.obs) (Ya := Mine.kH.val) (YP := Mine.kH.says) (N := 4178) Mine.left Mine.kH.of Mine.kH.keeps (fun s e => xl_of s (Bool.and_eq_true_iff.mp e).1) XL.keeps (by rfl) (by rfl) (by rfl) (fun s e => recFacts_of (Bool.and_eq_true_iff.mp e).2) (by rfl) said (by decide +kernel) ⟨rfl, rfl, rfl, rfl, rfl, by decide +kernel⟩ ?hw ?hc
  case hw => w_witness2
  intro w s₀ s₁ mg mb G Y fa o pm cd doc dV kV ho hd hcd hD hmg hg args vals as hpre hlay hrd hwl hlo
  have KX := km_in_of Y
  have hT8 := km_tabs_of Y
  refine Ground.open G ?_
  intro T B D TE TW
  have GD := Mine.mk_gd (prog := PySem.Challenge.rw_sa0024_01.row.prog) T KX (hT8 270 (List.mem_cons_self ..)) Mine.file_ok Mine.super_ok
  have hfa : fa = 273 := by
    have h1 := mg_of (n := ("law" : Str)) (v := .ref 273) KX T.g (by rfl)
    have h2 : mg ("law" : Str) = some (.ref fa) := hmg
    rw [h1] at h2
    exact (Value.ref.inj (Option.some.inj h2)).symm
  subst hfa
  clear hd hcd hD hmg ho B D TE TW Y G
  wrow_args hpre hlay hrd hwl hlo
  rename_i ns _ _ _ _ _ _ _ lst vs _ hl _ _ _ hI _ hlen _
  exact Mine.law_wp GD hl hI (by omega) fun h' tk k hp => Mine.good_end w KX (hT8 270 (List.mem_cons_self ..)) hg k hp
end
