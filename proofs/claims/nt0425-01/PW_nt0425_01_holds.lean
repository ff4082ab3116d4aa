import PyProof.Rows.All
import Wide.All
import OpenK.AllK
import Wide.FinOn
import Lean
import PySem.Challenge.RW_nt0425_01
open PySem PySem.W PySem.Calls PySem.Spec PyProof.Rows
set_option Elab.async false
set_option maxRecDepth 100000
set_option maxHeartbeats 4000000
namespace Mine
noncomputable def hd.view_39 : Program := by
  refine (?V : (a0 : Stmt) → (a1 : Stmt) → (a2 : Stmt) → (a3 : Stmt) → (a4 : Stmt) → (a5 : Stmt) → (a6 : Stmt) → (a7 : Stmt) → (a8 : Stmt) → (a9 : Stmt) → (a10 : Stmt) → (a11 : Stmt) → (a12 : Stmt) → (a13 : Stmt) → (a14 : Stmt) → (a15 : Stmt) → (a16 : Stmt) → (a17 : Stmt) → (a18 : Stmt) → (a19 : Stmt) → (a20 : Stmt) → (a21 : Stmt) → (a22 : Stmt) → (a23 : Stmt) → (a24 : Stmt) → (a25 : Stmt) → (a26 : Stmt) → (a27 : Stmt) → (a28 : Stmt) → (a29 : Stmt) → (a30 : Stmt) → PySem.Challenge.rw_nt0425_01.prog.main.body = [a0, a1, a2, a3, a4, a5, a6, a7, a8, a9, a10, a11, a12, a13, a14, a15, a16, a17, a18, a19, a20, a21, a22, a23, a24, a25, a26, a27, a28, a29, a30] → Program) _ _ _ _ _ _ _ _ _ _ _ _ _ _ _ _ _ _ _ _ _ _ _ _ _ _ _ _ _ _ _ rfl
  exact fun a0 a1 a2 a3 a4 a5 a6 a7 a8 a9 a10 a11 a12 a13 a14 a15 a16 a17 a18 a19 a20 a21 a22 a23 a24 a25 a26 a27 a28 a29 a30 _ => { PySem.Challenge.rw_nt0425_01.row.toRowW.prog with main := { PySem.Challenge.rw_nt0425_01.row.toRowW.prog.main with body := [a0, a1, a3, a4, a5, a7, a8, a9, a10, a11, a12, a14, a15, a16, a17, a18, a20, a22, a23, a24, a25, a26, a27, a28, a29, a30] } }
noncomputable def hd.heap_39 : Params → Frag := by
  refine (?F : (p0 : Arguments) → (b0 : List Stmt) → (s0 : Scope) → (p1 : Arguments) → (b1 : List Stmt) → (s1 : Scope) → (p2 : Arguments) → (b2 : List Stmt) → (s2 : Scope) → (p3 : Arguments) → (b3 : List Stmt) → (s3 : Scope) → (p4 : Arguments) → (b4 : List Stmt) → (s4 : Scope) → (p5 : Arguments) → (b5 : List Stmt) → (s5 : Scope) → (p6 : Arguments) → (b6 : List Stmt) → (s6 : Scope) → (p7 : Arguments) → (b7 : List Stmt) → (s7 : Scope) → (p8 : Arguments) → (b8 : List Stmt) → (s8 : Scope) → (p9 : Arguments) → (b9 : List Stmt) → (s9 : Scope) → (p10 : Arguments) → (b10 : List Stmt) → (s10 : Scope) → (p11 : Arguments) → (b11 : List Stmt) → (s11 : Scope) → (p12 : Arguments) → (b12 : List Stmt) → (s12 : Scope) → (p13 : Arguments) → (b13 : List Stmt) → (s13 : Scope) → (p14 : Arguments) → (b14 : List Stmt) → (s14 : Scope) → (p15 : Arguments) → (b15 : List Stmt) → (s15 : Scope) → (p16 : Arguments) → (b16 : List Stmt) → (s16 : Scope) → (p17 : Arguments) → (b17 : List Stmt) → (s17 : Scope) → (p18 : Arguments) → (b18 : List Stmt) → (s18 : Scope) → (p19 : Arguments) → (b19 : List Stmt) → (s19 : Scope) → (p20 : Arguments) → (b20 : List Stmt) → (s20 : Scope) → (p21 : Arguments) → (b21 : List Stmt) → (s21 : Scope) → (p22 : Arguments) → (b22 : List Stmt) → (s22 : Scope) → (p23 : Arguments) → (b23 : List Stmt) → (s23 : Scope) → (p24 : Arguments) → (b24 : List Stmt) → (s24 : Scope) → (p25 : Arguments) → (b25 : List Stmt) → (s25 : Scope) → (p26 : Arguments) → (b26 : List Stmt) → (s26 : Scope) → (p27 : Arguments) → (b27 : List Stmt) → (s27 : Scope) → (p28 : Arguments) → (b28 : List Stmt) → (s28 : Scope) → (p29 : Arguments) → (b29 : List Stmt) → (s29 : Scope) → (p30 : Arguments) → (b30 : List Stmt) → (s30 : Scope) → (p31 : Arguments) → (b31 : List Stmt) → (s31 : Scope) → (p32 : Arguments) → (b32 : List Stmt) → (s32 : Scope) → (p33 : Arguments) → (b33 : List Stmt) → (s33 : Scope) → (p34 : Arguments) → (b34 : List Stmt) → (s34 : Scope) → (p35 : Arguments) → (b35 : List Stmt) → (s35 : Scope) → (p36 : Arguments) → (b36 : List Stmt) → (s36 : Scope) → (p37 : Arguments) → (b37 : List Stmt) → (s37 : Scope) → (p38 : Arguments) → (b38 : List Stmt) → (s38 : Scope) → (p39 : Arguments) → (b39 : List Stmt) → (s39 : Scope) → (p40 : Arguments) → (b40 : List Stmt) → (s40 : Scope) → (p41 : Arguments) → (b41 : List Stmt) → (s41 : Scope) → (p42 : Arguments) → (b42 : List Stmt) → (s42 : Scope) → PySem.Challenge.rw_nt0425_01.prog.main.body = [.FunctionDef _ p0 b0 _ _ _ s0 _ _ _, _, _, .ClassDef _ _ _ [.FunctionDef _ p1 b1 _ _ _ s1 _ _ _] _ _ _ _ _ _ _, .ClassDef _ _ _ [_] _ _ _ _ _ _ _, .ClassDef _ _ _ [_] _ _ _ _ _ _ _, _, .FunctionDef _ p2 b2 _ _ _ s2 _ _ _, .ClassDef _ _ _ [.FunctionDef _ p3 b3 _ _ _ s3 _ _ _, .FunctionDef _ p4 b4 _ _ _ s4 _ _ _, .FunctionDef _ p5 b5 _ _ _ s5 _ _ _, .FunctionDef _ p6 b6 _ _ _ s6 _ _ _, .FunctionDef _ p7 b7 _ _ _ s7 _ _ _] _ _ _ _ _ _ _, .ClassDef _ _ _ [.FunctionDef _ p8 b8 _ _ _ s8 _ _ _, .FunctionDef _ p9 b9 _ _ _ s9 _ _ _, .FunctionDef _ p10 b10 _ _ _ s10 _ _ _, .FunctionDef _ p11 b11 _ _ _ s11 _ _ _] _ _ _ _ _ _ _, .ClassDef _ _ _ [.FunctionDef _ p12 b12 _ _ _ s12 _ _ _, .FunctionDef _ p13 b13 _ _ _ s13 _ _ _, .FunctionDef _ p14 b14 _ _ _ s14 _ _ _] _ _ _ _ _ _ _, .FunctionDef _ p15 b15 _ _ _ s15 _ _ _, .FunctionDef _ p16 b16 _ _ _ s16 _ _ _, _, .FunctionDef _ p17 b17 _ _ _ s17 _ _ _, .FunctionDef _ p18 b18 _ _ _ s18 _ _ _, .FunctionDef _ p19 b19 _ _ _ s19 _ _ _, .FunctionDef _ p20 b20 _ _ _ s20 _ _ _, .FunctionDef _ p21 b21 _ _ _ s21 _ _ _, _, .ClassDef _ _ _ [.FunctionDef _ p22 b22 _ _ _ s22 _ _ _, .FunctionDef _ p23 b23 _ _ _ s23 _ _ _, .FunctionDef _ p24 b24 _ _ _ s24 _ _ _, .FunctionDef _ p25 b25 _ _ _ s25 _ _ _, .FunctionDef _ p26 b26 _ _ _ s26 _ _ _, .FunctionDef _ p27 b27 _ _ _ s27 _ _ _, .FunctionDef _ p28 b28 _ _ _ s28 _ _ _, .FunctionDef _ p29 b29 _ _ _ s29 _ _ _, .FunctionDef _ p30 b30 _ _ _ s30 _ _ _, .FunctionDef _ p31 b31 _ _ _ s31 _ _ _, .FunctionDef _ p32 b32 _ _ _ s32 _ _ _, .FunctionDef _ p33 b33 _ _ _ s33 _ _ _] _ _ _ _ _ _ _, _, .FunctionDef _ p34 b34 _ _ _ s34 _ _ _, .FunctionDef _ p35 b35 _ _ _ s35 _ _ _, .FunctionDef _ p36 b36 _ _ _ s36 _ _ _, .FunctionDef _ p37 b37 _ _ _ s37 _ _ _, .FunctionDef _ p38 b38 _ _ _ s38 _ _ _, .FunctionDef _ p39 b39 _ _ _ s39 _ _ _, .FunctionDef _ p40 b40 _ _ _ s40 _ _ _, .FunctionDef _ p41 b41 _ _ _ s41 _ _ _, .FunctionDef _ p42 b42 _ _ _ s42 _ _ _] → Params → Frag) _ _ _ _ _ _ _ _ _ _ _ _ _ _ _ _ _ _ _ _ _ _ _ _ _ _ _ _ _ _ _ _ _ _ _ _ _ _ _ _ _ _ _ _ _ _ _ _ _ _ _ _ _ _ _ _ _ _ _ _ _ _ _ _ _ _ _ _ _ _ _ _ _ _ _ _ _ _ _ _ _ _ _ _ _ _ _ _ _ _ _ _ _ _ _ _ _ _ _ _ _ _ _ _ _ _ _ _ _ _ _ _ _ _ _ _ _ _ _ _ _ _ _ _ _ _ _ _ _ rfl
  exact fun p0 b0 s0 p1 b1 s1 p2 b2 s2 p3 b3 s3 p4 b4 s4 p5 b5 s5 p6 b6 s6 p7 b7 s7 p8 b8 s8 p9 b9 s9 p10 b10 s10 p11 b11 s11 p12 b12 s12 p13 b13 s13 p14 b14 s14 p15 b15 s15 p16 b16 s16 p17 b17 s17 p18 b18 s18 p19 b19 s19 p20 b20 s20 p21 b21 s21 p22 b22 s22 p23 b23 s23 p24 b24 s24 p25 b25 s25 p26 b26 s26 p27 b27 s27 p28 b28 s28 p29 b29 s29 p30 b30 s30 p31 b31 s31 p32 b32 s32 p33 b33 s33 p34 b34 s34 p35 b35 s35 p36 b36 s36 p37 b37 s37 p38 b38 s38 p39 b39 s39 p40 b40 s40 p41 b41 s41 p42 b42 s42 _ P => ((nat_lit 2), (.mk .none none (.dict #[(.mk (PyData.keyHash P (.ofString "type.__subclasses__.Exception.0")) (.str (.ofString "type.__subclasses__.Exception.0") 223) (.int 38 0)), (.mk (PyData.keyHash P (.ofString "type.__subclasses__.Exception.n")) (.str (.ofString "type.__subclasses__.Exception.n") 224) (.int 1 0))] 2) #[])) ::
  ((nat_lit 3), (.mk (.type "dict") none (.dict #[(.mk (PyData.keyHash P (.ofString "__name__")) (.str (.ofString "__name__") 165) (.str (.ofString "law_nt0425_01") 630)), (.mk (PyData.keyHash P (.ofString "__doc__")) (.str (.ofString "__doc__") 166) .none), (.mk (PyData.keyHash P (.ofString "__package__")) (.str (.ofString "__package__") 167) .none), (.mk (PyData.keyHash P (.ofString "__loader__")) (.str (.ofString "__loader__") 168) (.builtin "__main__.__loader__#opaque")), (.mk (PyData.keyHash P (.ofString "__spec__")) (.str (.ofString "__spec__") 169) .none), (.mk (PyData.keyHash P (.ofString "__annotations__")) (.str (.ofString "__annotations__") 170) (.ref 6)), (.mk (PyData.keyHash P (.ofString "__builtins__")) (.str (.ofString "__builtins__") 171) (.ref 4)), (.mk (PyData.keyHash P (.ofString "__file__")) (.str (.ofString "__file__") 173) (.str (.ofString "/claim/cut.py") 172)), (.mk (PyData.keyHash P (.ofString "__cached__")) (.str (.ofString "__cached__") 174) .none), (.mk (PyData.keyHash P (.ofString "_wall")) (.str (.ofString "_wall") 193) (.ref 21)), (.mk (PyData.keyHash P (.ofString "NO_MOVE")) (.str (.ofString "NO_MOVE") 195) (.int 0 194)), (.mk (PyData.keyHash P (.ofString "ChessError")) (.str (.ofString "ChessError") 226) (.ref 38)), (.mk (PyData.keyHash P (.ofString "BadMove")) (.str (.ofString "BadMove") 242) (.ref 51)), (.mk (PyData.keyHash P (.ofString "BadTable")) (.str (.ofString "BadTable") 258) (.ref 63)), (.mk (PyData.keyHash P (.ofString "scale_down")) (.str (.ofString "scale_down") 269) (.ref 72)), (.mk (PyData.keyHash P (.ofString "History")) (.str (.ofString "History") 338) (.ref 117)), (.mk (PyData.keyHash P (.ofString "Killers")) (.str (.ofString "Killers") 394) (.ref 159)), (.mk (PyData.keyHash P (.ofString "Counters")) (.str (.ofString "Counters") 441) (.ref 194)), (.mk (PyData.keyHash P (.ofString "reward")) (.str (.ofString "reward") 456) (.ref 205)), (.mk (PyData.keyHash P (.ofString "reward_counter")) (.str (.ofString "reward_counter") 466) (.ref 212)), (.mk (PyData.keyHash P (.ofString "insert_scored")) (.str (.ofString "insert_scored") 478) (.ref 219)), (.mk (PyData.keyHash P (.ofString "killer_pair")) (.str (.ofString "killer_pair") 486) (.ref 226)), (.mk (PyData.keyHash P (.ofString "past_score")) (.str (.ofString "past_score") 495) (.ref 233)), (.mk (PyData.keyHash P (.ofString "moves_of")) (.str (.ofString "moves_of") 501) (.ref 238)), (.mk (PyData.keyHash P (.ofString "order_moves")) (.str (.ofString "order_moves") 507) (.ref 243)), (.mk (PyData.keyHash P (.ofString "TreeGame")) (.str (.ofString "TreeGame") 629) (.ref 335)), (.mk (PyData.keyHash P (.ofString "_law_at")) (.str (.ofString "_law_at") 639) (.ref 346)), (.mk (PyData.keyHash P (.ofString "_law_rows")) (.str (.ofString "_law_rows") 645) (.ref 351)), (.mk (PyData.keyHash P (.ofString "_law_plain")) (.str (.ofString "_law_plain") 651) (.ref 356)), (.mk (PyData.keyHash P (.ofString "_law_drawn_back")) (.str (.ofString "_law_drawn_back") 661) (.ref 363)), (.mk (PyData.keyHash P (.ofString "_law_order")) (.str (.ofString "_law_order") 667) (.ref 368)), (.mk (PyData.keyHash P (.ofString "_law_note")) (.str (.ofString "_law_note") 686) (.ref 375)), (.mk (PyData.keyHash P (.ofString "_law_seek")) (.str (.ofString "_law_seek") 718) (.ref 382)), (.mk (PyData.keyHash P (.ofString "_law_is_refused")) (.str (.ofString "_law_is_refused") 725) (.ref 389)), (.mk (PyData.keyHash P (.ofString "law")) (.str (.ofString "law") 731) (.ref 394))] 35) #[])) ::
  ((nat_lit 15), (.mk (.type "tuple") none (.seq #[] 0) #[])) ::
  ((nat_lit 17), (.mk (.type "tuple") none (.seq #[(.str (.ofString "k") 190)] 0) #[])) ::
  ((nat_lit 18), (.mk (.type "tuple") none (.seq #[] 0) #[])) ::
  ((nat_lit 20), (.mk (.type "code") none (.fields #[(.str (.ofString "_wall") 187), (.str (.ofString "_wall") 188), (.str (.ofString "/claim/cut.py") 189), (.int 1 0), (.int 1 0), (.int 0 0), (.int 0 0), (.int 3 0), (.ref 15), (.bool true), (.int 181 0), (.ref 16), .none, (.ref 17), (.ref 18), (.ref 19), (.int 191 0), (.int 1 0), (.str (.ofString "/claim/cut.py") 192)]) #[])) ::
  ((nat_lit 21), (.mk (.type "function") none (.func (.mk (.ofString "_wall") (.ofString "_wall") p0 (.stmts b0) s0 3 [] .none .none .none (.str (.ofString "__main__") 164) none (.ref 20) .none 0)) #[])) ::
  ((nat_lit 22), (.mk (.type "tuple") none (.seq #[(.type "Exception")] 0) #[])) ::
  ((nat_lit 29), (.mk (.type "tuple") none (.seq #[] 0) #[])) ::
  ((nat_lit 31), (.mk (.type "tuple") none (.seq #[(.str (.ofString "self") 213), (.str (.ofString "text") 214)] 0) #[])) ::
  ((nat_lit 32), (.mk (.type "tuple") none (.seq #[] 0) #[])) ::
  ((nat_lit 34), (.mk (.type "code") none (.fields #[(.str (.ofString "__init__") 210), (.str (.ofString "ChessError.__init__") 211), (.str (.ofString "/claim/cut.py") 212), (.int 8 0), (.int 2 0), (.int 0 0), (.int 0 0), (.int 3 0), (.ref 29), (.bool true), (.int 181 0), (.ref 30), .none, (.ref 31), (.ref 32), (.ref 33), (.int 215 0), (.int 8 0), (.str (.ofString "/claim/cut.py") 216)]) #[])) ::
  ((nat_lit 35), (.mk (.type "function") none (.func (.mk (.ofString "__init__") (.ofString "ChessError.__init__") p1 (.stmts b1) s1 3 [] .none .none .none (.str (.ofString "chess.errors") 196) none (.ref 34) .none 0)) #[])) ::
  ((nat_lit 36), (.mk (.type "tuple") none (.seq #[(.str (.ofString "text") 218)] 0) #[])) ::
  ((nat_lit 37), (.mk (.type "dict") none (.dict #[(.mk (PyData.keyHash P (.ofString "__module__")) (.str (.ofString "__module__") 205) (.str (.ofString "chess.errors") 196)), (.mk (PyData.keyHash P (.ofString "__firstlineno__")) (.str (.ofString "__firstlineno__") 209) (.int 6 208)), (.mk (PyData.keyHash P (.ofString "__init__")) (.str (.ofString "__init__") 217) (.ref 35)), (.mk (PyData.keyHash P (.ofString "__static_attributes__")) (.str (.ofString "__static_attributes__") 219) (.ref 36)), (.mk (PyData.keyHash P (.ofString "__weakref__")) (.str (.ofString "__weakref__") 221) (.ref 39)), (.mk (PyData.keyHash P (.ofString "__doc__")) (.str (.ofString "__doc__") 222) .none)] 3) #[])) ::
  ((nat_lit 38), (.mk (.type "type") none (.cls (.mk (.ofString "ChessError") [(.type "Exception")] [(.ref 38), (.type "Exception"), (.type "BaseException"), (.type "object")] 37 (.ofString "ChessError") true [] [(.ref 51), (.ref 63)] false none false)) #[(some (.ref 22)), none, (some (.str (.ofString "ChessError") 198)), (some (.str (.ofString "ChessError") 206)), (some (.builtin "Exception.__new__")), (some (.bool true))])) ::
  ((nat_lit 39), (.mk (.type "getset_descriptor") none (.fields #[(.str (.ofString "__weakref__") 220), (.ref 38), (.builtin "ExceptionGroup.__weakref__"), .none]) #[])) ::
  ((nat_lit 42), (.mk (.type "tuple") none (.seq #[(.ref 38)] 0) #[])) ::
  ((nat_lit 49), (.mk (.type "tuple") none (.seq #[] 0) #[])) ::
  ((nat_lit 50), (.mk (.type "dict") none (.dict #[(.mk (PyData.keyHash P (.ofString "__module__")) (.str (.ofString "__module__") 234) (.str (.ofString "chess.errors") 196)), (.mk (PyData.keyHash P (.ofString "__firstlineno__")) (.str (.ofString "__firstlineno__") 238) (.int 11 237)), (.mk (PyData.keyHash P (.ofString "__static_attributes__")) (.str (.ofString "__static_attributes__") 239) (.ref 49)), (.mk (PyData.keyHash P (.ofString "__doc__")) (.str (.ofString "__doc__") 240) .none)] 2) #[])) ::
  ((nat_lit 51), (.mk (.type "type") none (.cls (.mk (.ofString "BadMove") [(.ref 38)] [(.ref 51), (.ref 38), (.type "Exception"), (.type "BaseException"), (.type "object")] 50 (.ofString "BadMove") true [] [] false none false)) #[(some (.ref 42)), none, (some (.str (.ofString "BadMove") 227)), (some (.str (.ofString "BadMove") 235)), (some (.builtin "Exception.__new__")), (some (.bool true))])) ::
  ((nat_lit 54), (.mk (.type "tuple") none (.seq #[(.ref 38)] 0) #[])) ::
  ((nat_lit 61), (.mk (.type "tuple") none (.seq #[] 0) #[])) ::
  ((nat_lit 62), (.mk (.type "dict") none (.dict #[(.mk (PyData.keyHash P (.ofString "__module__")) (.str (.ofString "__module__") 250) (.str (.ofString "chess.errors") 196)), (.mk (PyData.keyHash P (.ofString "__firstlineno__")) (.str (.ofString "__firstlineno__") 254) (.int 13 253)), (.mk (PyData.keyHash P (.ofString "__static_attributes__")) (.str (.ofString "__static_attributes__") 255) (.ref 61)), (.mk (PyData.keyHash P (.ofString "__doc__")) (.str (.ofString "__doc__") 256) .none)] 2) #[])) ::
  ((nat_lit 63), (.mk (.type "type") none (.cls (.mk (.ofString "BadTable") [(.ref 38)] [(.ref 63), (.ref 38), (.type "Exception"), (.type "BaseException"), (.type "object")] 62 (.ofString "BadTable") true [] [] false none false)) #[(some (.ref 54)), none, (some (.str (.ofString "BadTable") 243)), (some (.str (.ofString "BadTable") 251)), (some (.builtin "Exception.__new__")), (some (.bool true))])) ::
  ((nat_lit 66), (.mk (.type "tuple") none (.seq #[] 0) #[])) ::
  ((nat_lit 68), (.mk (.type "tuple") none (.seq #[(.str (.ofString "value") 264), (.str (.ofString "by") 265), (.str (.ofString "limit") 266)] 0) #[])) ::
  ((nat_lit 69), (.mk (.type "tuple") none (.seq #[] 0) #[])) ::
  ((nat_lit 71), (.mk (.type "code") none (.fields #[(.str (.ofString "scale_down") 261), (.str (.ofString "scale_down") 262), (.str (.ofString "/claim/cut.py") 263), (.int 16 0), (.int 3 0), (.int 0 0), (.int 0 0), (.int 3 0), (.ref 66), (.bool true), (.int 181 0), (.ref 67), .none, (.ref 68), (.ref 69), (.ref 70), (.int 267 0), (.int 16 0), (.str (.ofString "/claim/cut.py") 268)]) #[])) ::
  ((nat_lit 72), (.mk (.type "function") none (.func (.mk (.ofString "scale_down") (.ofString "scale_down") p2 (.stmts b2) s2 3 [] .none .none .none (.str (.ofString "chess.history") 259) none (.ref 71) .none 0)) #[])) ::
  ((nat_lit 80), (.mk (.type "tuple") none (.seq #[] 0) #[])) ::
  ((nat_lit 82), (.mk (.type "tuple") none (.seq #[(.str (.ofString "self") 285), (.str (.ofString "limit") 286)] 0) #[])) ::
  ((nat_lit 83), (.mk (.type "tuple") none (.seq #[] 0) #[])) ::
  ((nat_lit 85), (.mk (.type "code") none (.fields #[(.str (.ofString "__init__") 282), (.str (.ofString "History.__init__") 283), (.str (.ofString "/claim/cut.py") 284), (.int 22 0), (.int 2 0), (.int 0 0), (.int 0 0), (.int 3 0), (.ref 80), (.bool true), (.int 181 0), (.ref 81), .none, (.ref 82), (.ref 83), (.ref 84), (.int 287 0), (.int 22 0), (.str (.ofString "/claim/cut.py") 288)]) #[])) ::
  ((nat_lit 86), (.mk (.type "function") none (.func (.mk (.ofString "__init__") (.ofString "History.__init__") p3 (.stmts b3) s3 3 [] .none .none .none (.str (.ofString "chess.history") 259) none (.ref 85) .none 0)) #[])) ::
  ((nat_lit 87), (.mk (.type "tuple") none (.seq #[] 0) #[])) ::
  ((nat_lit 89), (.mk (.type "tuple") none (.seq #[(.str (.ofString "self") 293), (.str (.ofString "side") 294), (.str (.ofString "move") 295)] 0) #[])) ::
  ((nat_lit 90), (.mk (.type "tuple") none (.seq #[] 0) #[])) ::
  ((nat_lit 92), (.mk (.type "code") none (.fields #[(.str (.ofString "get") 290), (.str (.ofString "History.get") 291), (.str (.ofString "/claim/cut.py") 292), (.int 28 0), (.int 3 0), (.int 0 0), (.int 0 0), (.int 3 0), (.ref 87), (.bool true), (.int 181 0), (.ref 88), .none, (.ref 89), (.ref 90), (.ref 91), (.int 296 0), (.int 28 0), (.str (.ofString "/claim/cut.py") 297)]) #[])) ::
  ((nat_lit 93), (.mk (.type "function") none (.func (.mk (.ofString "get") (.ofString "History.get") p4 (.stmts b4) s4 3 [] .none .none .none (.str (.ofString "chess.history") 259) none (.ref 92) .none 0)) #[])) ::
  ((nat_lit 94), (.mk (.type "tuple") none (.seq #[] 0) #[])) ::
  ((nat_lit 96), (.mk (.type "tuple") none (.seq #[(.str (.ofString "self") 302), (.str (.ofString "side") 303), (.str (.ofString "move") 304), (.str (.ofString "bonus") 305), (.str (.ofString "at") 306), (.str (.ofString "old") 307)] 0) #[])) ::
  ((nat_lit 97), (.mk (.type "tuple") none (.seq #[] 0) #[])) ::
  ((nat_lit 99), (.mk (.type "code") none (.fields #[(.str (.ofString "update") 299), (.str (.ofString "History.update") 300), (.str (.ofString "/claim/cut.py") 301), (.int 31 0), (.int 4 0), (.int 0 0), (.int 0 0), (.int 3 0), (.ref 94), (.bool true), (.int 181 0), (.ref 95), .none, (.ref 96), (.ref 97), (.ref 98), (.int 308 0), (.int 31 0), (.str (.ofString "/claim/cut.py") 309)]) #[])) ::
  ((nat_lit 100), (.mk (.type "function") none (.func (.mk (.ofString "update") (.ofString "History.update") p5 (.stmts b5) s5 3 [] .none .none .none (.str (.ofString "chess.history") 259) none (.ref 99) .none 0)) #[])) ::
  ((nat_lit 101), (.mk (.type "tuple") none (.seq #[] 0) #[])) ::
  ((nat_lit 103), (.mk (.type "tuple") none (.seq #[(.str (.ofString "self") 314), (.str (.ofString "depth") 315)] 0) #[])) ::
  ((nat_lit 104), (.mk (.type "tuple") none (.seq #[] 0) #[])) ::
  ((nat_lit 106), (.mk (.type "code") none (.fields #[(.str (.ofString "bonus") 311), (.str (.ofString "History.bonus") 312), (.str (.ofString "/claim/cut.py") 313), (.int 37 0), (.int 2 0), (.int 0 0), (.int 0 0), (.int 3 0), (.ref 101), (.bool true), (.int 181 0), (.ref 102), .none, (.ref 103), (.ref 104), (.ref 105), (.int 316 0), (.int 37 0), (.str (.ofString "/claim/cut.py") 317)]) #[])) ::
  ((nat_lit 107), (.mk (.type "function") none (.func (.mk (.ofString "bonus") (.ofString "History.bonus") p6 (.stmts b6) s6 3 [] .none .none .none (.str (.ofString "chess.history") 259) none (.ref 106) .none 0)) #[])) ::
  ((nat_lit 108), (.mk (.type "tuple") none (.seq #[] 0) #[])) ::
  ((nat_lit 110), (.mk (.type "tuple") none (.seq #[(.str (.ofString "self") 322), (.str (.ofString "kept") 323), (.str (.ofString "at") 324), (.str (.ofString "half") 325)] 0) #[])) ::
  ((nat_lit 111), (.mk (.type "tuple") none (.seq #[] 0) #[])) ::
  ((nat_lit 113), (.mk (.type "code") none (.fields #[(.str (.ofString "age") 319), (.str (.ofString "History.age") 320), (.str (.ofString "/claim/cut.py") 321), (.int 40 0), (.int 1 0), (.int 0 0), (.int 0 0), (.int 3 0), (.ref 108), (.bool true), (.int 181 0), (.ref 109), .none, (.ref 110), (.ref 111), (.ref 112), (.int 326 0), (.int 40 0), (.str (.ofString "/claim/cut.py") 327)]) #[])) ::
  ((nat_lit 114), (.mk (.type "function") none (.func (.mk (.ofString "age") (.ofString "History.age") p7 (.stmts b7) s7 3 [] .none .none .none (.str (.ofString "chess.history") 259) none (.ref 113) .none 0)) #[])) ::
  ((nat_lit 115), (.mk (.type "tuple") none (.seq #[(.str (.ofString "limit") 329), (.str (.ofString "scores") 330)] 0) #[])) ::
  ((nat_lit 116), (.mk (.type "dict") none (.dict #[(.mk (PyData.keyHash P (.ofString "__module__")) (.str (.ofString "__module__") 277) (.str (.ofString "chess.history") 259)), (.mk (PyData.keyHash P (.ofString "__firstlineno__")) (.str (.ofString "__firstlineno__") 281) (.int 20 280)), (.mk (PyData.keyHash P (.ofString "__init__")) (.str (.ofString "__init__") 289) (.ref 86)), (.mk (PyData.keyHash P (.ofString "get")) (.str (.ofString "get") 298) (.ref 93)), (.mk (PyData.keyHash P (.ofString "update")) (.str (.ofString "update") 310) (.ref 100)), (.mk (PyData.keyHash P (.ofString "bonus")) (.str (.ofString "bonus") 318) (.ref 107)), (.mk (PyData.keyHash P (.ofString "age")) (.str (.ofString "age") 328) (.ref 114)), (.mk (PyData.keyHash P (.ofString "__static_attributes__")) (.str (.ofString "__static_attributes__") 331) (.ref 115)), (.mk (PyData.keyHash P (.ofString "__dict__")) (.str (.ofString "__dict__") 333) (.ref 118)), (.mk (PyData.keyHash P (.ofString "__weakref__")) (.str (.ofString "__weakref__") 335) (.ref 119)), (.mk (PyData.keyHash P (.ofString "__doc__")) (.str (.ofString "__doc__") 336) .none)] 4) #[])) ::
  ((nat_lit 117), (.mk (.type "type") none (.cls (.mk (.ofString "History") [(.type "object")] [(.ref 117), (.type "object")] 116 (.ofString "History") true [] [] false none false)) #[none, none, (some (.str (.ofString "History") 270)), (some (.str (.ofString "History") 278)), (some (.builtin "object.__new__")), (some (.bool true))])) ::
  ((nat_lit 118), (.mk (.type "getset_descriptor") none (.fields #[(.str (.ofString "__dict__") 332), (.ref 117), (.builtin "function.__dict__"), (.builtin "function.__dict__#set")]) #[])) ::
  ((nat_lit 119), (.mk (.type "getset_descriptor") none (.fields #[(.str (.ofString "__weakref__") 334), (.ref 117), (.builtin "ExceptionGroup.__weakref__"), .none]) #[])) ::
  ((nat_lit 129), (.mk (.type "tuple") none (.seq #[] 0) #[])) ::
  ((nat_lit 131), (.mk (.type "tuple") none (.seq #[(.str (.ofString "self") 354), (.str (.ofString "plies") 355)] 0) #[])) ::
  ((nat_lit 132), (.mk (.type "tuple") none (.seq #[] 0) #[])) ::
  ((nat_lit 134), (.mk (.type "code") none (.fields #[(.str (.ofString "__init__") 351), (.str (.ofString "Killers.__init__") 352), (.str (.ofString "/claim/cut.py") 353), (.int 49 0), (.int 2 0), (.int 0 0), (.int 0 0), (.int 3 0), (.ref 129), (.bool true), (.int 181 0), (.ref 130), .none, (.ref 131), (.ref 132), (.ref 133), (.int 356 0), (.int 49 0), (.str (.ofString "/claim/cut.py") 357)]) #[])) ::
  ((nat_lit 135), (.mk (.type "function") none (.func (.mk (.ofString "__init__") (.ofString "Killers.__init__") p8 (.stmts b8) s8 3 [] .none .none .none (.str (.ofString "chess.history") 259) none (.ref 134) .none 0)) #[])) ::
  ((nat_lit 136), (.mk (.type "tuple") none (.seq #[] 0) #[])) ::
  ((nat_lit 138), (.mk (.type "tuple") none (.seq #[(.str (.ofString "self") 362), (.str (.ofString "ply") 363), (.str (.ofString "move") 364)] 0) #[])) ::
  ((nat_lit 139), (.mk (.type "tuple") none (.seq #[] 0) #[])) ::
  ((nat_lit 141), (.mk (.type "code") none (.fields #[(.str (.ofString "add") 359), (.str (.ofString "Killers.add") 360), (.str (.ofString "/claim/cut.py") 361), (.int 54 0), (.int 3 0), (.int 0 0), (.int 0 0), (.int 3 0), (.ref 136), (.bool true), (.int 181 0), (.ref 137), .none, (.ref 138), (.ref 139), (.ref 140), (.int 365 0), (.int 54 0), (.str (.ofString "/claim/cut.py") 366)]) #[])) ::
  ((nat_lit 142), (.mk (.type "function") none (.func (.mk (.ofString "add") (.ofString "Killers.add") p9 (.stmts b9) s9 3 [] .none .none .none (.str (.ofString "chess.history") 259) none (.ref 141) .none 0)) #[])) ::
  ((nat_lit 143), (.mk (.type "tuple") none (.seq #[] 0) #[])) ::
  ((nat_lit 145), (.mk (.type "tuple") none (.seq #[(.str (.ofString "self") 371), (.str (.ofString "ply") 372)] 0) #[])) ::
  ((nat_lit 146), (.mk (.type "tuple") none (.seq #[] 0) #[])) ::
  ((nat_lit 148), (.mk (.type "code") none (.fields #[(.str (.ofString "pair") 368), (.str (.ofString "Killers.pair") 369), (.str (.ofString "/claim/cut.py") 370), (.int 59 0), (.int 2 0), (.int 0 0), (.int 0 0), (.int 3 0), (.ref 143), (.bool true), (.int 181 0), (.ref 144), .none, (.ref 145), (.ref 146), (.ref 147), (.int 373 0), (.int 59 0), (.str (.ofString "/claim/cut.py") 374)]) #[])) ::
  ((nat_lit 149), (.mk (.type "function") none (.func (.mk (.ofString "pair") (.ofString "Killers.pair") p10 (.stmts b10) s10 3 [] .none .none .none (.str (.ofString "chess.history") 259) none (.ref 148) .none 0)) #[])) ::
  ((nat_lit 150), (.mk (.type "tuple") none (.seq #[] 0) #[])) ::
  ((nat_lit 152), (.mk (.type "tuple") none (.seq #[(.str (.ofString "self") 379), (.str (.ofString "ply") 380)] 0) #[])) ::
  ((nat_lit 153), (.mk (.type "tuple") none (.seq #[] 0) #[])) ::
  ((nat_lit 155), (.mk (.type "code") none (.fields #[(.str (.ofString "clear") 376), (.str (.ofString "Killers.clear") 377), (.str (.ofString "/claim/cut.py") 378), (.int 64 0), (.int 2 0), (.int 0 0), (.int 0 0), (.int 3 0), (.ref 150), (.bool true), (.int 181 0), (.ref 151), .none, (.ref 152), (.ref 153), (.ref 154), (.int 381 0), (.int 64 0), (.str (.ofString "/claim/cut.py") 382)]) #[])) ::
  ((nat_lit 156), (.mk (.type "function") none (.func (.mk (.ofString "clear") (.ofString "Killers.clear") p11 (.stmts b11) s11 3 [] .none .none .none (.str (.ofString "chess.history") 259) none (.ref 155) .none 0)) #[])) ::
  ((nat_lit 157), (.mk (.type "tuple") none (.seq #[(.str (.ofString "first") 384), (.str (.ofString "plies") 385), (.str (.ofString "second") 386)] 0) #[])) ::
  ((nat_lit 158), (.mk (.type "dict") none (.dict #[(.mk (PyData.keyHash P (.ofString "__module__")) (.str (.ofString "__module__") 346) (.str (.ofString "chess.history") 259)), (.mk (PyData.keyHash P (.ofString "__firstlineno__")) (.str (.ofString "__firstlineno__") 350) (.int 47 349)), (.mk (PyData.keyHash P (.ofString "__init__")) (.str (.ofString "__init__") 358) (.ref 135)), (.mk (PyData.keyHash P (.ofString "add")) (.str (.ofString "add") 367) (.ref 142)), (.mk (PyData.keyHash P (.ofString "pair")) (.str (.ofString "pair") 375) (.ref 149)), (.mk (PyData.keyHash P (.ofString "clear")) (.str (.ofString "clear") 383) (.ref 156)), (.mk (PyData.keyHash P (.ofString "__static_attributes__")) (.str (.ofString "__static_attributes__") 387) (.ref 157)), (.mk (PyData.keyHash P (.ofString "__dict__")) (.str (.ofString "__dict__") 389) (.ref 160)), (.mk (PyData.keyHash P (.ofString "__weakref__")) (.str (.ofString "__weakref__") 391) (.ref 161)), (.mk (PyData.keyHash P (.ofString "__doc__")) (.str (.ofString "__doc__") 392) .none)] 4) #[])) ::
  ((nat_lit 159), (.mk (.type "type") none (.cls (.mk (.ofString "Killers") [(.type "object")] [(.ref 159), (.type "object")] 158 (.ofString "Killers") true [] [] false none false)) #[none, none, (some (.str (.ofString "Killers") 339)), (some (.str (.ofString "Killers") 347)), (some (.builtin "object.__new__")), (some (.bool true))])) ::
  ((nat_lit 160), (.mk (.type "getset_descriptor") none (.fields #[(.str (.ofString "__dict__") 388), (.ref 159), (.builtin "function.__dict__"), (.builtin "function.__dict__#set")]) #[])) ::
  ((nat_lit 161), (.mk (.type "getset_descriptor") none (.fields #[(.str (.ofString "__weakref__") 390), (.ref 159), (.builtin "ExceptionGroup.__weakref__"), .none]) #[])) ::
  ((nat_lit 171), (.mk (.type "tuple") none (.seq #[] 0) #[])) ::
  ((nat_lit 173), (.mk (.type "tuple") none (.seq #[(.str (.ofString "self") 410)] 0) #[])) ::
  ((nat_lit 174), (.mk (.type "tuple") none (.seq #[] 0) #[])) ::
  ((nat_lit 176), (.mk (.type "code") none (.fields #[(.str (.ofString "__init__") 407), (.str (.ofString "Counters.__init__") 408), (.str (.ofString "/claim/cut.py") 409), (.int 70 0), (.int 1 0), (.int 0 0), (.int 0 0), (.int 3 0), (.ref 171), (.bool true), (.int 181 0), (.ref 172), .none, (.ref 173), (.ref 174), (.ref 175), (.int 411 0), (.int 70 0), (.str (.ofString "/claim/cut.py") 412)]) #[])) ::
  ((nat_lit 177), (.mk (.type "function") none (.func (.mk (.ofString "__init__") (.ofString "Counters.__init__") p12 (.stmts b12) s12 3 [] .none .none .none (.str (.ofString "chess.history") 259) none (.ref 176) .none 0)) #[])) ::
  ((nat_lit 178), (.mk (.type "tuple") none (.seq #[] 0) #[])) ::
  ((nat_lit 180), (.mk (.type "tuple") none (.seq #[(.str (.ofString "self") 417), (.str (.ofString "side") 418), (.str (.ofString "earlier") 419)] 0) #[])) ::
  ((nat_lit 181), (.mk (.type "tuple") none (.seq #[] 0) #[])) ::
  ((nat_lit 183), (.mk (.type "code") none (.fields #[(.str (.ofString "get") 414), (.str (.ofString "Counters.get") 415), (.str (.ofString "/claim/cut.py") 416), (.int 73 0), (.int 3 0), (.int 0 0), (.int 0 0), (.int 3 0), (.ref 178), (.bool true), (.int 181 0), (.ref 179), .none, (.ref 180), (.ref 181), (.ref 182), (.int 420 0), (.int 73 0), (.str (.ofString "/claim/cut.py") 421)]) #[])) ::
  ((nat_lit 184), (.mk (.type "function") none (.func (.mk (.ofString "get") (.ofString "Counters.get") p13 (.stmts b13) s13 3 [] .none .none .none (.str (.ofString "chess.history") 259) none (.ref 183) .none 0)) #[])) ::
  ((nat_lit 185), (.mk (.type "tuple") none (.seq #[] 0) #[])) ::
  ((nat_lit 187), (.mk (.type "tuple") none (.seq #[(.str (.ofString "self") 426), (.str (.ofString "side") 427), (.str (.ofString "earlier") 428), (.str (.ofString "move") 429)] 0) #[])) ::
  ((nat_lit 188), (.mk (.type "tuple") none (.seq #[] 0) #[])) ::
  ((nat_lit 190), (.mk (.type "code") none (.fields #[(.str (.ofString "put") 423), (.str (.ofString "Counters.put") 424), (.str (.ofString "/claim/cut.py") 425), (.int 76 0), (.int 4 0), (.int 0 0), (.int 0 0), (.int 3 0), (.ref 185), (.bool true), (.int 181 0), (.ref 186), .none, (.ref 187), (.ref 188), (.ref 189), (.int 430 0), (.int 76 0), (.str (.ofString "/claim/cut.py") 431)]) #[])) ::
  ((nat_lit 191), (.mk (.type "function") none (.func (.mk (.ofString "put") (.ofString "Counters.put") p14 (.stmts b14) s14 3 [] .none .none .none (.str (.ofString "chess.history") 259) none (.ref 190) .none 0)) #[])) ::
  ((nat_lit 192), (.mk (.type "tuple") none (.seq #[(.str (.ofString "replies") 433)] 0) #[])) ::
  ((nat_lit 193), (.mk (.type "dict") none (.dict #[(.mk (PyData.keyHash P (.ofString "__module__")) (.str (.ofString "__module__") 402) (.str (.ofString "chess.history") 259)), (.mk (PyData.keyHash P (.ofString "__firstlineno__")) (.str (.ofString "__firstlineno__") 406) (.int 68 405)), (.mk (PyData.keyHash P (.ofString "__init__")) (.str (.ofString "__init__") 413) (.ref 177)), (.mk (PyData.keyHash P (.ofString "get")) (.str (.ofString "get") 422) (.ref 184)), (.mk (PyData.keyHash P (.ofString "put")) (.str (.ofString "put") 432) (.ref 191)), (.mk (PyData.keyHash P (.ofString "__static_attributes__")) (.str (.ofString "__static_attributes__") 434) (.ref 192)), (.mk (PyData.keyHash P (.ofString "__dict__")) (.str (.ofString "__dict__") 436) (.ref 195)), (.mk (PyData.keyHash P (.ofString "__weakref__")) (.str (.ofString "__weakref__") 438) (.ref 196)), (.mk (PyData.keyHash P (.ofString "__doc__")) (.str (.ofString "__doc__") 439) .none)] 4) #[])) ::
  ((nat_lit 194), (.mk (.type "type") none (.cls (.mk (.ofString "Counters") [(.type "object")] [(.ref 194), (.type "object")] 193 (.ofString "Counters") true [] [] false none false)) #[none, none, (some (.str (.ofString "Counters") 395)), (some (.str (.ofString "Counters") 403)), (some (.builtin "object.__new__")), (some (.bool true))])) ::
  ((nat_lit 195), (.mk (.type "getset_descriptor") none (.fields #[(.str (.ofString "__dict__") 435), (.ref 194), (.builtin "function.__dict__"), (.builtin "function.__dict__#set")]) #[])) ::
  ((nat_lit 196), (.mk (.type "getset_descriptor") none (.fields #[(.str (.ofString "__weakref__") 437), (.ref 194), (.builtin "ExceptionGroup.__weakref__"), .none]) #[])) ::
  ((nat_lit 199), (.mk (.type "tuple") none (.seq #[] 0) #[])) ::
  ((nat_lit 201), (.mk (.type "tuple") none (.seq #[(.str (.ofString "history") 445), (.str (.ofString "killers") 446), (.str (.ofString "side") 447), (.str (.ofString "ply") 448), (.str (.ofString "depth") 449), (.str (.ofString "best") 450), (.str (.ofString "tried") 451), (.str (.ofString "bonus") 452), (.str (.ofString "move") 453)] 0) #[])) ::
  ((nat_lit 202), (.mk (.type "tuple") none (.seq #[] 0) #[])) ::
  ((nat_lit 204), (.mk (.type "code") none (.fields #[(.str (.ofString "reward") 442), (.str (.ofString "reward") 443), (.str (.ofString "/claim/cut.py") 444), (.int 79 0), (.int 7 0), (.int 0 0), (.int 0 0), (.int 3 0), (.ref 199), (.bool true), (.int 181 0), (.ref 200), .none, (.ref 201), (.ref 202), (.ref 203), (.int 454 0), (.int 79 0), (.str (.ofString "/claim/cut.py") 455)]) #[])) ::
  ((nat_lit 205), (.mk (.type "function") none (.func (.mk (.ofString "reward") (.ofString "reward") p15 (.stmts b15) s15 3 [] .none .none .none (.str (.ofString "chess.history") 259) none (.ref 204) .none 0)) #[])) ::
  ((nat_lit 206), (.mk (.type "tuple") none (.seq #[] 0) #[])) ::
  ((nat_lit 208), (.mk (.type "tuple") none (.seq #[(.str (.ofString "counters") 460), (.str (.ofString "side") 461), (.str (.ofString "earlier") 462), (.str (.ofString "best") 463)] 0) #[])) ::
  ((nat_lit 209), (.mk (.type "tuple") none (.seq #[] 0) #[])) ::
  ((nat_lit 211), (.mk (.type "code") none (.fields #[(.str (.ofString "reward_counter") 457), (.str (.ofString "reward_counter") 458), (.str (.ofString "/claim/cut.py") 459), (.int 86 0), (.int 4 0), (.int 0 0), (.int 0 0), (.int 3 0), (.ref 206), (.bool true), (.int 181 0), (.ref 207), .none, (.ref 208), (.ref 209), (.ref 210), (.int 464 0), (.int 86 0), (.str (.ofString "/claim/cut.py") 465)]) #[])) ::
  ((nat_lit 212), (.mk (.type "function") none (.func (.mk (.ofString "reward_counter") (.ofString "reward_counter") p16 (.stmts b16) s16 3 [] .none .none .none (.str (.ofString "chess.history") 259) none (.ref 211) .none 0)) #[])) ::
  ((nat_lit 213), (.mk (.type "tuple") none (.seq #[] 0) #[])) ::
  ((nat_lit 215), (.mk (.type "tuple") none (.seq #[(.str (.ofString "scored") 472), (.str (.ofString "score") 473), (.str (.ofString "move") 474), (.str (.ofString "at") 475)] 0) #[])) ::
  ((nat_lit 216), (.mk (.type "tuple") none (.seq #[] 0) #[])) ::
  ((nat_lit 218), (.mk (.type "code") none (.fields #[(.str (.ofString "insert_scored") 469), (.str (.ofString "insert_scored") 470), (.str (.ofString "/claim/cut.py") 471), (.int 89 0), (.int 3 0), (.int 0 0), (.int 0 0), (.int 3 0), (.ref 213), (.bool true), (.int 181 0), (.ref 214), .none, (.ref 215), (.ref 216), (.ref 217), (.int 476 0), (.int 89 0), (.str (.ofString "/claim/cut.py") 477)]) #[])) ::
  ((nat_lit 219), (.mk (.type "function") none (.func (.mk (.ofString "insert_scored") (.ofString "insert_scored") p17 (.stmts b17) s17 3 [] .none .none .none (.str (.ofString "chess.picker") 467) none (.ref 218) .none 0)) #[])) ::
  ((nat_lit 220), (.mk (.type "tuple") none (.seq #[] 0) #[])) ::
  ((nat_lit 222), (.mk (.type "tuple") none (.seq #[(.str (.ofString "killers") 482), (.str (.ofString "ply") 483)] 0) #[])) ::
  ((nat_lit 223), (.mk (.type "tuple") none (.seq #[] 0) #[])) ::
  ((nat_lit 225), (.mk (.type "code") none (.fields #[(.str (.ofString "killer_pair") 479), (.str (.ofString "killer_pair") 480), (.str (.ofString "/claim/cut.py") 481), (.int 94 0), (.int 2 0), (.int 0 0), (.int 0 0), (.int 3 0), (.ref 220), (.bool true), (.int 181 0), (.ref 221), .none, (.ref 222), (.ref 223), (.ref 224), (.int 484 0), (.int 94 0), (.str (.ofString "/claim/cut.py") 485)]) #[])) ::
  ((nat_lit 226), (.mk (.type "function") none (.func (.mk (.ofString "killer_pair") (.ofString "killer_pair") p18 (.stmts b18) s18 3 [] .none .none .none (.str (.ofString "chess.picker") 467) none (.ref 225) .none 0)) #[])) ::
  ((nat_lit 227), (.mk (.type "tuple") none (.seq #[] 0) #[])) ::
  ((nat_lit 229), (.mk (.type "tuple") none (.seq #[(.str (.ofString "history") 490), (.str (.ofString "side") 491), (.str (.ofString "move") 492)] 0) #[])) ::
  ((nat_lit 230), (.mk (.type "tuple") none (.seq #[] 0) #[])) ::
  ((nat_lit 232), (.mk (.type "code") none (.fields #[(.str (.ofString "past_score") 487), (.str (.ofString "past_score") 488), (.str (.ofString "/claim/cut.py") 489), (.int 98 0), (.int 3 0), (.int 0 0), (.int 0 0), (.int 3 0), (.ref 227), (.bool true), (.int 181 0), (.ref 228), .none, (.ref 229), (.ref 230), (.ref 231), (.int 493 0), (.int 98 0), (.str (.ofString "/claim/cut.py") 494)]) #[])) ::
  ((nat_lit 233), (.mk (.type "function") none (.func (.mk (.ofString "past_score") (.ofString "past_score") p19 (.stmts b19) s19 3 [] .none .none .none (.str (.ofString "chess.picker") 467) none (.ref 232) .none 0)) #[])) ::
  ((nat_lit 234), (.mk (.type "tuple") none (.seq #[] 0) #[])) ::
  ((nat_lit 237), (.mk (.type "code") none (.fields #[(.str (.ofString "moves_of") 496), (.str (.ofString "moves_of") 497), (.str (.ofString "/claim/cut.py") 498), (.int 102 0), (.int 1 0), (.int 0 0), (.int 0 0), (.int 3 0), (.ref 234), (.bool true), (.int 181 0), (.ref 235), .none, .none, .none, (.ref 236), (.int 499 0), (.int 102 0), (.str (.ofString "/claim/cut.py") 500)]) #[])) ::
  ((nat_lit 238), (.mk (.type "function") none (.func (.mk (.ofString "moves_of") (.ofString "moves_of") p20 (.stmts b20) s20 3 [] .none .none .none (.str (.ofString "chess.picker") 467) none (.ref 237) .none 0)) #[])) ::
  ((nat_lit 239), (.mk (.type "tuple") none (.seq #[] 0) #[])) ::
  ((nat_lit 242), (.mk (.type "code") none (.fields #[(.str (.ofString "order_moves") 502), (.str (.ofString "order_moves") 503), (.str (.ofString "/claim/cut.py") 504), (.int 104 0), (.int 6 0), (.int 0 0), (.int 0 0), (.int 3 0), (.ref 239), (.bool true), (.int 181 0), (.ref 240), .none, .none, .none, (.ref 241), (.int 505 0), (.int 104 0), (.str (.ofString "/claim/cut.py") 506)]) #[])) ::
  ((nat_lit 243), (.mk (.type "function") none (.func (.mk (.ofString "order_moves") (.ofString "order_moves") p21 (.stmts b21) s21 3 [] .none .none .none (.str (.ofString "chess.picker") 467) none (.ref 242) .none 0)) #[])) ::
  ((nat_lit 251), (.mk (.type "tuple") none (.seq #[] 0) #[])) ::
  ((nat_lit 253), (.mk (.type "tuple") none (.seq #[(.str (.ofString "self") 525), (.str (.ofString "children") 526), (.str (.ofString "values") 527), (.str (.ofString "checks") 528), (.str (.ofString "draws") 529), (.str (.ofString "noisy") 530), (.str (.ofString "gains") 531)] 0) #[])) ::
  ((nat_lit 254), (.mk (.type "tuple") none (.seq #[] 0) #[])) ::
  ((nat_lit 256), (.mk (.type "code") none (.fields #[(.str (.ofString "__init__") 522), (.str (.ofString "TreeGame.__init__") 523), (.str (.ofString "/claim/cut.py") 524), (.int 129 0), (.int 7 0), (.int 0 0), (.int 0 0), (.int 3 0), (.ref 251), (.bool true), (.int 181 0), (.ref 252), .none, (.ref 253), (.ref 254), (.ref 255), (.int 532 0), (.int 129 0), (.str (.ofString "/claim/cut.py") 533)]) #[])) ::
  ((nat_lit 257), (.mk (.type "function") none (.func (.mk (.ofString "__init__") (.ofString "TreeGame.__init__") p22 (.stmts b22) s22 3 [] .none .none .none (.str (.ofString "chess.treegame") 508) none (.ref 256) .none 0)) #[])) ::
  ((nat_lit 258), (.mk (.type "tuple") none (.seq #[] 0) #[])) ::
  ((nat_lit 260), (.mk (.type "tuple") none (.seq #[(.str (.ofString "self") 538)] 0) #[])) ::
  ((nat_lit 261), (.mk (.type "tuple") none (.seq #[] 0) #[])) ::
  ((nat_lit 263), (.mk (.type "code") none (.fields #[(.str (.ofString "moves") 535), (.str (.ofString "TreeGame.moves") 536), (.str (.ofString "/claim/cut.py") 537), (.int 138 0), (.int 1 0), (.int 0 0), (.int 0 0), (.int 3 0), (.ref 258), (.bool true), (.int 181 0), (.ref 259), .none, (.ref 260), (.ref 261), (.ref 262), (.int 539 0), (.int 138 0), (.str (.ofString "/claim/cut.py") 540)]) #[])) ::
  ((nat_lit 264), (.mk (.type "function") none (.func (.mk (.ofString "moves") (.ofString "TreeGame.moves") p23 (.stmts b23) s23 3 [] .none .none .none (.str (.ofString "chess.treegame") 508) none (.ref 263) .none 0)) #[])) ::
  ((nat_lit 265), (.mk (.type "tuple") none (.seq #[] 0) #[])) ::
  ((nat_lit 268), (.mk (.type "code") none (.fields #[(.str (.ofString "noisy") 542), (.str (.ofString "TreeGame.noisy") 543), (.str (.ofString "/claim/cut.py") 544), (.int 141 0), (.int 1 0), (.int 0 0), (.int 0 0), (.int 3 0), (.ref 265), (.bool true), (.int 181 0), (.ref 266), .none, .none, .none, (.ref 267), (.int 545 0), (.int 141 0), (.str (.ofString "/claim/cut.py") 546)]) #[])) ::
  ((nat_lit 269), (.mk (.type "function") none (.func (.mk (.ofString "noisy") (.ofString "TreeGame.noisy") p24 (.stmts b24) s24 3 [] .none .none .none (.str (.ofString "chess.treegame") 508) none (.ref 268) .none 0)) #[])) ::
  ((nat_lit 270), (.mk (.type "tuple") none (.seq #[] 0) #[])) ::
  ((nat_lit 272), (.mk (.type "tuple") none (.seq #[(.str (.ofString "self") 551), (.str (.ofString "move") 552), (.str (.ofString "kids") 553)] 0) #[])) ::
  ((nat_lit 273), (.mk (.type "tuple") none (.seq #[] 0) #[])) ::
  ((nat_lit 275), (.mk (.type "code") none (.fields #[(.str (.ofString "make") 548), (.str (.ofString "TreeGame.make") 549), (.str (.ofString "/claim/cut.py") 550), (.int 144 0), (.int 2 0), (.int 0 0), (.int 0 0), (.int 3 0), (.ref 270), (.bool true), (.int 181 0), (.ref 271), .none, (.ref 272), (.ref 273), (.ref 274), (.int 554 0), (.int 144 0), (.str (.ofString "/claim/cut.py") 555)]) #[])) ::
  ((nat_lit 276), (.mk (.type "function") none (.func (.mk (.ofString "make") (.ofString "TreeGame.make") p25 (.stmts b25) s25 3 [] .none .none .none (.str (.ofString "chess.treegame") 508) none (.ref 275) .none 0)) #[])) ::
  ((nat_lit 277), (.mk (.type "tuple") none (.seq #[] 0) #[])) ::
  ((nat_lit 279), (.mk (.type "tuple") none (.seq #[(.str (.ofString "self") 560)] 0) #[])) ::
  ((nat_lit 280), (.mk (.type "tuple") none (.seq #[] 0) #[])) ::
  ((nat_lit 282), (.mk (.type "code") none (.fields #[(.str (.ofString "undo") 557), (.str (.ofString "TreeGame.undo") 558), (.str (.ofString "/claim/cut.py") 559), (.int 150 0), (.int 1 0), (.int 0 0), (.int 0 0), (.int 3 0), (.ref 277), (.bool true), (.int 181 0), (.ref 278), .none, (.ref 279), (.ref 280), (.ref 281), (.int 561 0), (.int 150 0), (.str (.ofString "/claim/cut.py") 562)]) #[])) ::
  ((nat_lit 283), (.mk (.type "function") none (.func (.mk (.ofString "undo") (.ofString "TreeGame.undo") p26 (.stmts b26) s26 3 [] .none .none .none (.str (.ofString "chess.treegame") 508) none (.ref 282) .none 0)) #[])) ::
  ((nat_lit 284), (.mk (.type "tuple") none (.seq #[] 0) #[])) ::
  ((nat_lit 286), (.mk (.type "tuple") none (.seq #[(.str (.ofString "self") 567)] 0) #[])) ::
  ((nat_lit 287), (.mk (.type "tuple") none (.seq #[] 0) #[])) ::
  ((nat_lit 289), (.mk (.type "code") none (.fields #[(.str (.ofString "value") 564), (.str (.ofString "TreeGame.value") 565), (.str (.ofString "/claim/cut.py") 566), (.int 155 0), (.int 1 0), (.int 0 0), (.int 0 0), (.int 3 0), (.ref 284), (.bool true), (.int 181 0), (.ref 285), .none, (.ref 286), (.ref 287), (.ref 288), (.int 568 0), (.int 155 0), (.str (.ofString "/claim/cut.py") 569)]) #[])) ::
  ((nat_lit 290), (.mk (.type "function") none (.func (.mk (.ofString "value") (.ofString "TreeGame.value") p27 (.stmts b27) s27 3 [] .none .none .none (.str (.ofString "chess.treegame") 508) none (.ref 289) .none 0)) #[])) ::
  ((nat_lit 291), (.mk (.type "tuple") none (.seq #[] 0) #[])) ::
  ((nat_lit 293), (.mk (.type "tuple") none (.seq #[(.str (.ofString "self") 574)] 0) #[])) ::
  ((nat_lit 294), (.mk (.type "tuple") none (.seq #[] 0) #[])) ::
  ((nat_lit 296), (.mk (.type "code") none (.fields #[(.str (.ofString "key") 571), (.str (.ofString "TreeGame.key") 572), (.str (.ofString "/claim/cut.py") 573), (.int 158 0), (.int 1 0), (.int 0 0), (.int 0 0), (.int 3 0), (.ref 291), (.bool true), (.int 181 0), (.ref 292), .none, (.ref 293), (.ref 294), (.ref 295), (.int 575 0), (.int 158 0), (.str (.ofString "/claim/cut.py") 576)]) #[])) ::
  ((nat_lit 297), (.mk (.type "function") none (.func (.mk (.ofString "key") (.ofString "TreeGame.key") p28 (.stmts b28) s28 3 [] .none .none .none (.str (.ofString "chess.treegame") 508) none (.ref 296) .none 0)) #[])) ::
  ((nat_lit 298), (.mk (.type "tuple") none (.seq #[] 0) #[])) ::
  ((nat_lit 300), (.mk (.type "tuple") none (.seq #[(.str (.ofString "self") 581)] 0) #[])) ::
  ((nat_lit 301), (.mk (.type "tuple") none (.seq #[] 0) #[])) ::
  ((nat_lit 303), (.mk (.type "code") none (.fields #[(.str (.ofString "in_check") 578), (.str (.ofString "TreeGame.in_check") 579), (.str (.ofString "/claim/cut.py") 580), (.int 161 0), (.int 1 0), (.int 0 0), (.int 0 0), (.int 3 0), (.ref 298), (.bool true), (.int 181 0), (.ref 299), .none, (.ref 300), (.ref 301), (.ref 302), (.int 582 0), (.int 161 0), (.str (.ofString "/claim/cut.py") 583)]) #[])) ::
  ((nat_lit 304), (.mk (.type "function") none (.func (.mk (.ofString "in_check") (.ofString "TreeGame.in_check") p29 (.stmts b29) s29 3 [] .none .none .none (.str (.ofString "chess.treegame") 508) none (.ref 303) .none 0)) #[])) ::
  ((nat_lit 305), (.mk (.type "tuple") none (.seq #[] 0) #[])) ::
  ((nat_lit 307), (.mk (.type "tuple") none (.seq #[(.str (.ofString "self") 588)] 0) #[])) ::
  ((nat_lit 308), (.mk (.type "tuple") none (.seq #[] 0) #[])) ::
  ((nat_lit 310), (.mk (.type "code") none (.fields #[(.str (.ofString "is_draw") 585), (.str (.ofString "TreeGame.is_draw") 586), (.str (.ofString "/claim/cut.py") 587), (.int 164 0), (.int 1 0), (.int 0 0), (.int 0 0), (.int 3 0), (.ref 305), (.bool true), (.int 181 0), (.ref 306), .none, (.ref 307), (.ref 308), (.ref 309), (.int 589 0), (.int 164 0), (.str (.ofString "/claim/cut.py") 590)]) #[])) ::
  ((nat_lit 311), (.mk (.type "function") none (.func (.mk (.ofString "is_draw") (.ofString "TreeGame.is_draw") p30 (.stmts b30) s30 3 [] .none .none .none (.str (.ofString "chess.treegame") 508) none (.ref 310) .none 0)) #[])) ::
  ((nat_lit 312), (.mk (.type "tuple") none (.seq #[] 0) #[])) ::
  ((nat_lit 314), (.mk (.type "tuple") none (.seq #[(.str (.ofString "self") 595), (.str (.ofString "move") 596)] 0) #[])) ::
  ((nat_lit 315), (.mk (.type "tuple") none (.seq #[] 0) #[])) ::
  ((nat_lit 317), (.mk (.type "code") none (.fields #[(.str (.ofString "is_noisy") 592), (.str (.ofString "TreeGame.is_noisy") 593), (.str (.ofString "/claim/cut.py") 594), (.int 167 0), (.int 2 0), (.int 0 0), (.int 0 0), (.int 3 0), (.ref 312), (.bool true), (.int 181 0), (.ref 313), .none, (.ref 314), (.ref 315), (.ref 316), (.int 597 0), (.int 167 0), (.str (.ofString "/claim/cut.py") 598)]) #[])) ::
  ((nat_lit 318), (.mk (.type "function") none (.func (.mk (.ofString "is_noisy") (.ofString "TreeGame.is_noisy") p31 (.stmts b31) s31 3 [] .none .none .none (.str (.ofString "chess.treegame") 508) none (.ref 317) .none 0)) #[])) ::
  ((nat_lit 319), (.mk (.type "tuple") none (.seq #[] 0) #[])) ::
  ((nat_lit 321), (.mk (.type "tuple") none (.seq #[(.str (.ofString "self") 603), (.str (.ofString "move") 604)] 0) #[])) ::
  ((nat_lit 322), (.mk (.type "tuple") none (.seq #[] 0) #[])) ::
  ((nat_lit 324), (.mk (.type "code") none (.fields #[(.str (.ofString "gain") 600), (.str (.ofString "TreeGame.gain") 601), (.str (.ofString "/claim/cut.py") 602), (.int 170 0), (.int 2 0), (.int 0 0), (.int 0 0), (.int 3 0), (.ref 319), (.bool true), (.int 181 0), (.ref 320), .none, (.ref 321), (.ref 322), (.ref 323), (.int 605 0), (.int 170 0), (.str (.ofString "/claim/cut.py") 606)]) #[])) ::
  ((nat_lit 325), (.mk (.type "function") none (.func (.mk (.ofString "gain") (.ofString "TreeGame.gain") p32 (.stmts b32) s32 3 [] .none .none .none (.str (.ofString "chess.treegame") 508) none (.ref 324) .none 0)) #[])) ::
  ((nat_lit 326), (.mk (.type "tuple") none (.seq #[] 0) #[])) ::
  ((nat_lit 328), (.mk (.type "tuple") none (.seq #[(.str (.ofString "self") 611)] 0) #[])) ::
  ((nat_lit 329), (.mk (.type "tuple") none (.seq #[] 0) #[])) ::
  ((nat_lit 331), (.mk (.type "code") none (.fields #[(.str (.ofString "side") 608), (.str (.ofString "TreeGame.side") 609), (.str (.ofString "/claim/cut.py") 610), (.int 173 0), (.int 1 0), (.int 0 0), (.int 0 0), (.int 3 0), (.ref 326), (.bool true), (.int 181 0), (.ref 327), .none, (.ref 328), (.ref 329), (.ref 330), (.int 612 0), (.int 173 0), (.str (.ofString "/claim/cut.py") 613)]) #[])) ::
  ((nat_lit 332), (.mk (.type "function") none (.func (.mk (.ofString "side") (.ofString "TreeGame.side") p33 (.stmts b33) s33 3 [] .none .none .none (.str (.ofString "chess.treegame") 508) none (.ref 331) .none 0)) #[])) ::
  ((nat_lit 333), (.mk (.type "tuple") none (.seq #[(.str (.ofString "checks") 615), (.str (.ofString "children") 616), (.str (.ofString "draws") 617), (.str (.ofString "gain_rows") 618), (.str (.ofString "noisy_rows") 619), (.str (.ofString "path") 620), (.str (.ofString "values") 621)] 0) #[])) ::
  ((nat_lit 334), (.mk (.type "dict") none (.dict #[(.mk (PyData.keyHash P (.ofString "__module__")) (.str (.ofString "__module__") 517) (.str (.ofString "chess.treegame") 508)), (.mk (PyData.keyHash P (.ofString "__firstlineno__")) (.str (.ofString "__firstlineno__") 521) (.int 127 520)), (.mk (PyData.keyHash P (.ofString "__init__")) (.str (.ofString "__init__") 534) (.ref 257)), (.mk (PyData.keyHash P (.ofString "moves")) (.str (.ofString "moves") 541) (.ref 264)), (.mk (PyData.keyHash P (.ofString "noisy")) (.str (.ofString "noisy") 547) (.ref 269)), (.mk (PyData.keyHash P (.ofString "make")) (.str (.ofString "make") 556) (.ref 276)), (.mk (PyData.keyHash P (.ofString "undo")) (.str (.ofString "undo") 563) (.ref 283)), (.mk (PyData.keyHash P (.ofString "value")) (.str (.ofString "value") 570) (.ref 290)), (.mk (PyData.keyHash P (.ofString "key")) (.str (.ofString "key") 577) (.ref 297)), (.mk (PyData.keyHash P (.ofString "in_check")) (.str (.ofString "in_check") 584) (.ref 304)), (.mk (PyData.keyHash P (.ofString "is_draw")) (.str (.ofString "is_draw") 591) (.ref 311)), (.mk (PyData.keyHash P (.ofString "is_noisy")) (.str (.ofString "is_noisy") 599) (.ref 318)), (.mk (PyData.keyHash P (.ofString "gain")) (.str (.ofString "gain") 607) (.ref 325)), (.mk (PyData.keyHash P (.ofString "side")) (.str (.ofString "side") 614) (.ref 332)), (.mk (PyData.keyHash P (.ofString "__static_attributes__")) (.str (.ofString "__static_attributes__") 622) (.ref 333)), (.mk (PyData.keyHash P (.ofString "__dict__")) (.str (.ofString "__dict__") 624) (.ref 336)), (.mk (PyData.keyHash P (.ofString "__weakref__")) (.str (.ofString "__weakref__") 626) (.ref 337)), (.mk (PyData.keyHash P (.ofString "__doc__")) (.str (.ofString "__doc__") 627) .none)] 4) #[])) ::
  ((nat_lit 335), (.mk (.type "type") none (.cls (.mk (.ofString "TreeGame") [(.type "object")] [(.ref 335), (.type "object")] 334 (.ofString "TreeGame") true [] [] false none false)) #[none, none, (some (.str (.ofString "TreeGame") 510)), (some (.str (.ofString "TreeGame") 518)), (some (.builtin "object.__new__")), (some (.bool true))])) ::
  ((nat_lit 336), (.mk (.type "getset_descriptor") none (.fields #[(.str (.ofString "__dict__") 623), (.ref 335), (.builtin "function.__dict__"), (.builtin "function.__dict__#set")]) #[])) ::
  ((nat_lit 337), (.mk (.type "getset_descriptor") none (.fields #[(.str (.ofString "__weakref__") 625), (.ref 335), (.builtin "ExceptionGroup.__weakref__"), .none]) #[])) ::
  ((nat_lit 340), (.mk (.type "tuple") none (.seq #[] 0) #[])) ::
  ((nat_lit 342), (.mk (.type "tuple") none (.seq #[(.str (.ofString "script") 635), (.str (.ofString "i") 636)] 0) #[])) ::
  ((nat_lit 343), (.mk (.type "tuple") none (.seq #[] 0) #[])) ::
  ((nat_lit 345), (.mk (.type "code") none (.fields #[(.str (.ofString "_law_at") 632), (.str (.ofString "_law_at") 633), (.str (.ofString "/claim/cut.py") 634), (.int 176 0), (.int 2 0), (.int 0 0), (.int 0 0), (.int 3 0), (.ref 340), (.bool true), (.int 181 0), (.ref 341), .none, (.ref 342), (.ref 343), (.ref 344), (.int 637 0), (.int 176 0), (.str (.ofString "/claim/cut.py") 638)]) #[])) ::
  ((nat_lit 346), (.mk (.type "function") none (.func (.mk (.ofString "_law_at") (.ofString "_law_at") p34 (.stmts b34) s34 3 [] .none .none .none (.str (.ofString "law_nt0425_01") 630) none (.ref 345) .none 0)) #[])) ::
  ((nat_lit 347), (.mk (.type "tuple") none (.seq #[] 0) #[])) ::
  ((nat_lit 350), (.mk (.type "code") none (.fields #[(.str (.ofString "_law_rows") 640), (.str (.ofString "_law_rows") 641), (.str (.ofString "/claim/cut.py") 642), (.int 178 0), (.int 1 0), (.int 0 0), (.int 0 0), (.int 3 0), (.ref 347), (.bool true), (.int 181 0), (.ref 348), .none, .none, .none, (.ref 349), (.int 643 0), (.int 178 0), (.str (.ofString "/claim/cut.py") 644)]) #[])) ::
  ((nat_lit 351), (.mk (.type "function") none (.func (.mk (.ofString "_law_rows") (.ofString "_law_rows") p35 (.stmts b35) s35 3 [] .none .none .none (.str (.ofString "law_nt0425_01") 630) none (.ref 350) .none 0)) #[])) ::
  ((nat_lit 352), (.mk (.type "tuple") none (.seq #[] 0) #[])) ::
  ((nat_lit 355), (.mk (.type "code") none (.fields #[(.str (.ofString "_law_plain") 646), (.str (.ofString "_law_plain") 647), (.str (.ofString "/claim/cut.py") 648), (.int 193 0), (.int 4 0), (.int 0 0), (.int 0 0), (.int 3 0), (.ref 352), (.bool true), (.int 181 0), (.ref 353), .none, .none, .none, (.ref 354), (.int 649 0), (.int 193 0), (.str (.ofString "/claim/cut.py") 650)]) #[])) ::
  ((nat_lit 356), (.mk (.type "function") none (.func (.mk (.ofString "_law_plain") (.ofString "_law_plain") p36 (.stmts b36) s36 3 [] .none .none .none (.str (.ofString "law_nt0425_01") 630) none (.ref 355) .none 0)) #[])) ::
  ((nat_lit 357), (.mk (.type "tuple") none (.seq #[] 0) #[])) ::
  ((nat_lit 359), (.mk (.type "tuple") none (.seq #[(.str (.ofString "old") 655), (.str (.ofString "bonus") 656), (.str (.ofString "limit") 657), (.str (.ofString "share") 658)] 0) #[])) ::
  ((nat_lit 360), (.mk (.type "tuple") none (.seq #[] 0) #[])) ::
  ((nat_lit 362), (.mk (.type "code") none (.fields #[(.str (.ofString "_law_drawn_back") 652), (.str (.ofString "_law_drawn_back") 653), (.str (.ofString "/claim/cut.py") 654), (.int 197 0), (.int 3 0), (.int 0 0), (.int 0 0), (.int 3 0), (.ref 357), (.bool true), (.int 181 0), (.ref 358), .none, (.ref 359), (.ref 360), (.ref 361), (.int 659 0), (.int 197 0), (.str (.ofString "/claim/cut.py") 660)]) #[])) ::
  ((nat_lit 363), (.mk (.type "function") none (.func (.mk (.ofString "_law_drawn_back") (.ofString "_law_drawn_back") p37 (.stmts b37) s37 3 [] .none .none .none (.str (.ofString "law_nt0425_01") 630) none (.ref 362) .none 0)) #[])) ::
  ((nat_lit 364), (.mk (.type "tuple") none (.seq #[] 0) #[])) ::
  ((nat_lit 367), (.mk (.type "code") none (.fields #[(.str (.ofString "_law_order") 662), (.str (.ofString "_law_order") 663), (.str (.ofString "/claim/cut.py") 664), (.int 200 0), (.int 6 0), (.int 0 0), (.int 0 0), (.int 3 0), (.ref 364), (.bool true), (.int 181 0), (.ref 365), .none, .none, .none, (.ref 366), (.int 665 0), (.int 200 0), (.str (.ofString "/claim/cut.py") 666)]) #[])) ::
  ((nat_lit 368), (.mk (.type "function") none (.func (.mk (.ofString "_law_order") (.ofString "_law_order") p38 (.stmts b38) s38 3 [] .none .none .none (.str (.ofString "law_nt0425_01") 630) none (.ref 367) .none 0)) #[])) ::
  ((nat_lit 369), (.mk (.type "tuple") none (.seq #[] 0) #[])) ::
  ((nat_lit 371), (.mk (.type "tuple") none (.seq #[(.str (.ofString "records") 671), (.str (.ofString "limit") 672), (.str (.ofString "side") 673), (.str (.ofString "ply") 674), (.str (.ofString "depth") 675), (.str (.ofString "earlier") 676), (.str (.ofString "best") 677), (.str (.ofString "tried") 678), (.str (.ofString "scores") 679), (.str (.ofString "pairs") 680), (.str (.ofString "replies") 681), (.str (.ofString "bonus") 682), (.str (.ofString "move") 683)] 0) #[])) ::
  ((nat_lit 372), (.mk (.type "tuple") none (.seq #[] 0) #[])) ::
  ((nat_lit 374), (.mk (.type "code") none (.fields #[(.str (.ofString "_law_note") 668), (.str (.ofString "_law_note") 669), (.str (.ofString "/claim/cut.py") 670), (.int 211 0), (.int 8 0), (.int 0 0), (.int 0 0), (.int 3 0), (.ref 369), (.bool true), (.int 181 0), (.ref 370), .none, (.ref 371), (.ref 372), (.ref 373), (.int 684 0), (.int 211 0), (.str (.ofString "/claim/cut.py") 685)]) #[])) ::
  ((nat_lit 375), (.mk (.type "function") none (.func (.mk (.ofString "_law_note") (.ofString "_law_note") p39 (.stmts b39) s39 3 [] .none .none .none (.str (.ofString "law_nt0425_01") 630) none (.ref 374) .none 0)) #[])) ::
  ((nat_lit 376), (.mk (.type "tuple") none (.seq #[] 0) #[])) ::
  ((nat_lit 378), (.mk (.type "tuple") none (.seq #[(.str (.ofString "game") 690), (.str (.ofString "rows") 691), (.str (.ofString "node") 692), (.str (.ofString "depth") 693), (.str (.ofString "alpha") 694), (.str (.ofString "beta") 695), (.str (.ofString "ply") 696), (.str (.ofString "earlier") 697), (.str (.ofString "tables") 698), (.str (.ofString "records") 699), (.str (.ofString "children") 700), (.str (.ofString "values") 701), (.str (.ofString "noisy") 702), (.str (.ofString "gains") 703), (.str (.ofString "history") 704), (.str (.ofString "killers") 705), (.str (.ofString "counters") 706), (.str (.ofString "side") 707), (.str (.ofString "order") 708), (.str (.ofString "pair") 709), (.str (.ofString "ok") 710), (.str (.ofString "best") 711), (.str (.ofString "tried") 712), (.str (.ofString "move") 713), (.str (.ofString "value") 714), (.str (.ofString "same") 715)] 0) #[])) ::
  ((nat_lit 379), (.mk (.type "tuple") none (.seq #[] 0) #[])) ::
  ((nat_lit 381), (.mk (.type "code") none (.fields #[(.str (.ofString "_law_seek") 687), (.str (.ofString "_law_seek") 688), (.str (.ofString "/claim/cut.py") 689), (.int 222 0), (.int 10 0), (.int 0 0), (.int 0 0), (.int 3 0), (.ref 376), (.bool true), (.int 181 0), (.ref 377), .none, (.ref 378), (.ref 379), (.ref 380), (.int 716 0), (.int 222 0), (.str (.ofString "/claim/cut.py") 717)]) #[])) ::
  ((nat_lit 382), (.mk (.type "function") none (.func (.mk (.ofString "_law_seek") (.ofString "_law_seek") p40 (.stmts b40) s40 3 [] .none .none .none (.str (.ofString "law_nt0425_01") 630) none (.ref 381) .none 0)) #[])) ::
  ((nat_lit 383), (.mk (.type "tuple") none (.seq #[] 0) #[])) ::
  ((nat_lit 385), (.mk (.type "tuple") none (.seq #[(.str (.ofString "limit") 722)] 0) #[])) ::
  ((nat_lit 386), (.mk (.type "tuple") none (.seq #[] 0) #[])) ::
  ((nat_lit 388), (.mk (.type "code") none (.fields #[(.str (.ofString "_law_is_refused") 719), (.str (.ofString "_law_is_refused") 720), (.str (.ofString "/claim/cut.py") 721), (.int 249 0), (.int 1 0), (.int 0 0), (.int 0 0), (.int 3 0), (.ref 383), (.bool true), (.int 181 0), (.ref 384), .none, (.ref 385), (.ref 386), (.ref 387), (.int 723 0), (.int 249 0), (.str (.ofString "/claim/cut.py") 724)]) #[])) ::
  ((nat_lit 389), (.mk (.type "function") none (.func (.mk (.ofString "_law_is_refused") (.ofString "_law_is_refused") p41 (.stmts b41) s41 3 [] .none .none .none (.str (.ofString "law_nt0425_01") 630) none (.ref 388) .none 0)) #[])) ::
  ((nat_lit 390), (.mk (.type "tuple") none (.seq #[] 0) #[])) ::
  ((nat_lit 393), (.mk (.type "code") none (.fields #[(.str (.ofString "law") 726), (.str (.ofString "law") 727), (.str (.ofString "/claim/cut.py") 728), (.int 255 0), (.int 1 0), (.int 0 0), (.int 0 0), (.int 3 0), (.ref 390), (.bool true), (.int 181 0), (.ref 391), .none, .none, .none, (.ref 392), (.int 729 0), (.int 255 0), (.str (.ofString "/claim/cut.py") 730)]) #[])) ::
  ((nat_lit 394), (.mk (.type "function") none (.func (.mk (.ofString "law") (.ofString "law") p42 (.stmts b42) s42 3 [] .none .none .none (.str (.ofString "law_nt0425_01") 630) none (.ref 393) .none 0)) #[])) :: []
theorem cj0 {G Q  : Prop} (h : G ∧ Q) : G := h.1
theorem cj1 {G Q P0 : Prop} (h : P0 ∧ G ∧ Q) : G := h.2.1
theorem cj2 {G Q P0 P1 : Prop} (h : P0 ∧ P1 ∧ G ∧ Q) : G := h.2.2.1
theorem cj3 {G Q P0 P1 P2 : Prop} (h : P0 ∧ P1 ∧ P2 ∧ G ∧ Q) : G := h.2.2.2.1
theorem cj4 {G Q P0 P1 P2 P3 : Prop} (h : P0 ∧ P1 ∧ P2 ∧ P3 ∧ G ∧ Q) : G := h.2.2.2.2.1
theorem cj5 {G Q P0 P1 P2 P3 P4 : Prop} (h : P0 ∧ P1 ∧ P2 ∧ P3 ∧ P4 ∧ G ∧ Q) : G := h.2.2.2.2.2.1
theorem cj6 {G Q P0 P1 P2 P3 P4 P5 : Prop} (h : P0 ∧ P1 ∧ P2 ∧ P3 ∧ P4 ∧ P5 ∧ G ∧ Q) : G := h.2.2.2.2.2.2.1
theorem cj7 {G Q P0 P1 P2 P3 P4 P5 P6 : Prop} (h : P0 ∧ P1 ∧ P2 ∧ P3 ∧ P4 ∧ P5 ∧ P6 ∧ G ∧ Q) : G := h.2.2.2.2.2.2.2.1
theorem cj8 {G Q P0 P1 P2 P3 P4 P5 P6 P7 : Prop} (h : P0 ∧ P1 ∧ P2 ∧ P3 ∧ P4 ∧ P5 ∧ P6 ∧ P7 ∧ G ∧ Q) : G := h.2.2.2.2.2.2.2.2.1
theorem cj9 {G Q P0 P1 P2 P3 P4 P5 P6 P7 P8 : Prop} (h : P0 ∧ P1 ∧ P2 ∧ P3 ∧ P4 ∧ P5 ∧ P6 ∧ P7 ∧ P8 ∧ G ∧ Q) : G := h.2.2.2.2.2.2.2.2.2.1
theorem cj10 {G Q P0 P1 P2 P3 P4 P5 P6 P7 P8 P9 : Prop} (h : P0 ∧ P1 ∧ P2 ∧ P3 ∧ P4 ∧ P5 ∧ P6 ∧ P7 ∧ P8 ∧ P9 ∧ G ∧ Q) : G := h.2.2.2.2.2.2.2.2.2.2.1
theorem cj11 {G Q P0 P1 P2 P3 P4 P5 P6 P7 P8 P9 P10 : Prop} (h : P0 ∧ P1 ∧ P2 ∧ P3 ∧ P4 ∧ P5 ∧ P6 ∧ P7 ∧ P8 ∧ P9 ∧ P10 ∧ G ∧ Q) : G := h.2.2.2.2.2.2.2.2.2.2.2.1
theorem cj12 {G Q P0 P1 P2 P3 P4 P5 P6 P7 P8 P9 P10 P11 : Prop} (h : P0 ∧ P1 ∧ P2 ∧ P3 ∧ P4 ∧ P5 ∧ P6 ∧ P7 ∧ P8 ∧ P9 ∧ P10 ∧ P11 ∧ G ∧ Q) : G := h.2.2.2.2.2.2.2.2.2.2.2.2.1
theorem ce1 {G P0 : Prop} (h : P0 ∧ G) : G := h.2
theorem ce2 {G P0 P1 : Prop} (h : P0 ∧ P1 ∧ G) : G := h.2.2
theorem ce3 {G P0 P1 P2 : Prop} (h : P0 ∧ P1 ∧ P2 ∧ G) : G := h.2.2.2
theorem ce4 {G P0 P1 P2 P3 : Prop} (h : P0 ∧ P1 ∧ P2 ∧ P3 ∧ G) : G := h.2.2.2.2
theorem ce5 {G P0 P1 P2 P3 P4 : Prop} (h : P0 ∧ P1 ∧ P2 ∧ P3 ∧ P4 ∧ G) : G := h.2.2.2.2.2
theorem ce6 {G P0 P1 P2 P3 P4 P5 : Prop} (h : P0 ∧ P1 ∧ P2 ∧ P3 ∧ P4 ∧ P5 ∧ G) : G := h.2.2.2.2.2.2
theorem ce7 {G P0 P1 P2 P3 P4 P5 P6 : Prop} (h : P0 ∧ P1 ∧ P2 ∧ P3 ∧ P4 ∧ P5 ∧ P6 ∧ G) : G := h.2.2.2.2.2.2.2
theorem ce8 {G P0 P1 P2 P3 P4 P5 P6 P7 : Prop} (h : P0 ∧ P1 ∧ P2 ∧ P3 ∧ P4 ∧ P5 ∧ P6 ∧ P7 ∧ G) : G := h.2.2.2.2.2.2.2.2
theorem ce9 {G P0 P1 P2 P3 P4 P5 P6 P7 P8 : Prop} (h : P0 ∧ P1 ∧ P2 ∧ P3 ∧ P4 ∧ P5 ∧ P6 ∧ P7 ∧ P8 ∧ G) : G := h.2.2.2.2.2.2.2.2.2
theorem ce10 {G P0 P1 P2 P3 P4 P5 P6 P7 P8 P9 : Prop} (h : P0 ∧ P1 ∧ P2 ∧ P3 ∧ P4 ∧ P5 ∧ P6 ∧ P7 ∧ P8 ∧ P9 ∧ G) : G := h.2.2.2.2.2.2.2.2.2.2
theorem ce11 {G P0 P1 P2 P3 P4 P5 P6 P7 P8 P9 P10 : Prop} (h : P0 ∧ P1 ∧ P2 ∧ P3 ∧ P4 ∧ P5 ∧ P6 ∧ P7 ∧ P8 ∧ P9 ∧ P10 ∧ G) : G := h.2.2.2.2.2.2.2.2.2.2.2
theorem ce12 {G P0 P1 P2 P3 P4 P5 P6 P7 P8 P9 P10 P11 : Prop} (h : P0 ∧ P1 ∧ P2 ∧ P3 ∧ P4 ∧ P5 ∧ P6 ∧ P7 ∧ P8 ∧ P9 ∧ P10 ∧ P11 ∧ G) : G := h.2.2.2.2.2.2.2.2.2.2.2.2
local macro_rules | `(tactic| omega) => `(tactic| first | decide | with_reducible assumption | k_extra "om2" | fail "no")
local macro_rules | `(tactic| k_in) => `(tactic| first | with_reducible assumption | exact Frag.In.keeps (by with_reducible assumption) (Fr.keep (by with_reducible assumption)))
local macro_rules | `(tactic| walk_at $s:str) => `(tactic| k_extra $s)
theorem fillK : (hd.heap_39 = hd.heap_39) ∧ (PySem.Challenge.rw_nt0425_01 = PySem.Challenge.rw_nt0425_01) := by k_fill; exact ⟨rfl, rfl⟩
theorem on_Base : True := by
  k_with_none
  k_with "om2" => (lia)
  trivial
section
theorem all_cons {α : Type} {p : α → Prop} {a : α} {l : List α} (h : p a) (t : ∀ x, x ∈ l → p x) : ∀ x, x ∈ a :: l → p x := List.forall_mem_cons.mpr ⟨h, t⟩
theorem ex7 {α0 α1 α2 α3 α4 α5 α6 : Type} {P : α0 → α1 → α2 → α3 → α4 → α5 → α6 → Prop} {C : Prop} (h : ∃ x0 x1 x2 x3 x4 x5 x6, P x0 x1 x2 x3 x4 x5 x6) (k : ∀ x0 x1 x2 x3 x4 x5 x6, P x0 x1 x2 x3 x4 x5 x6 → C) : C := by
  obtain ⟨x0, x1, x2, x3, x4, x5, x6, p⟩ := h
  exact k _ _ _ _ _ _ _ p
theorem ex13 {α0 α1 α2 α3 α4 α5 α6 α7 α8 α9 α10 α11 α12 : Type} {P : α0 → α1 → α2 → α3 → α4 → α5 → α6 → α7 → α8 → α9 → α10 → α11 → α12 → Prop} {C : Prop} (h : ∃ x0 x1 x2 x3 x4 x5 x6 x7 x8 x9 x10 x11 x12, P x0 x1 x2 x3 x4 x5 x6 x7 x8 x9 x10 x11 x12) (k : ∀ x0 x1 x2 x3 x4 x5 x6 x7 x8 x9 x10 x11 x12, P x0 x1 x2 x3 x4 x5 x6 x7 x8 x9 x10 x11 x12 → C) : C := by
  obtain ⟨x0, x1, x2, x3, x4, x5, x6, x7, x8, x9, x10, x11, x12, p⟩ := h
  exact k _ _ _ _ _ _ _ _ _ _ _ _ _ p
theorem ex18 {α0 α1 α2 α3 α4 α5 α6 α7 α8 α9 α10 α11 α12 α13 α14 α15 α16 α17 : Type} {P : α0 → α1 → α2 → α3 → α4 → α5 → α6 → α7 → α8 → α9 → α10 → α11 → α12 → α13 → α14 → α15 → α16 → α17 → Prop} {C : Prop} (h : ∃ x0 x1 x2 x3 x4 x5 x6 x7 x8 x9 x10 x11 x12 x13 x14 x15 x16 x17, P x0 x1 x2 x3 x4 x5 x6 x7 x8 x9 x10 x11 x12 x13 x14 x15 x16 x17) (k : ∀ x0 x1 x2 x3 x4 x5 x6 x7 x8 x9 x10 x11 x12 x13 x14 x15 x16 x17, P x0 x1 x2 x3 x4 x5 x6 x7 x8 x9 x10 x11 x12 x13 x14 x15 x16 x17 → C) : C := by
  obtain ⟨x0, x1, x2, x3, x4, x5, x6, x7, x8, x9, x10, x11, x12, x13, x14, x15, x16, x17, p⟩ := h
  exact k _ _ _ _ _ _ _ _ _ _ _ _ _ _ _ _ _ _ p
theorem an7 {p0 p1 p2 p3 p4 p5 p6 C : Prop} (h : p0 ∧ p1 ∧ p2 ∧ p3 ∧ p4 ∧ p5 ∧ p6) (k : p0 → p1 → p2 → p3 → p4 → p5 → p6 → C) : C := by
  obtain ⟨h0, h1, h2, h3, h4, h5, h6⟩ := h
  exact k h0 h1 h2 h3 h4 h5 h6
theorem an9 {p0 p1 p2 p3 p4 p5 p6 p7 p8 C : Prop} (h : p0 ∧ p1 ∧ p2 ∧ p3 ∧ p4 ∧ p5 ∧ p6 ∧ p7 ∧ p8) (k : p0 → p1 → p2 → p3 → p4 → p5 → p6 → p7 → p8 → C) : C := by
  obtain ⟨h0, h1, h2, h3, h4, h5, h6, h7, h8⟩ := h
  exact k h0 h1 h2 h3 h4 h5 h6 h7 h8
theorem ex4 {α0 α1 α2 α3 : Type} {P : α0 → α1 → α2 → α3 → Prop} {C : Prop} (h : ∃ x0 x1 x2 x3, P x0 x1 x2 x3) (k : ∀ x0 x1 x2 x3, P x0 x1 x2 x3 → C) : C := by
  obtain ⟨x0, x1, x2, x3, p⟩ := h
  exact k _ _ _ _ p
theorem ex6 {α0 α1 α2 α3 α4 α5 : Type} {P : α0 → α1 → α2 → α3 → α4 → α5 → Prop} {C : Prop} (h : ∃ x0 x1 x2 x3 x4 x5, P x0 x1 x2 x3 x4 x5) (k : ∀ x0 x1 x2 x3 x4 x5, P x0 x1 x2 x3 x4 x5 → C) : C := by
  obtain ⟨x0, x1, x2, x3, x4, x5, p⟩ := h
  exact k _ _ _ _ _ _ p
theorem ei9 {α0 α1 α2 α3 α4 α5 α6 α7 α8 : Type} {P : α0 → α1 → α2 → α3 → α4 → α5 → α6 → α7 → α8 → Prop} (x0 : α0) (x1 : α1) (x2 : α2) (x3 : α3) (x4 : α4) (x5 : α5) (x6 : α6) (x7 : α7) (x8 : α8) (h : P x0 x1 x2 x3 x4 x5 x6 x7 x8) : ∃ x0 x1 x2 x3 x4 x5 x6 x7 x8, P x0 x1 x2 x3 x4 x5 x6 x7 x8 := ⟨x0, x1, x2, x3, x4, x5, x6, x7, x8, h⟩
theorem ei6 {α0 α1 α2 α3 α4 α5 : Type} {P : α0 → α1 → α2 → α3 → α4 → α5 → Prop} (x0 : α0) (x1 : α1) (x2 : α2) (x3 : α3) (x4 : α4) (x5 : α5) (h : P x0 x1 x2 x3 x4 x5) : ∃ x0 x1 x2 x3 x4 x5, P x0 x1 x2 x3 x4 x5 := ⟨x0, x1, x2, x3, x4, x5, h⟩
theorem ex3 {α0 α1 α2 : Type} {P : α0 → α1 → α2 → Prop} {C : Prop} (h : ∃ x0 x1 x2, P x0 x1 x2) (k : ∀ x0 x1 x2, P x0 x1 x2 → C) : C := by
  obtain ⟨x0, x1, x2, p⟩ := h
  exact k _ _ _ p
theorem an3 {p0 p1 p2 C : Prop} (h : p0 ∧ p1 ∧ p2) (k : p0 → p1 → p2 → C) : C := by
  obtain ⟨h0, h1, h2⟩ := h
  exact k h0 h1 h2
theorem an5 {p0 p1 p2 p3 p4 C : Prop} (h : p0 ∧ p1 ∧ p2 ∧ p3 ∧ p4) (k : p0 → p1 → p2 → p3 → p4 → C) : C := by
  obtain ⟨h0, h1, h2, h3, h4⟩ := h
  exact k h0 h1 h2 h3 h4
theorem an8 {p0 p1 p2 p3 p4 p5 p6 p7 C : Prop} (h : p0 ∧ p1 ∧ p2 ∧ p3 ∧ p4 ∧ p5 ∧ p6 ∧ p7) (k : p0 → p1 → p2 → p3 → p4 → p5 → p6 → p7 → C) : C := by
  obtain ⟨h0, h1, h2, h3, h4, h5, h6, h7⟩ := h
  exact k h0 h1 h2 h3 h4 h5 h6 h7
theorem sub_of {α : Type} {l m : List α} (h : List.Sublist l m) : ∀ p, p ∈ l → p ∈ m := fun _ q => h.subset q

def Kept (as : List Addr) (h h' : Heap) : Prop := ∀ b o, h.get? b = some o → b ∉ as → h'.get? b = some o

/-- what a call of f with these arguments does: led is the part of the heap that it is told of, tl what it only reads, wr the addresses whose objects it may change -/
def Con (w : World) (f : Addr) (args : List Value) (led tl : List (Addr × Obj)) (wr : List Addr) (d u : Nat) (P : Heap → Value → Heap → Prop) : Prop :=
  ∀ (dp un : Nat) (gd : Option (List Code)) (cn : Str) (cs : Scope) (a : Addr) (ccd : Value) (cl : List (Str × Addr)) (outer : List Env) (A₀ : Around) (base h₀ : Heap) (L : Addr) (m : Str → Option Value) (s : Shared)
    (mean : ExcName → Option Value) (mg mb : Str → Option Value) (Q E : Value → Shared → Prop),
    Below A₀ base outer h₀ → Fr h₀ L s.heap m → (hd.heap_39 w.params).In h₀ → News h₀ L s.heap led → (∀ p ∈ tl, s.heap.get? p.1 = some p.2) → Top hd.view_39 (looseW hd.view_39 []) mean mg mb h₀ → cs.kind = .function → dp + d < recursionLimit → un + u < cLine →
    (∀ r h' tk', Fr h₀ L h' m → Kept wr s.heap h' → P s.heap r h' → Q r { s with heap := h', toks := tk' }) →
    wpAny (model PySem.Challenge.rw_nt0425_01.row.prog w) (ktrTop dp un gd cn cs L a ccd cl outer) (call (.ref f) args) Q E s

def Back (s : Shared) (g : Heap) (L : Addr) (led : List (Addr × Obj)) (wr : List Addr) (P : Value → Heap → Prop) (v : Value) (s' : Shared) : Prop :=
  ∃ m' h' tk', s' = { s with heap := h', toks := tk' } ∧ Fr g L h' m' ∧ (∀ p ∈ led, p.1 ∈ wr ∨ h'.get? p.1 = some p.2) ∧ P v h'

theorem back_intro {s : Shared} {g h' : Heap} {L : Addr} {led : List (Addr × Obj)} {wr : List Addr} {P : Value → Heap → Prop} {v : Value} {m' : Str → Option Value} {tk' : Nat} (F : Fr g L h' m') (hl : ∀ p ∈ led, p.1 ∈ wr ∨ h'.get? p.1 = some p.2) (p : P v h') :
    Back s g L led wr P v { s with heap := h', toks := tk' } := ⟨m', h', tk', rfl, F, hl, p⟩

structure From (H g : Heap) (led : List (Addr × Obj)) (L : Addr) : Prop where
  keep : ∀ b o, H.get? b = some o → b ∉ led.map (·.1) → g.get? b = some o
  back : ∀ b o, g.get? b = some o → H.get? b = some o
  lt : ∀ p ∈ led, p.1 < L
  size : L = H.objs.size

theorem From.fresh {H g : Heap} {fp : List (Addr × Obj)} {L a : Addr} (Z : From H g fp L) (hn : g.get? a = none) (hf : a ∉ fp.map (·.1)) : H.get? a = none := by
  cases q : H.get? a with
  | none => rfl
  | some o => rw [Z.keep a o q hf] at hn; cases hn

theorem con_enter {w : World} {f : Addr} {args : List Value} {led tl : List (Addr × Obj)} {wr : List Addr} {d u : Nat} {P : Heap → Value → Heap → Prop} {name qual : Str} {params : Arguments} {body : List Stmt} {scope : Scope} {dV kV doc pm cdv ct oc : Value} {an od : Option Addr} {osl : Array (Option Value)} (binds : List (Str × Value))
    (ho : (hd.heap_39 w.params).lookup f = some ⟨oc, od, .func (fnOf name qual params body scope dV kV doc pm an cdv ct), osl⟩) (hcd : codeIn (hd.heap_39 w.params) cdv qual = true)
    (hbind : bindArgs (fnOf name qual params body scope dV kV doc pm an cdv ct) ⟨args, []⟩ = pure binds) (hloc : ∀ y ∈ binds, scope.names.lookup y.1 = some .local)
    (hdis : ∀ p ∈ tl, p.1 ∉ led.map (·.1))
    (h : ∀ (dp un : Nat) (gd : Option (List Code)) (outer : List Env) (A₀ : Around) (base g : Heap) (L : Nat) (h₁ H : Heap) (s : Shared) (mean : ExcName → Option Value) (mg mb : Str → Option Value),
      Below A₀ base outer g → (hd.heap_39 w.params).In g → Top hd.view_39 (looseW hd.view_39 []) mean mg mb g → Fr g L h₁ (fun y => binds.reverse.lookup y) → News g L h₁ led → (∀ p ∈ tl, g.get? p.1 = some p.2) → From H g led L → dp + d < recursionLimit → un + u < cLine →
      wpAny (model PySem.Challenge.rw_nt0425_01.row.prog w) (ktrTop dp un gd qual scope L f cdv [] outer) (execs body (envOf qual scope L f cdv))
        (fun fl s' => Back s g L led wr (P H) (match fl with | .ret v => v | _ => .none) s')
        (fun _ _ => False) { s with heap := h₁, toks := s.toks + binds.length })
    (hco : scope.isCoroutine = false) (hgen : scope.isGenerator = false) (hk : scope.kind = .function) (hcell : ∀ x ∈ scope.names, x.2 ≠ .cell) : Con w f args led tl wr (d + 1) (u + 3) P := by
  intro dp un gd cn cs a ccd cl outer A₀ base h₀ L m s mean mg mb Q E B F X N Tl T hck hdp hun hret
  refine wpAny_call ?_
  obtain ⟨FG, BG, st, _⟩ := groundX (A := ktrTop dp un gd cn cs L a ccd cl outer) (env := envX cn cs L a ccd cl) (R := fun _ _ => True) B F N rfl rfl hck
  refine codeAny_call_def (fd := fnOf name qual params body scope dV kV doc pm an cdv ct) (body := body) (binds := binds) (by show dp < recursionLimit; omega) ((X.keeps F.keep) _ _ ho) rfl (T.nolimit.keeps F.keep) (codeRec_of (X.keeps F.keep) hcd) rfl (BindsTo.of_eq hbind) hcell hloc (fun h₁ hns hk₁ => ?_) hco hgen hk
  have hfp : ∀ p ∈ led, (hideAll s.heap (led.map (·.1))).get? p.1 = none := fun p hp => hideAll_none _ (List.mem_map_of_mem hp)
  refine wpAny_mono (h (dp + 1) (un + 3) gd (envX cn cs L a ccd cl :: outer) _ base (hideAll s.heap (led.map (·.1))) s.heap.objs.size h₁ s.heap s mean mg mb BG (X.keeps fun b o e => st b o e) (T.keeps fun b o e => st b o e)
    ⟨hns, fun b o e => hk₁ b o (of_hideAll _ e), Nat.le_of_eq (hideAll_size _ _)⟩
    (fun p hp => ⟨hk₁ _ _ (N p hp).1, Nat.ne_of_lt (Heap.lt_size (N p hp).1), hfp p hp⟩)
    (fun p hp => hideAll_get _ (Tl p hp) (hdis p hp))
    ⟨fun b o e hn => hideAll_get _ e hn, fun b o e => of_hideAll _ e, fun p hp => Heap.lt_size (N p hp).1, rfl⟩
    (by omega) (by omega)) (fun fl s' hb => ?_) fun _ _ z => z.elim
  obtain ⟨m', h', tk', rfl, F', hl, p⟩ := hb
  have k' : Kept wr s.heap h' := fun b o e hn => by
    by_cases hm : b ∈ led.map (·.1)
    · obtain ⟨p, hp, rfl⟩ := List.mem_map.mp hm
      rcases hl p hp with q | q
      · exact absurd q hn
      · have := (N p hp).1; rw [e] at this; cases this; exact q
    · exact F'.keep b o (hideAll_get _ e hm)
  obtain ⟨oL, es, ep, hL, hLd, hLk, hLf⟩ := F.ns
  refine hret _ h' tk' ⟨⟨oL, es, ep, F'.keep L oL ?_, hLd, hLk, hLf⟩, fun b o e => F'.keep b o (st b o e), F.above⟩ k' p
  refine hideAll_get _ hL fun q => ?_
  obtain ⟨p, hp, e⟩ := List.mem_map.mp q
  exact (N p hp).2.1 e

section
variable {w : World} {f : Addr} {args : List Value} {led tl news : List (Addr × Obj)} {wr : List Addr} {d u : Nat} {P : Heap → Value → Heap → Prop} {dp un : Nat} {gd : Option (List Code)} {cn : Str} {cs : Scope} {a : Addr} {ccd : Value} {cl : List (Str × Addr)} {outer : List Env} {A₀ : Around} {base h₀ : Heap} {L : Addr} {m : Str → Option Value} {s : Shared}
    {mean : ExcName → Option Value} {mg mb : Str → Option Value} {Q E : Value → Shared → Prop}
/-- a contract taken at a call -/
theorem con_use {h : Heap} {tk : Nat} (C : Con w f args led tl wr d u P) (B : Below A₀ base outer h₀) (F : Fr h₀ L h m) (X : (hd.heap_39 w.params).In h₀) (N : News h₀ L h news) (T : Top hd.view_39 (looseW hd.view_39 []) mean mg mb h₀) (hk : cs.kind = .function)
    (hs : ∀ p ∈ led, p ∈ news) (ht : ∀ p ∈ tl, h.get? p.1 = some p.2) (hdp : dp + d < recursionLimit) (hun : un + u < cLine)
    (ret : ∀ r h' tk', Fr h₀ L h' m → Kept wr h h' → P h r h' → Q r { s with heap := h', toks := tk' }) :
    wpAny (model PySem.Challenge.rw_nt0425_01.row.prog w) (ktrTop dp un gd cn cs L a ccd cl outer) (call (.ref f) args) Q E { s with heap := h, toks := tk } :=
  C _ _ _ _ _ _ _ _ _ _ _ _ _ _ _ _ _ _ _ _ B F X (fun p hp => N p (hs p hp)) ht T hk hdp hun ret
/-- a contract that changes nothing -/
theorem con_use0 {h : Heap} {tk : Nat} (C : Con w f args led tl [] d u P) (B : Below A₀ base outer h₀) (F : Fr h₀ L h m) (X : (hd.heap_39 w.params).In h₀) (N : News h₀ L h news) (T : Top hd.view_39 (looseW hd.view_39 []) mean mg mb h₀) (hk : cs.kind = .function)
    (hs : ∀ p ∈ led, p ∈ news) (ht : ∀ p ∈ tl, h.get? p.1 = some p.2) (hdp : dp + d < recursionLimit) (hun : un + u < cLine)
    (ret : ∀ r h' tk', Fr h₀ L h' m → News h₀ L h' news → P h r h' → Q r { s with heap := h', toks := tk' }) :
    wpAny (model PySem.Challenge.rw_nt0425_01.row.prog w) (ktrTop dp un gd cn cs L a ccd cl outer) (call (.ref f) args) Q E { s with heap := h, toks := tk } :=
  con_use C B F X N T hk hs ht hdp hun fun r h' tk' F' K p => ret r h' tk' F' (fun q hq => ⟨K _ _ (N q hq).1 (fun h => nomatch h), (N q hq).2⟩) p
end
section
variable {M : Model} {A : Around} {E : Value → Shared → Prop} {s : Shared} {h₀ h : Heap} {L a : Addr} {m : Str → Option Value} {cn : Str} {cs : Scope} {ccd : Value} {cl : List (Str × Addr)} {x : Str} {v : Value} {Q : Unit → Shared → Prop} {news : List (Addr × Obj)} {tk : Nat}
/-- a name stored: the state told by its heap alone -/
theorem store2 (F : Fr h₀ L h m) (N : News h₀ L h news) (k : ∀ h' tk', Fr h₀ L h' (fun y => if y = x then some v else m y) → News h₀ L h' news → Q () { s with heap := h', toks := tk' })
    (hk : cs.kind = .function := by rfl) (hx : (envX cn cs L a ccd cl).kindOf x = some .local := by rfl) : wpAny M A (storeName (envX cn cs L a ccd cl) x v) Q E { s with heap := h, toks := tk } :=
  storeX_L (s := { s with heap := h, toks := tk }) F N (fun h' F' N' => k h' _ F' N') hk hx
theorem const_int3 {env : Env} {i : Int} {k : Nat} {pos : Pos} {Q : Value → Shared → Prop} (H : Q (.int i tk) { s with heap := h, toks := tk + 1 }) : wpAny M A (eval (.Constant (.int i) k pos) env) Q E { s with heap := h, toks := tk } := wpAny_Constant_int H
end
section
variable {prog : Program} {w : World} {A : Around} {E : Value → Shared → Prop} {s : Shared} {h : Heap} {tk : Nat} {a b : Int} {t u : Tok} {Q : Value → Shared → Prop}
theorem add_int3 (H : Q (.int (a + b) tk) { s with heap := h, toks := tk + 1 }) : wpAny (model prog w) A (binaryOp .Add (.int a t) (.int b u)) Q E { s with heap := h, toks := tk } := add_int H
theorem sub_int3 (H : Q (.int (a - b) tk) { s with heap := h, toks := tk + 1 }) : wpAny (model prog w) A (binaryOp .Sub (.int a t) (.int b u)) Q E { s with heap := h, toks := tk } := sub_int H
theorem neg_int3 (H : Q (.int (-a) tk) { s with heap := h, toks := tk + 1 }) : wpAny (model prog w) A (unaryOp .USub (.int a t)) Q E { s with heap := h, toks := tk } := neg_int H
end

section
variable {h₀ h h' : Heap} {L a : Addr} {o o₀ : Obj} {news r : List (Addr × Obj)} {wr : List Addr}
theorem news_keep (N : News h₀ L h news) (hm : (a, o) ∈ news) (K : Kept wr h h') (hn : a ∉ wr) (N' : News h₀ L h' r) : News h₀ L h' ((a, o) :: r) := fun p hp => by
  rcases List.mem_cons.mp hp with rfl | hp
  · exact ⟨K _ _ (N _ hm).1 hn, (N _ hm).2⟩
  · exact N' p hp
theorem news_new (N : News h₀ L h news) (hm : (a, o₀) ∈ news) (hg : h'.get? a = some o) (N' : News h₀ L h' r) : News h₀ L h' ((a, o) :: r) := fun p hp => by
  rcases List.mem_cons.mp hp with rfl | hp
  · exact ⟨hg, (N _ hm).2⟩
  · exact N' p hp
/-- an object that a call has made: it stands nowhere in the old heap -/
theorem news_made {m : Str → Option Value} (F : Fr h₀ L h m) (hn : h.get? a = none) (hg : h'.get? a = some o) (N' : News h₀ L h' r) : News h₀ L h' ((a, o) :: r) := fun p hp => by
  rcases List.mem_cons.mp hp with rfl | hp
  · refine ⟨hg, fun e => ?_, ?_⟩
    · obtain ⟨oL, _, _, hL, _⟩ := F.ns
      have e : a = L := e
      rw [e, hL] at hn; cases hn
    · cases q : h₀.get? a with
      | none => rfl
      | some x => rw [F.keep a x q] at hn; cases hn
  · exact N' p hp
end

theorem isList_of {h : Heap} {a : Addr} {its : Array Value} {n : Nat} (e : h.get? a = some (listOf its n)) : h.IsList a its := ⟨_, e, rfl, _, rfl⟩
theorem isList_kept {h₀ h : Heap} {L a : Addr} {m : Str → Option Value} {its : Array Value} {n : Nat} (F : Fr h₀ L h m) (e : h₀.get? a = some (listOf its n)) : h.IsList a its := isList_of (F.keep _ _ e)
theorem my_item {prog : Program} {w : World} {A : Around} {E : Value → Shared → Prop} {s : Shared} {value slice : PySem.Expr} {l : Addr} {vs : List Value} {k : Int} {u : Tok} {v : Value} {Q : Value → Shared → Prop}
    (hl : s.heap.IsList l vs.toArray) (h0 : 0 ≤ k) (hhi : k < 2 ^ 63) (hx : vs[k.toNat]? = some v) (h : Q v s)
    (hs : subscripted slice false (.ref l) (.int k u) = operate [.ref l, .int k u] (getItem (.ref l) (.int k u)) := by with_unfolding_all rfl) :
    wpAny (model prog w) A (subscriptTail value slice (.ref l) (.int k u)) Q E s :=
  tail_any hl.typeIs slot_list_getitem.lookup (wpAny_getItem_list hl h0 hhi (by simpa using hx) h) hs

theorem nmem_nil {a : Nat} : (a : Addr) ∉ ([] : List Addr) := fun h => nomatch h
theorem nmem_cons {a b : Nat} {l : List Addr} (h : a ≠ b) (t : (a : Addr) ∉ l) : (a : Addr) ∉ (b :: l : List Addr) := fun q => by
  rcases List.mem_cons.mp q with q | q
  · exact h q
  · exact t q
abbrev intD (w : World) (o : Obj) (kvs : List (Int × Value)) (c : List (Int × Int)) : Prop := o.IsDictOf (PySem.intKind PySem.Challenge.rw_nt0425_01.row.prog w) kvs ∧ PyProof.V.FlatPairs PyData.int kvs (kdfD c)
end
section
theorem on_H1 : True := by
  k_with_none
  k_with "om2" => (lia)
  trivial
/-! the history's small defs -/
theorem scale_down_ok {w : World} {v b l : Int} {t1 t2 t3 : Tok} (hv : -1000 ≤ v ∧ v ≤ 1000) (_hb : 0 ≤ b ∧ b ≤ 1000) (hl : 1 ≤ l ∧ l ≤ 1000) :
    Con w 72 [.int v t1, .int b t2, .int l t3] [] [] [] 1 3 (fun _ r _ => ∃ t, r = .int (if v < 0 then -((-v * b).fdiv l) else (v * b).fdiv l) t) := by
  refine' con_enter [("value", .int v t1), ("by", .int b t2), ("limit", .int l t3)] ?ho ?hcd ?hb ?hl ?hdis ?_ ?c1 ?c2 ?c3 ?c4; (case ho => k_is); (case hcd => k_is); (case hb => exact rfl); (case hl => exact locs rfl); (try (case hdis => exact List.forall_mem_nil _)); (case c1 => exact rfl); (case c2 => exact rfl); (case c3 => exact rfl); (case c4 => decide); k_whole; intro dp un gd outer A₀ base g L h₁ H s mean mg mb B X T F N Tl Z hD hU; (try dsimp only); refine (let m9 : Str → Option Value := _; (fun (F : Fr _ _ _ m9) => ?_) F)
  k_fold
  k_steps
  · (refine' back_intro ?bF ?bL ?_; (case bF => k_asm); (case bL => first | exact List.forall_mem_nil _ | ((repeat (refine all_cons (by first | exact .inr (News.get (by with_reducible assumption) (by k_mem)) | exact .inl (by simp)) ?_)); exact List.forall_mem_nil _)); (exact ⟨_, by rw [if_pos (by assumption)]⟩))
  · (refine' back_intro ?bF ?bL ?_; (case bF => k_asm); (case bL => first | exact List.forall_mem_nil _ | ((repeat (refine all_cons (by first | exact .inr (News.get (by with_reducible assumption) (by k_mem)) | exact .inl (by simp)) ?_)); exact List.forall_mem_nil _)); (exact ⟨_, by rw [if_neg (by assumption)]⟩))

/-- the history, as the heap bears it -/
abbrev histL (Hd Hx S : Nat) (hh1 hh2 l : Int) (k1 k2 t4 : Tok) (n : Nat) (o : Obj) : List (Addr × Obj) :=
  [(Hd, dictOf [⟨hh1, .str (Str.ofString "limit") k1, .int l t4⟩, ⟨hh2, .str (Str.ofString "scores") k2, .ref S⟩] n), (Hx, instObj 117 Hd), (S, o)]

theorem history_get_ok {w : World} {side move l : Int} {t1 t2 t4 k1 k2 : Tok} {Hd Hx S : Nat} {hh1 hh2 : Int} {n : Nat} {o : Obj} {kvs : List (Int × Value)} {c : List (Int × Int)}
   (hs : 0 ≤ side ∧ side ≤ 1) (hm : 0 ≤ move ∧ move ≤ 10) (hd : intD w o kvs c) (hlow : (S == sysModules) = false) :
    Con w 93 [.ref Hx, .int side t1, .int move t2] (histL Hd Hx S hh1 hh2 l k1 k2 t4 n o) [] [] 2 8
     (fun _ r _ => ∃ t, r = .int (kdfLook c (side * 65536 + move) 0) t) := by
  obtain ⟨hd, hf⟩ := hd
  refine' con_enter [("self", .ref Hx), ("side", .int side t1), ("move", .int move t2)] ?ho ?hcd ?hb ?hl ?hdis ?_ ?c1 ?c2 ?c3 ?c4; (case ho => k_is); (case hcd => k_is); (case hb => exact rfl); (case hl => exact locs rfl); (try (case hdis => exact List.forall_mem_nil _)); (case c1 => exact rfl); (case c2 => exact rfl); (case c3 => exact rfl); (case c4 => decide); k_whole; intro dp un gd outer A₀ base g L h₁ H s mean mg mb B X T F N Tl Z hD hU; (try dsimp only); refine (let m9 : Str → Option Value := _; (fun (F : Fr _ _ _ m9) => ?_) F)
  k_fold
  k_with_none
  k_with "storeName" => (k_dflt (k_here; refine' store2 ?F ?N ?_ ?a ?b; (case F => k_asm); (case N => k_asm); (case a => rfl); (case b => rfl); k_whole; intro h' tk' F' N'; refine (let m9 : Str → Option Value := _; (fun (F' : Fr _ _ _ m9) => ?_) F'); (try k_sweep)))
  k_with "eval Constant int" => (k_dflt (first | with_reducible refine const_int3 ?_ | refine const_int3 ?_))
  k_with "binaryOp Add int int" => (k_dflt (first | with_reducible refine add_int3 ?_ | refine add_int3 ?_))
  k_with "binaryOp Sub int int" => (k_dflt (first | with_reducible refine sub_int3 ?_ | refine sub_int3 ?_))
  k_with "unaryOp USub int" => (k_dflt (first | with_reducible refine neg_int3 ?_ | refine neg_int3 ?_))
  k_with "om2" => (lia)
  k_steps
  (refine' back_intro ?bF ?bL ?_; (case bF => k_asm); (case bL => first | exact List.forall_mem_nil _ | ((repeat (refine all_cons (by first | exact .inr (News.get (by with_reducible assumption) (by k_mem)) | exact .inl (by simp)) ?_)); exact List.forall_mem_nil _)); (exact ⟨_, rfl⟩))

theorem history_bonus_ok {w : World} {depth l : Int} {t1 t4 k1 k2 : Tok} {Hd Hx S : Nat} {hh1 hh2 : Int} {n : Nat} {o : Obj} (hb : 0 ≤ depth ∧ depth ≤ 3) :
    Con w 107 [.ref Hx, .int depth t1] (histL Hd Hx S hh1 hh2 l k1 k2 t4 n o) [] [] 2 8
     (fun _ r _ => ∃ t, r = .int (min l (16 * depth * depth + 32 * depth)) t) := by
  refine' con_enter [("self", .ref Hx), ("depth", .int depth t1)] ?ho ?hcd ?hb ?hl ?hdis ?_ ?c1 ?c2 ?c3 ?c4; (case ho => k_is); (case hcd => k_is); (case hb => exact rfl); (case hl => exact locs rfl); (try (case hdis => exact List.forall_mem_nil _)); (case c1 => exact rfl); (case c2 => exact rfl); (case c3 => exact rfl); (case c4 => decide); k_whole; intro dp un gd outer A₀ base g L h₁ H s mean mg mb B X T F N Tl Z hD hU; (try dsimp only); refine (let m9 : Str → Option Value := _; (fun (F : Fr _ _ _ m9) => ?_) F)
  k_fold
  k_with_none
  k_with "storeName" => (k_dflt (k_here; refine' store2 ?F ?N ?_ ?a ?b; (case F => k_asm); (case N => k_asm); (case a => rfl); (case b => rfl); k_whole; intro h' tk' F' N'; refine (let m9 : Str → Option Value := _; (fun (F' : Fr _ _ _ m9) => ?_) F'); (try k_sweep)))
  k_with "eval Constant int" => (k_dflt (first | with_reducible refine const_int3 ?_ | refine const_int3 ?_))
  k_with "binaryOp Add int int" => (k_dflt (first | with_reducible refine add_int3 ?_ | refine add_int3 ?_))
  k_with "binaryOp Sub int int" => (k_dflt (first | with_reducible refine sub_int3 ?_ | refine sub_int3 ?_))
  k_with "unaryOp USub int" => (k_dflt (first | with_reducible refine neg_int3 ?_ | refine neg_int3 ?_))
  k_with "om2" => (lia)
  k_steps
  (refine' back_intro ?bF ?bL ?_; (case bF => k_asm); (case bL => first | exact List.forall_mem_nil _ | ((repeat (refine all_cons (by first | exact .inr (News.get (by with_reducible assumption) (by k_mem)) | exact .inl (by simp)) ?_)); exact List.forall_mem_nil _)); (exact ⟨_, by congr 1; split <;> omega⟩))

theorem flat_cast {kvs : List (Int × Value)} {c : List (Int × Int)} {k v v' : Int} (h : PyProof.V.FlatPairs PyData.int kvs (kdfD (kdfPut c k v))) (e : v = v') : PyProof.V.FlatPairs PyData.int kvs (kdfD (kdfPut c k v')) := e ▸ h
def drawnBack (old b l : Int) : Int := old + b - (if old < 0 then -((-old * b.natAbs).fdiv l) else (old * b.natAbs).fdiv l)

theorem update_ok {w : World} {side move bonus l : Int} {t1 t2 t3 t4 k1 k2 : Tok} {Hd Hx S : Nat} {hh1 hh2 : Int} {n : Nat} {o : Obj} {kvs : List (Int × Value)} {c : List (Int × Int)}
   (hl : 1 ≤ l ∧ l ≤ 1000) (hb : -l ≤ bonus ∧ bonus ≤ l) (hs : 0 ≤ side ∧ side ≤ 1) (hm : 0 ≤ move ∧ move ≤ 10)
   (hd : intD w o kvs c) (hc : ∀ k, -1000 ≤ kdfLook c k 0 ∧ kdfLook c k 0 ≤ 1000) (hlen : c.length ≤ 10) (hlow : (S == sysModules) = false)
   (d1 : Hd < Hx) (d2 : S ≠ Hd ∧ S ≠ Hx) :
    Con w 100 [.ref Hx, .int side t1, .int move t2, .int bonus t3] (histL Hd Hx S hh1 hh2 l k1 k2 t4 n o) [] [S] 3 12
     (fun _ r h' => r = .none ∧ ∃ o' kvs', h'.get? S = some o' ∧ intD w o' kvs' (kdfPut c (side * 65536 + move) (drawnBack (kdfLook c (side * 65536 + move) 0) bonus l))) := by
  obtain ⟨hd, hf⟩ := hd
  refine' con_enter [("self", .ref Hx), ("side", .int side t1), ("move", .int move t2), ("bonus", .int bonus t3)] ?ho ?hcd ?hb ?hl ?hdis ?_ ?c1 ?c2 ?c3 ?c4; (case ho => k_is); (case hcd => k_is); (case hb => exact rfl); (case hl => exact locs rfl); (try (case hdis => exact List.forall_mem_nil _)); (case c1 => exact rfl); (case c2 => exact rfl); (case c3 => exact rfl); (case c4 => decide); k_whole; intro dp un gd outer A₀ base g L h₁ H s mean mg mb B X T F N Tl Z hD hU; (try dsimp only); refine (let m9 : Str → Option Value := _; (fun (F : Fr _ _ _ m9) => ?_) F)
  k_fold
  k_with_none
  k_with "storeName" => (k_dflt (k_here; refine' store2 ?F ?N ?_ ?a ?b; (case F => k_asm); (case N => k_asm); (case a => rfl); (case b => rfl); k_whole; intro h' tk' F' N'; refine (let m9 : Str → Option Value := _; (fun (F' : Fr _ _ _ m9) => ?_) F'); (try k_sweep)))
  k_with "eval Constant int" => (k_dflt (first | with_reducible refine const_int3 ?_ | refine const_int3 ?_))
  k_with "binaryOp Add int int" => (k_dflt (first | with_reducible refine add_int3 ?_ | refine add_int3 ?_))
  k_with "binaryOp Sub int int" => (k_dflt (first | with_reducible refine sub_int3 ?_ | refine sub_int3 ?_))
  k_with "unaryOp USub int" => (k_dflt (first | with_reducible refine neg_int3 ?_ | refine neg_int3 ?_))
  k_with "om2" => (lia)
  k_with "call ref" => (k_dflt ((rename News _ _ _ _ => N9); (rename Fr _ _ _ _ => F9); (try k_fold); refine' con_use0 (scale_down_ok ?x1 ?x2 ?x3) ?k1 ?k2 ?k3 ?k4 ?k5 ?kK ?ks ?kt ?kd ?ku ?_; (case k1 => k_asm); (case k2 => k_asm); (case k3 => k_asm); (case k4 => k_asm); (case k5 => k_asm); (case kK => exact rfl); (case ks => (first | (refine sub_of ?_; (repeat (first | refine List.Sublist.cons_cons _ ?_ | ((fail_if_success exact List.nil_sublist _); refine List.Sublist.cons _ ?_))); exact List.nil_sublist _) | ((repeat (refine all_cons (by k_mem) ?_)); exact List.forall_mem_nil _))); (case kt => first | exact List.forall_mem_nil _ | ((repeat (refine all_cons (by first | exact (News.get (by k_asm) (by k_mem)) | exact Fr.keep (by k_asm) _ _ (by assumption)) ?_)); exact List.forall_mem_nil _)); (case kd => omega); (case ku => omega); (case x1 => exact hc _); (case x2 => omega); (case x3 => omega); k_whole; intro r9 h' tk' F' N' p9; obtain ⟨t9, rfl⟩ := p9; (try dsimp only); (try k_sweep)))
  k_steps
  (refine' back_intro ?bF ?bL ?_; (case bF => k_asm); (case bL => first | exact List.forall_mem_nil _ | ((repeat (refine all_cons (by first | exact .inr (News.get (by with_reducible assumption) (by k_mem)) | exact .inl (by simp)) ?_)); exact List.forall_mem_nil _)); (refine ⟨rfl, _, _, News.get (by k_asm) (by k_mem), by assumption, flat_cast (by assumption) ?_⟩))
  have e1 : (if bonus < l then bonus else l) = bonus := by split <;> omega
  have e2 : (if bonus > -l then bonus else -l) = bonus := by split <;> omega
  simp only [e1, e2, drawnBack]
  rw [show (bonus.natAbs : Int) = if bonus < 0 then -bonus else bonus by split <;> omega]
end
section
theorem on_K1 : True := by
  k_with_none
  k_with "om0" => (first | with_reducible assumption | exact cj0 (by with_reducible assumption) | exact cj1 (by with_reducible assumption) | exact cj2 (by with_reducible assumption) | exact cj3 (by with_reducible assumption) | exact cj4 (by with_reducible assumption) | exact cj5 (by with_reducible assumption) | exact cj6 (by with_reducible assumption) | exact cj7 (by with_reducible assumption) | exact cj8 (by with_reducible assumption) | exact cj9 (by with_reducible assumption) | exact cj10 (by with_reducible assumption) | exact cj11 (by with_reducible assumption) | exact cj12 (by with_reducible assumption) | exact ce1 (by with_reducible assumption) | exact ce2 (by with_reducible assumption) | exact ce3 (by with_reducible assumption) | exact ce4 (by with_reducible assumption) | exact ce5 (by with_reducible assumption) | exact ce6 (by with_reducible assumption) | exact ce7 (by with_reducible assumption) | exact ce8 (by with_reducible assumption) | exact ce9 (by with_reducible assumption) | exact ce10 (by with_reducible assumption) | exact ce11 (by with_reducible assumption) | exact ce12 (by with_reducible assumption))
  k_with "om2" => (first | k_extra "om0" | ((with_reducible refine Nat.ne_of_lt ?_); k_extra "om0") | ((with_reducible refine Nat.ne_of_gt ?_); k_extra "om0") | ((with_reducible refine Ne.symm ?_); k_extra "om0") | ((with_reducible refine' Nat.lt_of_le_of_lt (Nat.add_le_add_left ?p9 _) ?q9); (case q9 => with_reducible assumption); (case p9 => decide)) | ((with_reducible refine' Nat.le_trans ?p9 ?q9); (case p9 => k_extra "om0"); (case q9 => decide)) | ((with_reducible refine' Nat.lt_of_le_of_lt ?p9 ?q9); (case p9 => k_extra "om0"); (case q9 => decide)) | ((with_reducible refine' Int.le_trans ?p9 ?q9); (case p9 => k_extra "om0"); (case q9 => decide)) | ((with_reducible refine' Int.le_trans ?p9 ?q9); (case q9 => k_extra "om0"); (case p9 => decide)) | ((with_reducible refine' Int.lt_of_le_of_lt ?p9 ?q9); (case p9 => k_extra "om0"); (case q9 => decide)) | ((with_reducible refine' Int.lt_of_lt_of_le ?p9 ?q9); (case q9 => k_extra "om0"); (case p9 => decide)) | ((with_reducible refine And.intro ?_ ?_) <;> omega) | lia)
  trivial
/-! killers and counters -/
/-- a list of ints at an address -/
def isL (h : Heap) (a : Addr) (xs : List Int) : Prop := ∃ vs n, h.get? a = some (listOf (List.toArray vs) n) ∧ IntsAre vs xs
/-- a dict of ints by ints -/
def isD (w : World) (h : Heap) (a : Addr) (c : List (Int × Int)) : Prop := ∃ o kvs, h.get? a = some o ∧ intD w o kvs c
abbrev killL (Kd Kx F1 F2 : Nat) (hh1 hh2 hh3 pl : Int) (k1 k2 k3 t4 : Tok) (n n1 n2 : Nat) (vs1 vs2 : List Value) : List (Addr × Obj) :=
  [(Kd, dictOf [⟨hh1, .str (Str.ofString "plies") k1, .int pl t4⟩, ⟨hh2, .str (Str.ofString "first") k2, .ref F1⟩, ⟨hh3, .str (Str.ofString "second") k3, .ref F2⟩] n), (Kx, instObj 159 Kd), (F1, listOf vs1.toArray n1), (F2, listOf vs2.toArray n2)]

theorem killers_pair_ok {w : World} {ply pl : Int} {t1 t4 k1 k2 k3 : Tok} {Kd Kx F1 F2 : Nat} {hh1 hh2 hh3 : Int} {n n1 n2 : Nat} {vs1 vs2 : List Value} {f1 f2 : List Int}
   (hp : 0 ≤ ply ∧ ply ≤ 10) (hl1 : IntsAre vs1 f1) (hl2 : IntsAre vs2 f2) (e1 : f1.length = pl) (e2 : f2.length = pl) :
    Con w 149 [.ref Kx, .int ply t1] (killL Kd Kx F1 F2 hh1 hh2 hh3 pl k1 k2 k3 t4 n n1 n2 vs1 vs2) [] [] 2 8
     (fun H r h' => ∃ a t t', r = .ref a ∧ H.get? a = none ∧ h'.get? a = some { cls := .type "tuple", data := .seq #[.int (f1.getD ply.toNat 0) t, .int (f2.getD ply.toNat 0) t'] }) := by
  refine' con_enter [("self", .ref Kx), ("ply", .int ply t1)] ?ho ?hcd ?hb ?hl ?hdis ?_ ?c1 ?c2 ?c3 ?c4; (case ho => k_is); (case hcd => k_is); (case hb => exact rfl); (case hl => exact locs rfl); (try (case hdis => exact List.forall_mem_nil _)); (case c1 => exact rfl); (case c2 => exact rfl); (case c3 => exact rfl); (case c4 => decide); k_whole; intro dp un gd outer A₀ base g L h₁ H s mean mg mb B X T F N Tl Z hD hU; (try dsimp only); refine (let m9 : Str → Option Value := _; (fun (F : Fr _ _ _ m9) => ?_) F)
  k_fold
  k_with_none
  k_with "storeName" => (k_dflt (k_here; refine' store2 ?F ?N ?_ ?a ?b; (case F => k_asm); (case N => k_asm); (case a => rfl); (case b => rfl); k_whole; intro h' tk' F' N'; refine (let m9 : Str → Option Value := _; (fun (F' : Fr _ _ _ m9) => ?_) F'); (try k_sweep)))
  k_with "eval Constant int" => (k_dflt (first | with_reducible refine const_int3 ?_ | refine const_int3 ?_))
  k_with "binaryOp Add int int" => (k_dflt (first | with_reducible refine add_int3 ?_ | refine add_int3 ?_))
  k_with "binaryOp Sub int int" => (k_dflt (first | with_reducible refine sub_int3 ?_ | refine sub_int3 ?_))
  k_with "unaryOp USub int" => (k_dflt (first | with_reducible refine neg_int3 ?_ | refine neg_int3 ?_))
  k_with "om0" => (first | with_reducible assumption | exact cj0 (by with_reducible assumption) | exact cj1 (by with_reducible assumption) | exact cj2 (by with_reducible assumption) | exact cj3 (by with_reducible assumption) | exact cj4 (by with_reducible assumption) | exact cj5 (by with_reducible assumption) | exact cj6 (by with_reducible assumption) | exact cj7 (by with_reducible assumption) | exact cj8 (by with_reducible assumption) | exact cj9 (by with_reducible assumption) | exact cj10 (by with_reducible assumption) | exact cj11 (by with_reducible assumption) | exact cj12 (by with_reducible assumption) | exact ce1 (by with_reducible assumption) | exact ce2 (by with_reducible assumption) | exact ce3 (by with_reducible assumption) | exact ce4 (by with_reducible assumption) | exact ce5 (by with_reducible assumption) | exact ce6 (by with_reducible assumption) | exact ce7 (by with_reducible assumption) | exact ce8 (by with_reducible assumption) | exact ce9 (by with_reducible assumption) | exact ce10 (by with_reducible assumption) | exact ce11 (by with_reducible assumption) | exact ce12 (by with_reducible assumption))
  k_with "om2" => (first | k_extra "om0" | ((with_reducible refine Nat.ne_of_lt ?_); k_extra "om0") | ((with_reducible refine Nat.ne_of_gt ?_); k_extra "om0") | ((with_reducible refine Ne.symm ?_); k_extra "om0") | ((with_reducible refine' Nat.lt_of_le_of_lt (Nat.add_le_add_left ?p9 _) ?q9); (case q9 => with_reducible assumption); (case p9 => decide)) | ((with_reducible refine' Nat.le_trans ?p9 ?q9); (case p9 => k_extra "om0"); (case q9 => decide)) | ((with_reducible refine' Nat.lt_of_le_of_lt ?p9 ?q9); (case p9 => k_extra "om0"); (case q9 => decide)) | ((with_reducible refine' Int.le_trans ?p9 ?q9); (case p9 => k_extra "om0"); (case q9 => decide)) | ((with_reducible refine' Int.le_trans ?p9 ?q9); (case q9 => k_extra "om0"); (case p9 => decide)) | ((with_reducible refine' Int.lt_of_le_of_lt ?p9 ?q9); (case p9 => k_extra "om0"); (case q9 => decide)) | ((with_reducible refine' Int.lt_of_lt_of_le ?p9 ?q9); (case q9 => k_extra "om0"); (case p9 => decide)) | ((with_reducible refine And.intro ?_ ?_) <;> omega) | lia)
  k_steps
  · (refine' back_intro ?bF ?bL ?_; (case bF => k_asm); (case bL => first | exact List.forall_mem_nil _ | ((repeat (refine all_cons (by first | exact .inr (News.get (by with_reducible assumption) (by k_mem)) | exact .inl (by simp)) ?_)); exact List.forall_mem_nil _)); (exact ⟨_, _, _, rfl, Z.fresh (News.fresh (by k_asm) (.head _)) (by ((repeat (refine nmem_cons (by first | omega | ((try dsimp only); omega)) ?_)); exact nmem_nil)), News.get (by k_asm) (.head _)⟩))
  · have g1 : f1.getD ply.toNat 0 = 0 := by rw [List.getD_eq_getElem?_getD, List.getElem?_eq_none (by omega)]; rfl
    have g2 : f2.getD ply.toNat 0 = 0 := by rw [List.getD_eq_getElem?_getD, List.getElem?_eq_none (by omega)]; rfl
    (refine' back_intro ?bF ?bL ?_; (case bF => k_asm); (case bL => first | exact List.forall_mem_nil _ | ((repeat (refine all_cons (by first | exact .inr (News.get (by with_reducible assumption) (by k_mem)) | exact .inl (by simp)) ?_)); exact List.forall_mem_nil _)); (rw [g1, g2]; exact ⟨_, _, _, rfl, Z.fresh (News.fresh (by k_asm) (.head _)) (by ((repeat (refine nmem_cons (by first | omega | ((try dsimp only); omega)) ?_)); exact nmem_nil)), News.get (by k_asm) (.head _)⟩))

def addK (f1 f2 : List Int) (ply move : Int) : List Int × List Int :=
  if ply < f1.length ∧ f1.getD ply.toNat 0 ≠ move then (f1.set ply.toNat move, f2.set ply.toNat (f1.getD ply.toNat 0)) else (f1, f2)
theorem killers_add_ok {w : World} {ply move pl : Int} {t1 t2 t4 k1 k2 k3 : Tok} {Kd Kx F1 F2 : Nat} {hh1 hh2 hh3 : Int} {n n1 n2 : Nat} {vs1 vs2 : List Value} {f1 f2 : List Int}
   (hp : 0 ≤ ply ∧ ply ≤ 10) (hl1 : IntsAre vs1 f1) (hl2 : IntsAre vs2 f2) (e1 : f1.length = pl) (e2 : f2.length = pl)
   (d1 : Kd < Kx) (d2 : Kx < F1) (d3 : F1 < F2) :
    Con w 142 [.ref Kx, .int ply t1, .int move t2] (killL Kd Kx F1 F2 hh1 hh2 hh3 pl k1 k2 k3 t4 n n1 n2 vs1 vs2) [] [F1, F2] 2 8
     (fun _ r h' => r = .none ∧ isL h' F1 (addK f1 f2 ply move).1 ∧ isL h' F2 (addK f1 f2 ply move).2) := by
  refine' con_enter [("self", .ref Kx), ("ply", .int ply t1), ("move", .int move t2)] ?ho ?hcd ?hb ?hl ?hdis ?_ ?c1 ?c2 ?c3 ?c4; (case ho => k_is); (case hcd => k_is); (case hb => exact rfl); (case hl => exact locs rfl); (try (case hdis => exact List.forall_mem_nil _)); (case c1 => exact rfl); (case c2 => exact rfl); (case c3 => exact rfl); (case c4 => decide); k_whole; intro dp un gd outer A₀ base g L h₁ H s mean mg mb B X T F N Tl Z hD hU; (try dsimp only); refine (let m9 : Str → Option Value := _; (fun (F : Fr _ _ _ m9) => ?_) F)
  k_fold
  k_with_none
  k_with "storeName" => (k_dflt (k_here; refine' store2 ?F ?N ?_ ?a ?b; (case F => k_asm); (case N => k_asm); (case a => rfl); (case b => rfl); k_whole; intro h' tk' F' N'; refine (let m9 : Str → Option Value := _; (fun (F' : Fr _ _ _ m9) => ?_) F'); (try k_sweep)))
  k_with "eval Constant int" => (k_dflt (first | with_reducible refine const_int3 ?_ | refine const_int3 ?_))
  k_with "binaryOp Add int int" => (k_dflt (first | with_reducible refine add_int3 ?_ | refine add_int3 ?_))
  k_with "binaryOp Sub int int" => (k_dflt (first | with_reducible refine sub_int3 ?_ | refine sub_int3 ?_))
  k_with "unaryOp USub int" => (k_dflt (first | with_reducible refine neg_int3 ?_ | refine neg_int3 ?_))
  k_with "om0" => (first | with_reducible assumption | exact cj0 (by with_reducible assumption) | exact cj1 (by with_reducible assumption) | exact cj2 (by with_reducible assumption) | exact cj3 (by with_reducible assumption) | exact cj4 (by with_reducible assumption) | exact cj5 (by with_reducible assumption) | exact cj6 (by with_reducible assumption) | exact cj7 (by with_reducible assumption) | exact cj8 (by with_reducible assumption) | exact cj9 (by with_reducible assumption) | exact cj10 (by with_reducible assumption) | exact cj11 (by with_reducible assumption) | exact cj12 (by with_reducible assumption) | exact ce1 (by with_reducible assumption) | exact ce2 (by with_reducible assumption) | exact ce3 (by with_reducible assumption) | exact ce4 (by with_reducible assumption) | exact ce5 (by with_reducible assumption) | exact ce6 (by with_reducible assumption) | exact ce7 (by with_reducible assumption) | exact ce8 (by with_reducible assumption) | exact ce9 (by with_reducible assumption) | exact ce10 (by with_reducible assumption) | exact ce11 (by with_reducible assumption) | exact ce12 (by with_reducible assumption))
  k_with "om2" => (first | k_extra "om0" | ((with_reducible refine Nat.ne_of_lt ?_); k_extra "om0") | ((with_reducible refine Nat.ne_of_gt ?_); k_extra "om0") | ((with_reducible refine Ne.symm ?_); k_extra "om0") | ((with_reducible refine' Nat.lt_of_le_of_lt (Nat.add_le_add_left ?p9 _) ?q9); (case q9 => with_reducible assumption); (case p9 => decide)) | ((with_reducible refine' Nat.le_trans ?p9 ?q9); (case p9 => k_extra "om0"); (case q9 => decide)) | ((with_reducible refine' Nat.lt_of_le_of_lt ?p9 ?q9); (case p9 => k_extra "om0"); (case q9 => decide)) | ((with_reducible refine' Int.le_trans ?p9 ?q9); (case p9 => k_extra "om0"); (case q9 => decide)) | ((with_reducible refine' Int.le_trans ?p9 ?q9); (case q9 => k_extra "om0"); (case p9 => decide)) | ((with_reducible refine' Int.lt_of_le_of_lt ?p9 ?q9); (case p9 => k_extra "om0"); (case q9 => decide)) | ((with_reducible refine' Int.lt_of_lt_of_le ?p9 ?q9); (case q9 => k_extra "om0"); (case p9 => decide)) | ((with_reducible refine And.intro ?_ ?_) <;> omega) | lia)
  k_steps
  · (refine' back_intro ?bF ?bL ?_; (case bF => k_asm); (case bL => first | exact List.forall_mem_nil _ | ((repeat (refine all_cons (by first | exact .inr (News.get (by with_reducible assumption) (by k_mem)) | exact .inl (by simp)) ?_)); exact List.forall_mem_nil _)); (refine ⟨rfl, ⟨_, _, News.get (by k_asm) (by k_mem), ?_⟩, ⟨_, _, News.get (by k_asm) (by k_mem), ?_⟩⟩))
    · unfold addK; rw [if_pos ⟨by omega, by assumption⟩]; assumption
    · unfold addK; rw [if_pos ⟨by omega, by assumption⟩]; assumption
  · (refine' back_intro ?bF ?bL ?_; (case bF => k_asm); (case bL => first | exact List.forall_mem_nil _ | ((repeat (refine all_cons (by first | exact .inr (News.get (by with_reducible assumption) (by k_mem)) | exact .inl (by simp)) ?_)); exact List.forall_mem_nil _)); (refine ⟨rfl, ⟨_, _, News.get (by k_asm) (by k_mem), ?_⟩, ⟨_, _, News.get (by k_asm) (by k_mem), ?_⟩⟩))
    · unfold addK; rw [if_neg (fun z => z.2 (by assumption))]; assumption
    · unfold addK; rw [if_neg (fun z => z.2 (by assumption))]; assumption
  · (refine' back_intro ?bF ?bL ?_; (case bF => k_asm); (case bL => first | exact List.forall_mem_nil _ | ((repeat (refine all_cons (by first | exact .inr (News.get (by with_reducible assumption) (by k_mem)) | exact .inl (by simp)) ?_)); exact List.forall_mem_nil _)); (refine ⟨rfl, ⟨_, _, News.get (by k_asm) (by k_mem), ?_⟩, ⟨_, _, News.get (by k_asm) (by k_mem), ?_⟩⟩))
    · unfold addK; rw [if_neg (fun z => by omega)]; assumption
    · unfold addK; rw [if_neg (fun z => by omega)]; assumption

def clrK (f : List Int) (ply : Int) : List Int := f.set ply.toNat 0
theorem killers_clear_ok {w : World} {ply pl : Int} {t1 t4 k1 k2 k3 : Tok} {Kd Kx F1 F2 : Nat} {hh1 hh2 hh3 : Int} {n n1 n2 : Nat} {vs1 vs2 : List Value} {f1 f2 : List Int}
   (hp : 0 ≤ ply ∧ ply ≤ 20) (hl1 : IntsAre vs1 f1) (hl2 : IntsAre vs2 f2) (e1 : f1.length = pl) (e2 : f2.length = pl)
   (d1 : Kd < Kx) (d2 : Kx < F1) (d3 : F1 < F2) :
    Con w 156 [.ref Kx, .int ply t1] (killL Kd Kx F1 F2 hh1 hh2 hh3 pl k1 k2 k3 t4 n n1 n2 vs1 vs2) [] [F1, F2] 2 8
     (fun _ r h' => r = .none ∧ isL h' F1 (clrK f1 ply) ∧ isL h' F2 (clrK f2 ply)) := by
  refine' con_enter [("self", .ref Kx), ("ply", .int ply t1)] ?ho ?hcd ?hb ?hl ?hdis ?_ ?c1 ?c2 ?c3 ?c4; (case ho => k_is); (case hcd => k_is); (case hb => exact rfl); (case hl => exact locs rfl); (try (case hdis => exact List.forall_mem_nil _)); (case c1 => exact rfl); (case c2 => exact rfl); (case c3 => exact rfl); (case c4 => decide); k_whole; intro dp un gd outer A₀ base g L h₁ H s mean mg mb B X T F N Tl Z hD hU; (try dsimp only); refine (let m9 : Str → Option Value := _; (fun (F : Fr _ _ _ m9) => ?_) F)
  k_fold
  k_with_none
  k_with "storeName" => (k_dflt (k_here; refine' store2 ?F ?N ?_ ?a ?b; (case F => k_asm); (case N => k_asm); (case a => rfl); (case b => rfl); k_whole; intro h' tk' F' N'; refine (let m9 : Str → Option Value := _; (fun (F' : Fr _ _ _ m9) => ?_) F'); (try k_sweep)))
  k_with "eval Constant int" => (k_dflt (first | with_reducible refine const_int3 ?_ | refine const_int3 ?_))
  k_with "binaryOp Add int int" => (k_dflt (first | with_reducible refine add_int3 ?_ | refine add_int3 ?_))
  k_with "binaryOp Sub int int" => (k_dflt (first | with_reducible refine sub_int3 ?_ | refine sub_int3 ?_))
  k_with "unaryOp USub int" => (k_dflt (first | with_reducible refine neg_int3 ?_ | refine neg_int3 ?_))
  k_with "om0" => (first | with_reducible assumption | exact cj0 (by with_reducible assumption) | exact cj1 (by with_reducible assumption) | exact cj2 (by with_reducible assumption) | exact cj3 (by with_reducible assumption) | exact cj4 (by with_reducible assumption) | exact cj5 (by with_reducible assumption) | exact cj6 (by with_reducible assumption) | exact cj7 (by with_reducible assumption) | exact cj8 (by with_reducible assumption) | exact cj9 (by with_reducible assumption) | exact cj10 (by with_reducible assumption) | exact cj11 (by with_reducible assumption) | exact cj12 (by with_reducible assumption) | exact ce1 (by with_reducible assumption) | exact ce2 (by with_reducible assumption) | exact ce3 (by with_reducible assumption) | exact ce4 (by with_reducible assumption) | exact ce5 (by with_reducible assumption) | exact ce6 (by with_reducible assumption) | exact ce7 (by with_reducible assumption) | exact ce8 (by with_reducible assumption) | exact ce9 (by with_reducible assumption) | exact ce10 (by with_reducible assumption) | exact ce11 (by with_reducible assumption) | exact ce12 (by with_reducible assumption))
  k_with "om2" => (first | k_extra "om0" | ((with_reducible refine Nat.ne_of_lt ?_); k_extra "om0") | ((with_reducible refine Nat.ne_of_gt ?_); k_extra "om0") | ((with_reducible refine Ne.symm ?_); k_extra "om0") | ((with_reducible refine' Nat.lt_of_le_of_lt (Nat.add_le_add_left ?p9 _) ?q9); (case q9 => with_reducible assumption); (case p9 => decide)) | ((with_reducible refine' Nat.le_trans ?p9 ?q9); (case p9 => k_extra "om0"); (case q9 => decide)) | ((with_reducible refine' Nat.lt_of_le_of_lt ?p9 ?q9); (case p9 => k_extra "om0"); (case q9 => decide)) | ((with_reducible refine' Int.le_trans ?p9 ?q9); (case p9 => k_extra "om0"); (case q9 => decide)) | ((with_reducible refine' Int.le_trans ?p9 ?q9); (case q9 => k_extra "om0"); (case p9 => decide)) | ((with_reducible refine' Int.lt_of_le_of_lt ?p9 ?q9); (case p9 => k_extra "om0"); (case q9 => decide)) | ((with_reducible refine' Int.lt_of_lt_of_le ?p9 ?q9); (case q9 => k_extra "om0"); (case p9 => decide)) | ((with_reducible refine And.intro ?_ ?_) <;> omega) | lia)
  k_steps
  · (refine' back_intro ?bF ?bL ?_; (case bF => k_asm); (case bL => first | exact List.forall_mem_nil _ | ((repeat (refine all_cons (by first | exact .inr (News.get (by with_reducible assumption) (by k_mem)) | exact .inl (by simp)) ?_)); exact List.forall_mem_nil _)); (exact ⟨rfl, ⟨_, _, News.get (by k_asm) (by k_mem), by assumption⟩, ⟨_, _, News.get (by k_asm) (by k_mem), by assumption⟩⟩))
  · have g1 : clrK f1 ply = f1 := List.set_eq_of_length_le (by omega)
    have g2 : clrK f2 ply = f2 := List.set_eq_of_length_le (by omega)
    rw [g1, g2]
    (refine' back_intro ?bF ?bL ?_; (case bF => k_asm); (case bL => first | exact List.forall_mem_nil _ | ((repeat (refine all_cons (by first | exact .inr (News.get (by with_reducible assumption) (by k_mem)) | exact .inl (by simp)) ?_)); exact List.forall_mem_nil _)); (exact ⟨rfl, ⟨_, _, News.get (by k_asm) (by k_mem), by assumption⟩, ⟨_, _, News.get (by k_asm) (by k_mem), by assumption⟩⟩))

abbrev cntL (Cd Cx R : Nat) (hh1 : Int) (k1 : Tok) (n : Nat) (o : Obj) : List (Addr × Obj) :=
  [(Cd, dictOf [⟨hh1, .str (Str.ofString "replies") k1, .ref R⟩] n), (Cx, instObj 194 Cd), (R, o)]
theorem counters_get_ok {w : World} {side earlier : Int} {t1 t2 k1 : Tok} {Cd Cx R : Nat} {hh1 : Int} {n : Nat} {o : Obj} {kvs : List (Int × Value)} {c : List (Int × Int)}
   (hs : 0 ≤ side ∧ side ≤ 1) (hm : 0 ≤ earlier ∧ earlier ≤ 10) (hd : intD w o kvs c) (hlow : (R == sysModules) = false) :
    Con w 184 [.ref Cx, .int side t1, .int earlier t2] (cntL Cd Cx R hh1 k1 n o) [] [] 2 8
     (fun _ r _ => ∃ t, r = .int (kdfLook c (side * 65536 + earlier) 0) t) := by
  obtain ⟨hd, hf⟩ := hd
  refine' con_enter [("self", .ref Cx), ("side", .int side t1), ("earlier", .int earlier t2)] ?ho ?hcd ?hb ?hl ?hdis ?_ ?c1 ?c2 ?c3 ?c4; (case ho => k_is); (case hcd => k_is); (case hb => exact rfl); (case hl => exact locs rfl); (try (case hdis => exact List.forall_mem_nil _)); (case c1 => exact rfl); (case c2 => exact rfl); (case c3 => exact rfl); (case c4 => decide); k_whole; intro dp un gd outer A₀ base g L h₁ H s mean mg mb B X T F N Tl Z hD hU; (try dsimp only); refine (let m9 : Str → Option Value := _; (fun (F : Fr _ _ _ m9) => ?_) F)
  k_fold
  k_with_none
  k_with "storeName" => (k_dflt (k_here; refine' store2 ?F ?N ?_ ?a ?b; (case F => k_asm); (case N => k_asm); (case a => rfl); (case b => rfl); k_whole; intro h' tk' F' N'; refine (let m9 : Str → Option Value := _; (fun (F' : Fr _ _ _ m9) => ?_) F'); (try k_sweep)))
  k_with "eval Constant int" => (k_dflt (first | with_reducible refine const_int3 ?_ | refine const_int3 ?_))
  k_with "binaryOp Add int int" => (k_dflt (first | with_reducible refine add_int3 ?_ | refine add_int3 ?_))
  k_with "binaryOp Sub int int" => (k_dflt (first | with_reducible refine sub_int3 ?_ | refine sub_int3 ?_))
  k_with "unaryOp USub int" => (k_dflt (first | with_reducible refine neg_int3 ?_ | refine neg_int3 ?_))
  k_with "om0" => (first | with_reducible assumption | exact cj0 (by with_reducible assumption) | exact cj1 (by with_reducible assumption) | exact cj2 (by with_reducible assumption) | exact cj3 (by with_reducible assumption) | exact cj4 (by with_reducible assumption) | exact cj5 (by with_reducible assumption) | exact cj6 (by with_reducible assumption) | exact cj7 (by with_reducible assumption) | exact cj8 (by with_reducible assumption) | exact cj9 (by with_reducible assumption) | exact cj10 (by with_reducible assumption) | exact cj11 (by with_reducible assumption) | exact cj12 (by with_reducible assumption) | exact ce1 (by with_reducible assumption) | exact ce2 (by with_reducible assumption) | exact ce3 (by with_reducible assumption) | exact ce4 (by with_reducible assumption) | exact ce5 (by with_reducible assumption) | exact ce6 (by with_reducible assumption) | exact ce7 (by with_reducible assumption) | exact ce8 (by with_reducible assumption) | exact ce9 (by with_reducible assumption) | exact ce10 (by with_reducible assumption) | exact ce11 (by with_reducible assumption) | exact ce12 (by with_reducible assumption))
  k_with "om2" => (first | k_extra "om0" | ((with_reducible refine Nat.ne_of_lt ?_); k_extra "om0") | ((with_reducible refine Nat.ne_of_gt ?_); k_extra "om0") | ((with_reducible refine Ne.symm ?_); k_extra "om0") | ((with_reducible refine' Nat.lt_of_le_of_lt (Nat.add_le_add_left ?p9 _) ?q9); (case q9 => with_reducible assumption); (case p9 => decide)) | ((with_reducible refine' Nat.le_trans ?p9 ?q9); (case p9 => k_extra "om0"); (case q9 => decide)) | ((with_reducible refine' Nat.lt_of_le_of_lt ?p9 ?q9); (case p9 => k_extra "om0"); (case q9 => decide)) | ((with_reducible refine' Int.le_trans ?p9 ?q9); (case p9 => k_extra "om0"); (case q9 => decide)) | ((with_reducible refine' Int.le_trans ?p9 ?q9); (case q9 => k_extra "om0"); (case p9 => decide)) | ((with_reducible refine' Int.lt_of_le_of_lt ?p9 ?q9); (case p9 => k_extra "om0"); (case q9 => decide)) | ((with_reducible refine' Int.lt_of_lt_of_le ?p9 ?q9); (case q9 => k_extra "om0"); (case p9 => decide)) | ((with_reducible refine And.intro ?_ ?_) <;> omega) | lia)
  k_steps
  (refine' back_intro ?bF ?bL ?_; (case bF => k_asm); (case bL => first | exact List.forall_mem_nil _ | ((repeat (refine all_cons (by first | exact .inr (News.get (by with_reducible assumption) (by k_mem)) | exact .inl (by simp)) ?_)); exact List.forall_mem_nil _)); (exact ⟨_, rfl⟩))

theorem counters_put_ok {w : World} {side earlier move : Int} {t1 t2 t3 k1 : Tok} {Cd Cx R : Nat} {hh1 : Int} {n : Nat} {o : Obj} {kvs : List (Int × Value)} {c : List (Int × Int)}
   (hs : 0 ≤ side ∧ side ≤ 1) (hm : 0 ≤ earlier ∧ earlier ≤ 10) (hd : intD w o kvs c) (hlen : c.length ≤ 10) (hlow : (R == sysModules) = false) (d1 : Cd < Cx) (d2 : Cx < R) :
    Con w 191 [.ref Cx, .int side t1, .int earlier t2, .int move t3] (cntL Cd Cx R hh1 k1 n o) [] [R] 2 8
     (fun _ r h' => r = .none ∧ isD w h' R (if earlier ≠ 0 then kdfPut c (side * 65536 + earlier) move else c)) := by
  obtain ⟨hd, hf⟩ := hd
  refine' con_enter [("self", .ref Cx), ("side", .int side t1), ("earlier", .int earlier t2), ("move", .int move t3)] ?ho ?hcd ?hb ?hl ?hdis ?_ ?c1 ?c2 ?c3 ?c4; (case ho => k_is); (case hcd => k_is); (case hb => exact rfl); (case hl => exact locs rfl); (try (case hdis => exact List.forall_mem_nil _)); (case c1 => exact rfl); (case c2 => exact rfl); (case c3 => exact rfl); (case c4 => decide); k_whole; intro dp un gd outer A₀ base g L h₁ H s mean mg mb B X T F N Tl Z hD hU; (try dsimp only); refine (let m9 : Str → Option Value := _; (fun (F : Fr _ _ _ m9) => ?_) F)
  k_fold
  k_with_none
  k_with "storeName" => (k_dflt (k_here; refine' store2 ?F ?N ?_ ?a ?b; (case F => k_asm); (case N => k_asm); (case a => rfl); (case b => rfl); k_whole; intro h' tk' F' N'; refine (let m9 : Str → Option Value := _; (fun (F' : Fr _ _ _ m9) => ?_) F'); (try k_sweep)))
  k_with "eval Constant int" => (k_dflt (first | with_reducible refine const_int3 ?_ | refine const_int3 ?_))
  k_with "binaryOp Add int int" => (k_dflt (first | with_reducible refine add_int3 ?_ | refine add_int3 ?_))
  k_with "binaryOp Sub int int" => (k_dflt (first | with_reducible refine sub_int3 ?_ | refine sub_int3 ?_))
  k_with "unaryOp USub int" => (k_dflt (first | with_reducible refine neg_int3 ?_ | refine neg_int3 ?_))
  k_with "om0" => (first | with_reducible assumption | exact cj0 (by with_reducible assumption) | exact cj1 (by with_reducible assumption) | exact cj2 (by with_reducible assumption) | exact cj3 (by with_reducible assumption) | exact cj4 (by with_reducible assumption) | exact cj5 (by with_reducible assumption) | exact cj6 (by with_reducible assumption) | exact cj7 (by with_reducible assumption) | exact cj8 (by with_reducible assumption) | exact cj9 (by with_reducible assumption) | exact cj10 (by with_reducible assumption) | exact cj11 (by with_reducible assumption) | exact cj12 (by with_reducible assumption) | exact ce1 (by with_reducible assumption) | exact ce2 (by with_reducible assumption) | exact ce3 (by with_reducible assumption) | exact ce4 (by with_reducible assumption) | exact ce5 (by with_reducible assumption) | exact ce6 (by with_reducible assumption) | exact ce7 (by with_reducible assumption) | exact ce8 (by with_reducible assumption) | exact ce9 (by with_reducible assumption) | exact ce10 (by with_reducible assumption) | exact ce11 (by with_reducible assumption) | exact ce12 (by with_reducible assumption))
  k_with "om2" => (first | k_extra "om0" | ((with_reducible refine Nat.ne_of_lt ?_); k_extra "om0") | ((with_reducible refine Nat.ne_of_gt ?_); k_extra "om0") | ((with_reducible refine Ne.symm ?_); k_extra "om0") | ((with_reducible refine' Nat.lt_of_le_of_lt (Nat.add_le_add_left ?p9 _) ?q9); (case q9 => with_reducible assumption); (case p9 => decide)) | ((with_reducible refine' Nat.le_trans ?p9 ?q9); (case p9 => k_extra "om0"); (case q9 => decide)) | ((with_reducible refine' Nat.lt_of_le_of_lt ?p9 ?q9); (case p9 => k_extra "om0"); (case q9 => decide)) | ((with_reducible refine' Int.le_trans ?p9 ?q9); (case p9 => k_extra "om0"); (case q9 => decide)) | ((with_reducible refine' Int.le_trans ?p9 ?q9); (case q9 => k_extra "om0"); (case p9 => decide)) | ((with_reducible refine' Int.lt_of_le_of_lt ?p9 ?q9); (case p9 => k_extra "om0"); (case q9 => decide)) | ((with_reducible refine' Int.lt_of_lt_of_le ?p9 ?q9); (case q9 => k_extra "om0"); (case p9 => decide)) | ((with_reducible refine And.intro ?_ ?_) <;> omega) | lia)
  k_steps
  · rw [if_pos (by assumption)]
    (refine' back_intro ?bF ?bL ?_; (case bF => k_asm); (case bL => first | exact List.forall_mem_nil _ | ((repeat (refine all_cons (by first | exact .inr (News.get (by with_reducible assumption) (by k_mem)) | exact .inl (by simp)) ?_)); exact List.forall_mem_nil _)); (exact ⟨rfl, _, _, News.get (by k_asm) (by k_mem), by assumption, by assumption⟩))
  · rw [if_neg (fun z => z (by assumption))]
    (refine' back_intro ?bF ?bL ?_; (case bF => k_asm); (case bL => first | exact List.forall_mem_nil _ | ((repeat (refine all_cons (by first | exact .inr (News.get (by with_reducible assumption) (by k_mem)) | exact .inl (by simp)) ?_)); exact List.forall_mem_nil _)); (exact ⟨rfl, _, _, News.get (by k_asm) (by k_mem), by assumption, by assumption⟩))
theorem reward_counter_ok {w : World} {side earlier move : Int} {t1 t2 t3 k1 : Tok} {Cd Cx R : Nat} {hh1 : Int} {n : Nat} {o : Obj} {kvs : List (Int × Value)} {c : List (Int × Int)}
   (hs : 0 ≤ side ∧ side ≤ 1) (hm : 0 ≤ earlier ∧ earlier ≤ 10) (hd : intD w o kvs c) (hlen : c.length ≤ 10) (hlow : (R == sysModules) = false) (d1 : Cd < Cx) (d2 : Cx < R) :
    Con w 212 [.ref Cx, .int side t1, .int earlier t2, .int move t3] (cntL Cd Cx R hh1 k1 n o) [] [R] 4 16
     (fun _ r h' => r = .none ∧ isD w h' R (if earlier ≠ 0 then kdfPut c (side * 65536 + earlier) move else c)) := by
  refine' con_enter [("counters", .ref Cx), ("side", .int side t1), ("earlier", .int earlier t2), ("best", .int move t3)] ?ho ?hcd ?hb ?hl ?hdis ?_ ?c1 ?c2 ?c3 ?c4; (case ho => k_is); (case hcd => k_is); (case hb => exact rfl); (case hl => exact locs rfl); (try (case hdis => exact List.forall_mem_nil _)); (case c1 => exact rfl); (case c2 => exact rfl); (case c3 => exact rfl); (case c4 => decide); k_whole; intro dp un gd outer A₀ base g L h₁ H s mean mg mb B X T F N Tl Z hD hU; (try dsimp only); refine (let m9 : Str → Option Value := _; (fun (F : Fr _ _ _ m9) => ?_) F)
  k_fold
  k_with_none
  k_with "storeName" => (k_dflt (k_here; refine' store2 ?F ?N ?_ ?a ?b; (case F => k_asm); (case N => k_asm); (case a => rfl); (case b => rfl); k_whole; intro h' tk' F' N'; refine (let m9 : Str → Option Value := _; (fun (F' : Fr _ _ _ m9) => ?_) F'); (try k_sweep)))
  k_with "eval Constant int" => (k_dflt (first | with_reducible refine const_int3 ?_ | refine const_int3 ?_))
  k_with "binaryOp Add int int" => (k_dflt (first | with_reducible refine add_int3 ?_ | refine add_int3 ?_))
  k_with "binaryOp Sub int int" => (k_dflt (first | with_reducible refine sub_int3 ?_ | refine sub_int3 ?_))
  k_with "unaryOp USub int" => (k_dflt (first | with_reducible refine neg_int3 ?_ | refine neg_int3 ?_))
  k_with "om0" => (first | with_reducible assumption | exact cj0 (by with_reducible assumption) | exact cj1 (by with_reducible assumption) | exact cj2 (by with_reducible assumption) | exact cj3 (by with_reducible assumption) | exact cj4 (by with_reducible assumption) | exact cj5 (by with_reducible assumption) | exact cj6 (by with_reducible assumption) | exact cj7 (by with_reducible assumption) | exact cj8 (by with_reducible assumption) | exact cj9 (by with_reducible assumption) | exact cj10 (by with_reducible assumption) | exact cj11 (by with_reducible assumption) | exact cj12 (by with_reducible assumption) | exact ce1 (by with_reducible assumption) | exact ce2 (by with_reducible assumption) | exact ce3 (by with_reducible assumption) | exact ce4 (by with_reducible assumption) | exact ce5 (by with_reducible assumption) | exact ce6 (by with_reducible assumption) | exact ce7 (by with_reducible assumption) | exact ce8 (by with_reducible assumption) | exact ce9 (by with_reducible assumption) | exact ce10 (by with_reducible assumption) | exact ce11 (by with_reducible assumption) | exact ce12 (by with_reducible assumption))
  k_with "om2" => (first | k_extra "om0" | ((with_reducible refine Nat.ne_of_lt ?_); k_extra "om0") | ((with_reducible refine Nat.ne_of_gt ?_); k_extra "om0") | ((with_reducible refine Ne.symm ?_); k_extra "om0") | ((with_reducible refine' Nat.lt_of_le_of_lt (Nat.add_le_add_left ?p9 _) ?q9); (case q9 => with_reducible assumption); (case p9 => decide)) | ((with_reducible refine' Nat.le_trans ?p9 ?q9); (case p9 => k_extra "om0"); (case q9 => decide)) | ((with_reducible refine' Nat.lt_of_le_of_lt ?p9 ?q9); (case p9 => k_extra "om0"); (case q9 => decide)) | ((with_reducible refine' Int.le_trans ?p9 ?q9); (case p9 => k_extra "om0"); (case q9 => decide)) | ((with_reducible refine' Int.le_trans ?p9 ?q9); (case q9 => k_extra "om0"); (case p9 => decide)) | ((with_reducible refine' Int.lt_of_le_of_lt ?p9 ?q9); (case p9 => k_extra "om0"); (case q9 => decide)) | ((with_reducible refine' Int.lt_of_lt_of_le ?p9 ?q9); (case q9 => k_extra "om0"); (case p9 => decide)) | ((with_reducible refine And.intro ?_ ?_) <;> omega) | lia)
  k_with "call ref" => (k_dflt ((rename News _ _ _ _ => N9); (rename Fr _ _ _ _ => F9); (try k_fold); refine' con_use (counters_put_ok hs hm hd hlen hlow d1 d2) ?k1 ?k2 ?k3 ?k4 ?k5 ?kK ?ks ?kt ?kd ?ku ?_; (case k1 => k_asm); (case k2 => k_asm); (case k3 => k_asm); (case k4 => k_asm); (case k5 => k_asm); (case kK => exact rfl); (case ks => (first | (refine sub_of ?_; (repeat (first | refine List.Sublist.cons_cons _ ?_ | ((fail_if_success exact List.nil_sublist _); refine List.Sublist.cons _ ?_))); exact List.nil_sublist _) | ((repeat (refine all_cons (by k_mem) ?_)); exact List.forall_mem_nil _))); (case kt => first | exact List.forall_mem_nil _ | ((repeat (refine all_cons (by first | exact (News.get (by k_asm) (by k_mem)) | exact Fr.keep (by k_asm) _ _ (by assumption)) ?_)); exact List.forall_mem_nil _)); (case kd => omega); (case ku => omega); k_whole; intro r9 h' tk' F' K9 p9; obtain ⟨rfl, o', kvs', ho', hd'⟩ := p9; have N' : News g L h' (cntL Cd Cx R hh1 k1 n o') := by ((repeat (first | refine news_keep N9 (by k_mem) K9 (by ((repeat (refine nmem_cons (by first | omega | ((try dsimp only); omega)) ?_)); exact nmem_nil)) ?_ | refine news_new N9 (by k_mem) ho' ?_)); exact News.nil); (try dsimp only); (try k_sweep)))
  k_steps
  (refine' back_intro ?bF ?bL ?_; (case bF => k_asm); (case bL => first | exact List.forall_mem_nil _ | ((repeat (refine all_cons (by first | exact .inr (News.get (by with_reducible assumption) (by k_mem)) | exact .inl (by simp)) ?_)); exact List.forall_mem_nil _)); (exact ⟨rfl, _, _, News.get (by k_asm) (by k_mem), by assumption⟩))
end
section
theorem on_G1 : True := by
  k_with_none
  k_with "om2" => (lia)
  trivial
/-! the game -/
theorem off_of_lt {led : List (Addr × Obj)} {a : Addr} (h : ∀ p ∈ led, p.1 < a) : a ∉ led.map (·.1) := fun q => by
  obtain ⟨p, hp, e⟩ := List.mem_map.mp q
  exact absurd (h p hp) (e ▸ Nat.lt_irrefl _)
theorem ints_snoc {vs : List Value} {ns : List Int} {n : Int} {t : Tok} (h : IntsAre vs ns) : IntsAre (vs ++ [.int n t]) (ns ++ [n]) := by
  induction h with
  | nil => exact .cons n t .nil
  | cons k u _ ih => exact .cons k u ih
theorem my_len {prog : Program} {w : World} {A : Around} {E : Value → Shared → Prop} {s : Shared} {l : Addr} {vs : List Value} {n : Nat} {Q : Value → Shared → Prop} (hl : s.heap.IsList l vs.toArray) (e : vs.length = n) (hf : n < 2 ^ 62)
    (h : Q (.int (n : Nat) (s.toks + 1)) { s with toks := s.toks + 1 + 1 }) : wpAny (model prog w) A (call (.builtin "len") [.ref l]) Q E s := by
  subst e
  refine Calls.call_len_list hl (by simp; omega) ?_
  simpa using h
abbrev gameL (Gd G P Ch V Ck Dr No Ga : Nat) (hh : Nat → Int) (kk : Nat → Tok) (n np : Nat) (pvs : List Value) : List (Addr × Obj) :=
  [(Gd, dictOf [⟨hh 1, .str (Str.ofString "children") (kk 1), .ref Ch⟩, ⟨hh 2, .str (Str.ofString "values") (kk 2), .ref V⟩, ⟨hh 3, .str (Str.ofString "checks") (kk 3), .ref Ck⟩, ⟨hh 4, .str (Str.ofString "draws") (kk 4), .ref Dr⟩, ⟨hh 5, .str (Str.ofString "noisy_rows") (kk 5), .ref No⟩, ⟨hh 6, .str (Str.ofString "gain_rows") (kk 6), .ref Ga⟩, ⟨hh 7, .str (Str.ofString "path") (kk 7), .ref P⟩] n), (G, instObj 335 Gd), (P, listOf pvs.toArray np)]

theorem game_side_ok {w : World} {Gd G P Ch V Ck Dr No Ga : Nat} {hh : Nat → Int} {kk : Nat → Tok} {n np : Nat} {pvs : List Value} {path : List Int} (hp : IntsAre pvs path) (hl : path.length ≤ 10) :
    Con w 332 [.ref G] (gameL Gd G P Ch V Ck Dr No Ga hh kk n np pvs) [] [] 2 8 (fun _ r _ => ∃ t, r = .int (((path.length : Int) - 1) % 2) t) := by
  refine' con_enter [("self", .ref G)] ?ho ?hcd ?hb ?hl ?hdis ?_ ?c1 ?c2 ?c3 ?c4; (case ho => k_is); (case hcd => k_is); (case hb => exact rfl); (case hl => exact locs rfl); (try (case hdis => exact List.forall_mem_nil _)); (case c1 => exact rfl); (case c2 => exact rfl); (case c3 => exact rfl); (case c4 => decide); k_whole; intro dp un gd outer A₀ base g L h₁ H s mean mg mb B X T F N Tl Z hD hU; (try dsimp only); refine (let m9 : Str → Option Value := _; (fun (F : Fr _ _ _ m9) => ?_) F)
  k_fold
  k_with_none
  k_with "storeName" => (k_dflt (k_here; refine' store2 ?F ?N ?_ ?a ?b; (case F => k_asm); (case N => k_asm); (case a => rfl); (case b => rfl); k_whole; intro h' tk' F' N'; refine (let m9 : Str → Option Value := _; (fun (F' : Fr _ _ _ m9) => ?_) F'); (try k_sweep)))
  k_with "eval Constant int" => (k_dflt (first | with_reducible refine const_int3 ?_ | refine const_int3 ?_))
  k_with "binaryOp Add int int" => (k_dflt (first | with_reducible refine add_int3 ?_ | refine add_int3 ?_))
  k_with "binaryOp Sub int int" => (k_dflt (first | with_reducible refine sub_int3 ?_ | refine sub_int3 ?_))
  k_with "unaryOp USub int" => (k_dflt (first | with_reducible refine neg_int3 ?_ | refine neg_int3 ?_))
  k_with "om2" => (lia)
  k_steps
  (refine' back_intro ?bF ?bL ?_; (case bF => k_asm); (case bL => first | exact List.forall_mem_nil _ | ((repeat (refine all_cons (by first | exact .inr (News.get (by with_reducible assumption) (by k_mem)) | exact .inl (by simp)) ?_)); exact List.forall_mem_nil _)); (exact ⟨_, by rw [bitAnd_m1]⟩))

theorem game_value_ok {w : World} {Gd G P Ch V Ck Dr No Ga : Nat} {hh : Nat → Int} {kk : Nat → Tok} {n np nv : Nat} {pvs vvs : List Value} {path vals : List Int} {node : Nat} (hp : IntsAre pvs path) (hl : 1 ≤ path.length ∧ path.length ≤ 10) (hlast : path.getD (-1 + (path.length : Int)).toNat 0 = (node : Int)) (hv : IntsAre vvs vals) (hn : node < vals.length) (hlv : vals.length ≤ 20) :
    Con w 290 [.ref G] (gameL Gd G P Ch V Ck Dr No Ga hh kk n np pvs ++ [(V, listOf vvs.toArray nv)]) [] [] 2 8 (fun _ r _ => ∃ t, r = .int (vals.getD node 0) t) := by
  refine' con_enter [("self", .ref G)] ?ho ?hcd ?hb ?hl ?hdis ?_ ?c1 ?c2 ?c3 ?c4; (case ho => k_is); (case hcd => k_is); (case hb => exact rfl); (case hl => exact locs rfl); (try (case hdis => exact List.forall_mem_nil _)); (case c1 => exact rfl); (case c2 => exact rfl); (case c3 => exact rfl); (case c4 => decide); k_whole; intro dp un gd outer A₀ base g L h₁ H s mean mg mb B X T F N Tl Z hD hU; (try dsimp only); refine (let m9 : Str → Option Value := _; (fun (F : Fr _ _ _ m9) => ?_) F)
  k_fold
  k_with_none
  k_with "storeName" => (k_dflt (k_here; refine' store2 ?F ?N ?_ ?a ?b; (case F => k_asm); (case N => k_asm); (case a => rfl); (case b => rfl); k_whole; intro h' tk' F' N'; refine (let m9 : Str → Option Value := _; (fun (F' : Fr _ _ _ m9) => ?_) F'); (try k_sweep)))
  k_with "eval Constant int" => (k_dflt (first | with_reducible refine const_int3 ?_ | refine const_int3 ?_))
  k_with "binaryOp Add int int" => (k_dflt (first | with_reducible refine add_int3 ?_ | refine add_int3 ?_))
  k_with "binaryOp Sub int int" => (k_dflt (first | with_reducible refine sub_int3 ?_ | refine sub_int3 ?_))
  k_with "unaryOp USub int" => (k_dflt (first | with_reducible refine neg_int3 ?_ | refine neg_int3 ?_))
  k_with "om2" => (lia)
  k_steps
  (refine' back_intro ?bF ?bL ?_; (case bF => k_asm); (case bL => first | exact List.forall_mem_nil _ | ((repeat (refine all_cons (by first | exact .inr (News.get (by with_reducible assumption) (by k_mem)) | exact .inl (by simp)) ?_)); exact List.forall_mem_nil _)); (exact ⟨_, by rw [hlast]; rfl⟩))

theorem game_is_noisy_ok {w : World} {Gd G P Ch V Ck Dr No Ga : Nat} {hh : Nat → Int} {kk : Nat → Tok} {n np nr nb1 : Nat} {pvs rvs bvs : List Value} {path : List Int} {node nb : Nat} {mv : Int} {t1 : Tok} {b : Bool} (hp : IntsAre pvs path) (hl : 1 ≤ path.length ∧ path.length ≤ 10) (hlast : path.getD (-1 + (path.length : Int)).toNat 0 = (node : Int))
    (hn : node < 20) (hr : rvs[node]? = some (.ref nb)) (hm : 1 ≤ mv ∧ mv ≤ 10) (hb : bvs[(mv - 1).toNat]? = some (.bool b)) (hdis : nb ∉ (gameL Gd G P Ch V Ck Dr No Ga hh kk n np pvs ++ [(No, listOf rvs.toArray nr)]).map (·.1)) :
    Con w 318 [.ref G, .int mv t1] (gameL Gd G P Ch V Ck Dr No Ga hh kk n np pvs ++ [(No, listOf rvs.toArray nr)]) [(nb, listOf bvs.toArray nb1)] [] 2 8 (fun _ r _ => r = .bool b) := by
  refine' con_enter [("self", .ref G), ("move", .int mv t1)] ?ho ?hcd ?hb ?hl ?hdis ?_ ?c1 ?c2 ?c3 ?c4; (case ho => k_is); (case hcd => k_is); (case hb => exact rfl); (case hl => exact locs rfl); (try (case hdis => exact List.forall_mem_nil _)); (case c1 => exact rfl); (case c2 => exact rfl); (case c3 => exact rfl); (case c4 => decide)
  case hdis => exact List.forall_mem_cons.mpr ⟨hdis, List.forall_mem_nil _⟩
  k_whole; intro dp un gd outer A₀ base g L h₁ H s mean mg mb B X T F N Tl Z hD hU; (try dsimp only); refine (let m9 : Str → Option Value := _; (fun (F : Fr _ _ _ m9) => ?_) F)
  k_fold
  have hnb := Tl _ (.head _)
  k_with_none
  k_with "storeName" => (k_dflt (k_here; refine' store2 ?F ?N ?_ ?a ?b; (case F => k_asm); (case N => k_asm); (case a => rfl); (case b => rfl); k_whole; intro h' tk' F' N'; refine (let m9 : Str → Option Value := _; (fun (F' : Fr _ _ _ m9) => ?_) F'); (try k_sweep)))
  k_with "eval Constant int" => (k_dflt (first | with_reducible refine const_int3 ?_ | refine const_int3 ?_))
  k_with "binaryOp Add int int" => (k_dflt (first | with_reducible refine add_int3 ?_ | refine add_int3 ?_))
  k_with "binaryOp Sub int int" => (k_dflt (first | with_reducible refine sub_int3 ?_ | refine sub_int3 ?_))
  k_with "unaryOp USub int" => (k_dflt (first | with_reducible refine neg_int3 ?_ | refine neg_int3 ?_))
  k_with "om2" => (lia)
  k_with "subscriptTail" => (k_dflt ((refine my_item (isList_kept (by k_asm) hnb) (by omega) (by omega) hb ?_)))
  k_with "subscriptTail" => (k_dflt ((refine my_item (News.isList (by k_asm) (by k_mem)) (by omega) (by omega) (by rw [hlast]; exact hr) ?_)))
  k_steps
  (refine' back_intro ?bF ?bL ?_; (case bF => k_asm); (case bL => first | exact List.forall_mem_nil _ | ((repeat (refine all_cons (by first | exact .inr (News.get (by with_reducible assumption) (by k_mem)) | exact .inl (by simp)) ?_)); exact List.forall_mem_nil _)); (rfl))

theorem game_gain_ok {w : World} {Gd G P Ch V Ck Dr No Ga : Nat} {hh : Nat → Int} {kk : Nat → Tok} {n np nr nb1 : Nat} {pvs rvs bvs : List Value} {path gs : List Int} {node nb : Nat} {mv : Int} {t1 : Tok} (hp : IntsAre pvs path) (hl : 1 ≤ path.length ∧ path.length ≤ 10) (hlast : path.getD (-1 + (path.length : Int)).toNat 0 = (node : Int))
    (hn : node < 20) (hr : rvs[node]? = some (.ref nb)) (hm : 1 ≤ mv ∧ mv ≤ 10) (hg : IntsAre bvs gs) (hlg : mv ≤ gs.length) (hdis : nb ∉ (gameL Gd G P Ch V Ck Dr No Ga hh kk n np pvs ++ [(Ga, listOf rvs.toArray nr)]).map (·.1)) :
    Con w 325 [.ref G, .int mv t1] (gameL Gd G P Ch V Ck Dr No Ga hh kk n np pvs ++ [(Ga, listOf rvs.toArray nr)]) [(nb, listOf bvs.toArray nb1)] [] 2 8 (fun _ r _ => ∃ t, r = .int (gs.getD (mv - 1).toNat 0) t) := by
  refine' con_enter [("self", .ref G), ("move", .int mv t1)] ?ho ?hcd ?hb ?hl ?hdis ?_ ?c1 ?c2 ?c3 ?c4; (case ho => k_is); (case hcd => k_is); (case hb => exact rfl); (case hl => exact locs rfl); (try (case hdis => exact List.forall_mem_nil _)); (case c1 => exact rfl); (case c2 => exact rfl); (case c3 => exact rfl); (case c4 => decide)
  case hdis => exact List.forall_mem_cons.mpr ⟨hdis, List.forall_mem_nil _⟩
  k_whole; intro dp un gd outer A₀ base g L h₁ H s mean mg mb B X T F N Tl Z hD hU; (try dsimp only); refine (let m9 : Str → Option Value := _; (fun (F : Fr _ _ _ m9) => ?_) F)
  k_fold
  have hnb := Tl _ (.head _)
  obtain ⟨t9, ht9⟩ := hg.get (mv - 1).toNat (gs.getD (mv - 1).toNat 0) (by rw [List.getD_eq_getElem?_getD, List.getElem?_eq_getElem (by omega)]; rfl)
  k_with_none
  k_with "storeName" => (k_dflt (k_here; refine' store2 ?F ?N ?_ ?a ?b; (case F => k_asm); (case N => k_asm); (case a => rfl); (case b => rfl); k_whole; intro h' tk' F' N'; refine (let m9 : Str → Option Value := _; (fun (F' : Fr _ _ _ m9) => ?_) F'); (try k_sweep)))
  k_with "eval Constant int" => (k_dflt (first | with_reducible refine const_int3 ?_ | refine const_int3 ?_))
  k_with "binaryOp Add int int" => (k_dflt (first | with_reducible refine add_int3 ?_ | refine add_int3 ?_))
  k_with "binaryOp Sub int int" => (k_dflt (first | with_reducible refine sub_int3 ?_ | refine sub_int3 ?_))
  k_with "unaryOp USub int" => (k_dflt (first | with_reducible refine neg_int3 ?_ | refine neg_int3 ?_))
  k_with "om2" => (lia)
  k_with "subscriptTail" => (k_dflt ((refine my_item (isList_kept (by k_asm) hnb) (by omega) (by omega) ht9 ?_)))
  k_with "subscriptTail" => (k_dflt ((refine my_item (News.isList (by k_asm) (by k_mem)) (by omega) (by omega) (by rw [hlast]; exact hr) ?_)))
  k_steps
  (refine' back_intro ?bF ?bL ?_; (case bF => k_asm); (case bL => first | exact List.forall_mem_nil _ | ((repeat (refine all_cons (by first | exact .inr (News.get (by with_reducible assumption) (by k_mem)) | exact .inl (by simp)) ?_)); exact List.forall_mem_nil _)); (exact ⟨_, rfl⟩))

theorem game_moves_ok {w : World} {Gd G P Ch V Ck Dr No Ga : Nat} {hh : Nat → Int} {kk : Nat → Tok} {n np nr nb1 : Nat} {pvs rvs bvs : List Value} {path kids : List Int} {node nb : Nat} (hp : IntsAre pvs path) (hl : 1 ≤ path.length ∧ path.length ≤ 10) (hlast : path.getD (-1 + (path.length : Int)).toNat 0 = (node : Int))
    (hn : node < 20) (hr : rvs[node]? = some (.ref nb)) (hg : IntsAre bvs kids) (hlg : kids.length ≤ 10) (hdis : nb ∉ (gameL Gd G P Ch V Ck Dr No Ga hh kk n np pvs ++ [(Ch, listOf rvs.toArray nr)]).map (·.1)) :
    Con w 264 [.ref G] (gameL Gd G P Ch V Ck Dr No Ga hh kk n np pvs ++ [(Ch, listOf rvs.toArray nr)]) [(nb, listOf bvs.toArray nb1)] [] 2 8 (fun H r h' => ∃ a, r = .ref a ∧ H.get? a = none ∧ isL h' a (rangeKs 1 kids.length)) := by
  refine' con_enter [("self", .ref G)] ?ho ?hcd ?hb ?hl ?hdis ?_ ?c1 ?c2 ?c3 ?c4; (case ho => k_is); (case hcd => k_is); (case hb => exact rfl); (case hl => exact locs rfl); (try (case hdis => exact List.forall_mem_nil _)); (case c1 => exact rfl); (case c2 => exact rfl); (case c3 => exact rfl); (case c4 => decide)
  case hdis => exact List.forall_mem_cons.mpr ⟨hdis, List.forall_mem_nil _⟩
  k_whole; intro dp un gd outer A₀ base g L h₁ H s mean mg mb B X T F N Tl Z hD hU; (try dsimp only); refine (let m9 : Str → Option Value := _; (fun (F : Fr _ _ _ m9) => ?_) F)
  k_fold
  have hnb := Tl _ (.head _)
  have hgl := hg.length
  k_with_none
  k_with "storeName" => (k_dflt (k_here; refine' store2 ?F ?N ?_ ?a ?b; (case F => k_asm); (case N => k_asm); (case a => rfl); (case b => rfl); k_whole; intro h' tk' F' N'; refine (let m9 : Str → Option Value := _; (fun (F' : Fr _ _ _ m9) => ?_) F'); (try k_sweep)))
  k_with "eval Constant int" => (k_dflt (first | with_reducible refine const_int3 ?_ | refine const_int3 ?_))
  k_with "binaryOp Add int int" => (k_dflt (first | with_reducible refine add_int3 ?_ | refine add_int3 ?_))
  k_with "binaryOp Sub int int" => (k_dflt (first | with_reducible refine sub_int3 ?_ | refine sub_int3 ?_))
  k_with "unaryOp USub int" => (k_dflt (first | with_reducible refine neg_int3 ?_ | refine neg_int3 ?_))
  k_with "om2" => (lia)
  k_with "subscriptTail" => (k_dflt ((refine my_item (News.isList (by k_asm) (by k_mem)) (by omega) (by omega) (by rw [hlast]; exact hr) ?_)))
  k_with "call builtin:len" => (k_dflt ((refine my_len (isList_kept (by k_asm) hnb) hgl (by omega) ?_)))
  k_steps
  (refine' back_intro ?bF ?bL ?_; (case bF => k_asm); (case bL => first | exact List.forall_mem_nil _ | ((repeat (refine all_cons (by first | exact .inr (News.get (by with_reducible assumption) (by k_mem)) | exact .inl (by simp)) ?_)); exact List.forall_mem_nil _)); (exact ⟨_, rfl, Z.fresh (News.fresh (by k_asm) (.head _)) (off_of_lt (by assumption)), _, _, News.get (by k_asm) (.head _), by rw [show kids.length = ((kids.length : Int) + 1 - 1).toNat by omega]; assumption⟩))

theorem game_make_ok {w : World} {Gd G P Ch V Ck Dr No Ga : Nat} {hh : Nat → Int} {kk : Nat → Tok} {n np nr nb1 : Nat} {pvs rvs bvs : List Value} {path kids : List Int} {node nb : Nat} {mv : Int} {t1 : Tok} (hp : IntsAre pvs path) (hl : 1 ≤ path.length ∧ path.length ≤ 10) (hlast : path.getD (-1 + (path.length : Int)).toNat 0 = (node : Int))
    (hn : node < 20) (hr : rvs[node]? = some (.ref nb)) (hg : IntsAre bvs kids) (hlg : kids.length ≤ 10) (hm : 1 ≤ mv ∧ mv ≤ kids.length) (d1 : Gd < G) (d2 : G < P) (d3 : Ch < Gd) (hdis : nb ∉ (gameL Gd G P Ch V Ck Dr No Ga hh kk n np pvs ++ [(Ch, listOf rvs.toArray nr)]).map (·.1)) :
    Con w 276 [.ref G, .int mv t1] (gameL Gd G P Ch V Ck Dr No Ga hh kk n np pvs ++ [(Ch, listOf rvs.toArray nr)]) [(nb, listOf bvs.toArray nb1)] [P] 2 8 (fun _ r h' => r = .none ∧ isL h' P (path ++ [kids.getD (mv - 1).toNat 0])) := by
  refine' con_enter [("self", .ref G), ("move", .int mv t1)] ?ho ?hcd ?hb ?hl ?hdis ?_ ?c1 ?c2 ?c3 ?c4; (case ho => k_is); (case hcd => k_is); (case hb => exact rfl); (case hl => exact locs rfl); (try (case hdis => exact List.forall_mem_nil _)); (case c1 => exact rfl); (case c2 => exact rfl); (case c3 => exact rfl); (case c4 => decide)
  case hdis => exact List.forall_mem_cons.mpr ⟨hdis, List.forall_mem_nil _⟩
  k_whole; intro dp un gd outer A₀ base g L h₁ H s mean mg mb B X T F N Tl Z hD hU; (try dsimp only); refine (let m9 : Str → Option Value := _; (fun (F : Fr _ _ _ m9) => ?_) F)
  k_fold
  have hnb := Tl _ (.head _)
  obtain ⟨t9, ht9⟩ := hg.get (mv - 1).toNat (kids.getD (mv - 1).toNat 0) (by rw [List.getD_eq_getElem?_getD, List.getElem?_eq_getElem (by omega)]; rfl)
  have hgl := hg.length
  k_with_none
  k_with "storeName" => (k_dflt (k_here; refine' store2 ?F ?N ?_ ?a ?b; (case F => k_asm); (case N => k_asm); (case a => rfl); (case b => rfl); k_whole; intro h' tk' F' N'; refine (let m9 : Str → Option Value := _; (fun (F' : Fr _ _ _ m9) => ?_) F'); (try k_sweep)))
  k_with "eval Constant int" => (k_dflt (first | with_reducible refine const_int3 ?_ | refine const_int3 ?_))
  k_with "binaryOp Add int int" => (k_dflt (first | with_reducible refine add_int3 ?_ | refine add_int3 ?_))
  k_with "binaryOp Sub int int" => (k_dflt (first | with_reducible refine sub_int3 ?_ | refine sub_int3 ?_))
  k_with "unaryOp USub int" => (k_dflt (first | with_reducible refine neg_int3 ?_ | refine neg_int3 ?_))
  k_with "om2" => (lia)
  k_with "subscriptTail" => (k_dflt ((refine my_item (isList_kept (by k_asm) hnb) (by omega) (by omega) ht9 ?_)))
  k_with "subscriptTail" => (k_dflt ((refine my_item (News.isList (by k_asm) (by k_mem)) (by omega) (by omega) (by rw [hlast]; exact hr) ?_)))
  k_with "call builtin:len" => (k_dflt ((refine my_len (isList_kept (by k_asm) hnb) hgl (by omega) ?_)))
  k_steps
  (refine' back_intro ?bF ?bL ?_; (case bF => k_asm); (case bL => first | exact List.forall_mem_nil _ | ((repeat (refine all_cons (by first | exact .inr (News.get (by with_reducible assumption) (by k_mem)) | exact .inl (by simp)) ?_)); exact List.forall_mem_nil _)); (exact ⟨rfl, pvs ++ [Value.int (kids.getD (mv - 1).toNat 0) t9], _, by have q9 := News.get (by k_asm) (.tail _ (.tail _ (.head _))); simpa using q9, ints_snoc hp⟩))

theorem game_undo_ok {w : World} {Gd G P Ch V Ck Dr No Ga : Nat} {hh : Nat → Int} {kk : Nat → Tok} {n np : Nat} {pvs : List Value} {path : List Int} {x : Int} (hp : IntsAre pvs (path ++ [x])) (hl : 1 ≤ path.length ∧ path.length ≤ 10)
    (d1 : Gd < G) (d2 : G < P) :
    Con w 283 [.ref G] (gameL Gd G P Ch V Ck Dr No Ga hh kk n np pvs) [] [P] 2 8 (fun _ r h' => r = .none ∧ isL h' P path) := by
  refine' con_enter [("self", .ref G)] ?ho ?hcd ?hb ?hl ?hdis ?_ ?c1 ?c2 ?c3 ?c4; (case ho => k_is); (case hcd => k_is); (case hb => exact rfl); (case hl => exact locs rfl); (try (case hdis => exact List.forall_mem_nil _)); (case c1 => exact rfl); (case c2 => exact rfl); (case c3 => exact rfl); (case c4 => decide); k_whole; intro dp un gd outer A₀ base g L h₁ H s mean mg mb B X T F N Tl Z hD hU; (try dsimp only); refine (let m9 : Str → Option Value := _; (fun (F : Fr _ _ _ m9) => ?_) F)
  k_fold
  have hpl : pvs.length = path.length + 1 := by rw [hp.length]; simp
  have hdl : IntsAre pvs.dropLast path := by
    obtain ⟨_, _, _, _, h3⟩ := kpa_ints hp (by omega)
    simpa using h3
  k_with_none
  k_with "storeName" => (k_dflt (k_here; refine' store2 ?F ?N ?_ ?a ?b; (case F => k_asm); (case N => k_asm); (case a => rfl); (case b => rfl); k_whole; intro h' tk' F' N'; refine (let m9 : Str → Option Value := _; (fun (F' : Fr _ _ _ m9) => ?_) F'); (try k_sweep)))
  k_with "eval Constant int" => (k_dflt (first | with_reducible refine const_int3 ?_ | refine const_int3 ?_))
  k_with "binaryOp Add int int" => (k_dflt (first | with_reducible refine add_int3 ?_ | refine add_int3 ?_))
  k_with "binaryOp Sub int int" => (k_dflt (first | with_reducible refine sub_int3 ?_ | refine sub_int3 ?_))
  k_with "unaryOp USub int" => (k_dflt (first | with_reducible refine neg_int3 ?_ | refine neg_int3 ?_))
  k_with "om2" => (lia)
  k_steps
  · (refine' back_intro ?bF ?bL ?_; (case bF => k_asm); (case bL => first | exact List.forall_mem_nil _ | ((repeat (refine all_cons (by first | exact .inr (News.get (by with_reducible assumption) (by k_mem)) | exact .inl (by simp)) ?_)); exact List.forall_mem_nil _)); (exact ⟨rfl, _, _, News.get (by k_asm) (by k_mem), hdl⟩))
end
section
theorem on_Loops : True := by
  k_with_none
  k_with "om2" => (lia)
  trivial
/-! loops by an invariant over frame and ledger -/
def itCls (o : Obj) : Bool := o.cls == .type "list_iterator" || o.cls == .type "range_iterator" || o.cls == .type "dict_keyiterator"
def NoIt (news : List (Addr × Obj)) : Prop := ∀ p ∈ news, itCls p.2 = false
def EndJ (h₀ : Heap) (L : Addr) (own : List (Addr × Obj)) (J : (Str → Option Value) → List (Addr × Obj) → Prop) (s₁ : Shared) (Q : Flow → Shared → Prop) (f : Flow) (s₂ : Shared) : Prop :=
  match f with
  | .ret v => Q (.ret v) s₂
  | .brk => Q .next s₂
  | _ => ∃ h' tk m' news', s₂ = { s₁ with heap := h', toks := tk } ∧ Fr h₀ L h' m' ∧ News h₀ L h' (own ++ news') ∧ J m' news'
theorem endJ_next {h₀ h' : Heap} {L : Addr} {own news' : List (Addr × Obj)} {J : (Str → Option Value) → List (Addr × Obj) → Prop} {s₁ : Shared} {Q : Flow → Shared → Prop} {m' : Str → Option Value} {tk : Nat} (F : Fr h₀ L h' m') (N : News h₀ L h' (own ++ news')) (j : J m' news') :
    EndJ h₀ L own J s₁ Q .next { s₁ with heap := h', toks := tk } := ⟨h', tk, m', news', rfl, F, N, j⟩

section
variable {prog : Program} {w : World} {A : Around} {E : Value → Shared → Prop} {s : Shared} {env : Env} {h₀ : Heap} {x : Str} {body : List Stmt} {Q : Flow → Shared → Prop}
theorem walk_J {I : Addr} {fp : List Addr} {n : Nat} {P : Nat → Value → Prop} {St : Nat → Heap → Prop} {m₀ : Str → Option Value} {news : List (Addr × Obj)} {s₂ : Shared} (adr : List Addr)
    (J : Nat → (Str → Option Value) → List (Addr × Obj) → Prop) (W : Walks prog w A I fp [I] n P St) (hit : ∀ i h, St i h → ∃ o, h.get? I = some o ∧ itCls o = true)
    (hLf : env.locals ∉ fp) (hI : h₀.get? I = none) (hst : St 0 s₂.heap) (F : Fr h₀ env.locals s₂.heap m₀) (N : News h₀ env.locals s₂.heap news) (hfp : ∀ b ∈ fp, b ∉ adr) (hj : J 0 m₀ news) (hno : ∀ i m n, J i m n → NoIt n)
    (turn : ∀ i v m₁ news₁ h tk own, i < n → P i v → OwnOff own adr → J i m₁ news₁ → Fr h₀ env.locals h (fun y => if y = x then some v else m₁ y) → News h₀ env.locals h (own ++ news₁) →
      wpAny (model prog w) A (execs body env) (EndJ h₀ env.locals own (J (i + 1)) { s₂ with heap := h, toks := tk } Q) E { s₂ with heap := h, toks := tk })
    (done : ∀ m₁ news₁ h tk, J n m₁ news₁ → Fr h₀ env.locals h m₁ → News h₀ env.locals h news₁ → Q .next { s₂ with heap := h, toks := tk }) :
    LoopAtV prog w A h₀ env x body Q E (.ref I) s₂ := by
  have off : ∀ {i h n} {L : Addr} (_ : St i h) (_ : News h₀ L h n) (_ : NoIt n), ∀ p ∈ n, p.1 ∉ [I] := fun st N no p hp hm => by
    obtain ⟨o, ho, hc⟩ := hit _ _ st
    have e := List.mem_singleton.mp hm
    have q := (N p hp).1
    rw [e, ho] at q
    have q := Option.some.inj q
    have := no p hp
    rw [← q, hc] at this; cases this
  refine ei9 I fp [I] n P St m₀ news J ⟨rfl, W, hLf, fun b hb => (List.mem_singleton.mp hb) ▸ hI, off hst N (hno _ _ _ hj), hst, F, N, hj, ?_, ?_⟩
  · rintro i v m₁ news₁ s₁ own ⟨h, tk, rfl⟩ hi hP hJ _ hsub hown hall hst₁ F₁ N₁
    refine wpAny_mono (turn i v m₁ news₁ h tk own hi hP (fun p hp b hb e => hfp _ (hsub p hp) (e ▸ hb)) hJ F₁ N₁) (fun f s₃ p => ?_) fun _ _ e => e
    have up : (∃ h' tk' m' news', s₃ = { s₂ with heap := h', toks := tk' } ∧ Fr h₀ env.locals h' m' ∧ News h₀ env.locals h' (own ++ news') ∧ J (i + 1) m' news') → LoopStepU h₀ env.locals [I] own (J (i + 1)) { s₂ with heap := h, toks := tk } .next s₃ := by
      rintro ⟨h', tk', m', news', rfl, F', N', j⟩
      refine ⟨rfl, h', tk', m', news', rfl, F', N', ?_, j⟩
      have hst' : St (i + 1) h' := W.frame _ _ _ hst₁ fun b hb o e => by
        cases hn : h₀.get? b with
        | some o₀ =>
          have : o₀ = o := by have := F₁.keep b o₀ hn; rw [e] at this; exact (Option.some.inj this).symm
          exact this ▸ F'.keep b o₀ hn
        | none => exact (N' _ (List.mem_append_left _ (hall b hb hn o e))).1
      exact off hst' (fun p hp => N' p (List.mem_append_right _ hp)) (hno _ _ _ j)
    cases f with
    | ret v => exact .ret p
    | brk => exact .brk p
    | next => exact .next (up p)
    | cont => exact .cont (up p)
  · rintro h' tk m' news' F' N' _ hJ
    exact done m' news' h' tk hJ F' N'

/-- for x in a list, by J -/
theorem list_J {l : Nat} {vs : List Value} {m₀ : Str → Option Value} {news : List (Addr × Obj)} (adr : List Addr) (J : Nat → (Str → Option Value) → List (Addr × Obj) → Prop)
    (hh : A.handled = none) (hl : s.heap.IsList l vs.toArray) (hlL : l ≠ env.locals) (F : Fr h₀ env.locals s.heap m₀) (N : News h₀ env.locals s.heap news) (ha : ∀ a ∈ adr, a ≠ l ∧ (s.heap.get? a).isSome = true) (hj : J 0 m₀ news) (hno : ∀ i m n, J i m n → NoIt n)
    (turn : ∀ i v m₁ news₁ h tk own, vs[i]? = some v → OwnOff own adr → J i m₁ news₁ → Fr h₀ env.locals h (fun y => if y = x then some v else m₁ y) → News h₀ env.locals h (own ++ news₁) →
      wpAny (model prog w) A (execs body env) (EndJ h₀ env.locals own (J (i + 1)) { s with heap := h, toks := tk } Q) E { s with heap := h, toks := tk })
    (done : ∀ m₁ news₁ h tk, J vs.length m₁ news₁ → Fr h₀ env.locals h m₁ → News h₀ env.locals h news₁ → Q .next { s with heap := h, toks := tk }) :
    wpAny (model prog w) A (pyIter (.ref l)) (fun it s₂ => LoopAtV prog w A h₀ env x body Q E it s₂) E s := by
  obtain ⟨ol, hol, _⟩ := id hl
  have hlt : l < s.heap.objs.size := Heap.lt_size hol
  have hne : l ≠ s.heap.objs.size := Nat.ne_of_lt hlt
  refine wpAny_pyIter_list hl ?_
  have W := Walks.list (prog := prog) (w := w) hh s.heap.objs.size l hne vs.toArray
  have e : vs.toArray.size = vs.length := by simp
  rw [e] at W
  refine walk_J adr J W (fun i h st => ?_) ?_ (next_is_new F) ⟨⟨_, Heap.get?_push_size _ rfl, rfl, rfl⟩, hl.at fun o e => Heap.get?_push_of_some _ e⟩ (F.push _) (fun p hp => ⟨Heap.get?_push_of_some _ (N p hp).1, (N p hp).2⟩) ?_ hj hno ?_ done
  · obtain ⟨⟨o, ho, hc, _⟩, _⟩ := st
    exact ⟨o, ho, by unfold itCls; rw [hc]; rfl⟩
  · intro hm
    rcases List.mem_cons.mp hm with e | hm
    · exact absurd F.ns.lt (e ▸ Nat.lt_irrefl _)
    · exact hlL (List.mem_singleton.mp hm).symm
  · intro b hb hm
    obtain ⟨h1, h2⟩ := ha b hm
    obtain ⟨o, ho⟩ := Option.isSome_iff_exists.mp h2
    rcases List.mem_cons.mp hb with e | hb
    · exact absurd (Heap.lt_size ho) (e ▸ Nat.lt_irrefl _)
    · exact h1 (List.mem_singleton.mp hb)
  · intro i v m₁ news₁ h tk own hi hP
    exact turn i v m₁ news₁ h tk own (by simpa using hP)

/-- for x in a range, by J -/
theorem range_J {r : Addr} {a₀ b₀ : Int} {t₀ u₀ v₀ : Tok} {n : Nat} {m₀ : Str → Option Value} {news : List (Addr × Obj)} (adr : List Addr) (J : Nat → (Str → Option Value) → List (Addr × Obj) → Prop)
    (hh : A.handled = none) (hr : IsRange s.heap r a₀ b₀ 1 t₀ u₀ v₀) (hsmall : Builtin.Range.small a₀ b₀ 1 = true) (hn : Builtin.Range.rangeSize a₀ b₀ 1 = (n : Int)) (F : Fr h₀ env.locals s.heap m₀) (N : News h₀ env.locals s.heap news) (ha : ∀ a ∈ adr, (s.heap.get? a).isSome = true) (hj : J 0 m₀ news) (hno : ∀ i m n, J i m n → NoIt n)
    (turn : ∀ (i : Nat) t m₁ news₁ h tk own, i < n → OwnOff own adr → J i m₁ news₁ → Fr h₀ env.locals h (fun y => if y = x then some (.int (a₀ + i) t) else m₁ y) → News h₀ env.locals h (own ++ news₁) →
      wpAny (model prog w) A (execs body env) (EndJ h₀ env.locals own (J (i + 1)) { s with heap := h, toks := tk } Q) E { s with heap := h, toks := tk })
    (done : ∀ m₁ news₁ h tk, J n m₁ news₁ → Fr h₀ env.locals h m₁ → News h₀ env.locals h news₁ → Q .next { s with heap := h, toks := tk }) :
    wpAny (model prog w) A (pyIter (.ref r)) (fun it s₂ => LoopAtV prog w A h₀ env x body Q E it s₂) E s := by
  refine wpAny_pyIter_range hr hsmall ?_
  have W := Walks.range (prog := prog) (w := w) hh s.heap.objs.size a₀ 1 n
  refine walk_J adr J W (fun i h st => ?_) ?_ (next_is_new F) (by rw [hn]; simpa using Heap.get?_push_size _ rfl) (F.push _) (fun p hp => ⟨Heap.get?_push_of_some _ (N p hp).1, (N p hp).2⟩) ?_ hj hno ?_ done
  · exact ⟨_, st, rfl⟩
  · intro hm
    exact absurd F.ns.lt ((List.mem_singleton.mp hm) ▸ Nat.lt_irrefl _)
  · intro b hb hm
    obtain ⟨o, ho⟩ := Option.isSome_iff_exists.mp (ha b hm)
    exact absurd (Heap.lt_size ho) ((List.mem_singleton.mp hb) ▸ Nat.lt_irrefl _)
  · rintro i v m₁ news₁ h tk own hi ⟨t, rfl⟩ ho hJ F₁ N₁
    have e1 : a₀ + (i : Int) * 1 = a₀ + (i : Int) := by omega
    rw [e1] at F₁
    exact turn i t m₁ news₁ h tk own hi ho hJ F₁ N₁
end

/-! the same, the frame's names told -/
def KJ {σ : Type} (Led : σ → List (Addr × Obj)) (ps : σ → List (Str × Value)) (x : Str) (stored : List Str) (m₀ : Str → Option Value) (P : Nat → σ → Prop) (i : Nat) (m : Str → Option Value) (nx : List (Addr × Obj)) : Prop :=
  ∃ c : σ, nx = Led c ∧ P i c ∧ (∀ p ∈ ps c, m p.1 = some p.2) ∧ (∀ z, z ≠ x → (∀ p ∈ ps c, z ≠ p.1) → stored.contains z = false → m z = m₀ z)
theorem endK {σ : Type} {Led : σ → List (Addr × Obj)} {ps : σ → List (Str × Value)} {x : Str} {stored : List Str} {m₀ : Str → Option Value} {P : Nat → σ → Prop} {i : Nat} {h₀ h' : Heap} {L : Addr} {own nn : List (Addr × Obj)} {s₁ : Shared} {Q : Flow → Shared → Prop} {m' : Str → Option Value} {tk : Nat}
    (c : σ) (F : Fr h₀ L h' m') (N : News h₀ L h' nn) (ho : ∀ p ∈ own, p ∈ nn) (hl : ∀ p ∈ Led c, p ∈ nn) (p : P i c) (h1 : ∀ p ∈ ps c, m' p.1 = some p.2) (h2 : ∀ z, z ≠ x → (∀ p ∈ ps c, z ≠ p.1) → stored.contains z = false → m' z = m₀ z) :
    EndJ h₀ L own (KJ Led ps x stored m₀ P i) s₁ Q .next { s₁ with heap := h', toks := tk } := ⟨h', tk, m', _, rfl, F, fun p hp => (List.mem_append.mp hp).elim (fun q => N p (ho p q)) fun q => N p (hl p q), c, rfl, p, h1, h2⟩
theorem news_own {h₀ h h' : Heap} {L : Addr} {own news : List (Addr × Obj)} {wr adr : List Addr} (N : News h₀ L h news) (hs : ∀ p ∈ own, p ∈ news) (K : Kept wr h h') (ho : OwnOff own adr) (hw : ∀ a ∈ wr, a ∈ adr) : News h₀ L h' own := fun p hp =>
  ⟨K _ _ (N p (hs p hp)).1 fun q => ho p hp _ (hw _ q) rfl, (N p (hs p hp)).2⟩
theorem own_last {h₀ h : Heap} {L : Addr} {own led : List (Addr × Obj)} (N : News h₀ L h (own ++ led)) : News h₀ L h (led ++ own) := fun p hp => N p ((List.mem_append.mp hp).elim (fun q => List.mem_append_right _ q) fun q => List.mem_append_left _ q)
section
variable {prog : Program} {w : World} {A : Around} {E : Value → Shared → Prop} {s : Shared} {env : Env} {h₀ : Heap} {x : Str} {body : List Stmt} {Q : Flow → Shared → Prop} {σ : Type}
theorem list_K {l : Nat} {vs : List Value} {m₀ : Str → Option Value} (adr : List Addr) (Led : σ → List (Addr × Obj)) (ps : σ → List (Str × Value)) (stored : List Str) (P : Nat → σ → Prop) (c₀ : σ)
    (hh : A.handled = none) (hl : s.heap.IsList l vs.toArray) (hlL : l ≠ env.locals) (F : Fr h₀ env.locals s.heap m₀) (N : News h₀ env.locals s.heap (Led c₀)) (ha : ∀ a ∈ adr, a ≠ l ∧ (s.heap.get? a).isSome = true) (hp : P 0 c₀) (hk : ∀ p ∈ ps c₀, m₀ p.1 = some p.2)
    (hno : ∀ i c, P i c → NoIt (Led c))
    (turn : ∀ i v (c : σ) (u : Str → Option Value) h tk own, vs[i]? = some v → OwnOff own adr → P i c → Fr h₀ env.locals h (fun y => if y = x then some v else kstB (fun z => if stored.contains z then u z else m₀ z) (ps c) y) → News h₀ env.locals h (Led c ++ own) →
      wpAny (model prog w) A (execs body env) (EndJ h₀ env.locals own (KJ Led ps x stored m₀ P (i + 1)) { s with heap := h, toks := tk } Q) E { s with heap := h, toks := tk })
    (done : ∀ (c : σ) (u : Str → Option Value) h tk, P vs.length c → Fr h₀ env.locals h (fun y => if y = x then u y else kstB (fun z => if stored.contains z then u z else m₀ z) (ps c) y) → News h₀ env.locals h (Led c) → Q .next { s with heap := h, toks := tk }) :
    wpAny (model prog w) A (pyIter (.ref l)) (fun it s₂ => LoopAtV prog w A h₀ env x body Q E it s₂) E s := by
  refine list_J adr (KJ Led ps x stored m₀ P) hh hl hlL F N ha ⟨c₀, rfl, hp, hk, fun _ _ _ _ => rfl⟩ ?_ ?_ ?_
  · rintro i m n ⟨c, rfl, h1, _⟩
    exact hno i c h1
  · rintro i v m₁ nx h tk own hv ho ⟨c, rfl, hp', h1, h2⟩ F₁ N₁
    exact turn i v c m₁ h tk own hv ho hp' (kst_fr h1 h2 F₁) (own_last N₁)
  · rintro m₁ nx h tk ⟨c, rfl, hp', h1, h2⟩ F₁ N₁
    exact done c m₁ h tk hp' (kst_frOut h1 h2 F₁) N₁
theorem range_K {r : Addr} {a₀ b₀ : Int} {t₀ u₀ v₀ : Tok} {n : Nat} {m₀ : Str → Option Value} (adr : List Addr) (Led : σ → List (Addr × Obj)) (ps : σ → List (Str × Value)) (stored : List Str) (P : Nat → σ → Prop) (c₀ : σ)
    (hh : A.handled = none) (hr : IsRange s.heap r a₀ b₀ 1 t₀ u₀ v₀) (hsmall : Builtin.Range.small a₀ b₀ 1 = true) (hn : Builtin.Range.rangeSize a₀ b₀ 1 = (n : Int)) (F : Fr h₀ env.locals s.heap m₀) (N : News h₀ env.locals s.heap (Led c₀)) (ha : ∀ a ∈ adr, (s.heap.get? a).isSome = true) (hp : P 0 c₀) (hk : ∀ p ∈ ps c₀, m₀ p.1 = some p.2)
    (hno : ∀ i c, P i c → NoIt (Led c))
    (turn : ∀ (i : Nat) t (c : σ) (u : Str → Option Value) h tk own, i < n → OwnOff own adr → P i c → Fr h₀ env.locals h (fun y => if y = x then some (.int (a₀ + i) t) else kstB (fun z => if stored.contains z then u z else m₀ z) (ps c) y) → News h₀ env.locals h (Led c ++ own) →
      wpAny (model prog w) A (execs body env) (EndJ h₀ env.locals own (KJ Led ps x stored m₀ P (i + 1)) { s with heap := h, toks := tk } Q) E { s with heap := h, toks := tk })
    (done : ∀ (c : σ) (u : Str → Option Value) h tk, P n c → Fr h₀ env.locals h (fun y => if y = x then u y else kstB (fun z => if stored.contains z then u z else m₀ z) (ps c) y) → News h₀ env.locals h (Led c) → Q .next { s with heap := h, toks := tk }) :
    wpAny (model prog w) A (pyIter (.ref r)) (fun it s₂ => LoopAtV prog w A h₀ env x body Q E it s₂) E s := by
  refine range_J adr (KJ Led ps x stored m₀ P) hh hr hsmall hn F N ha ⟨c₀, rfl, hp, hk, fun _ _ _ _ => rfl⟩ ?_ ?_ ?_
  · rintro i m n ⟨c, rfl, h1, _⟩
    exact hno i c h1
  · rintro i t m₁ nx h tk own hi ho ⟨c, rfl, hp', h1, h2⟩ F₁ N₁
    exact turn i t c m₁ h tk own hi ho hp' (kst_fr h1 h2 F₁) (own_last N₁)
  · rintro m₁ nx h tk ⟨c, rfl, hp', h1, h2⟩ F₁ N₁
    exact done c m₁ h tk hp' (kst_frOut h1 h2 F₁) N₁
end

theorem ints_at {vs : List Value} {ns : List Int} (h : IntsAre vs ns) : ∀ {i : Nat} {v : Value}, vs[i]? = some v → ∃ n t, ns[i]? = some n ∧ v = .int n t := by
  induction h with
  | nil => intro i v e; simp at e
  | cons k t r ih =>
    intro i v e
    cases i with
    | zero => simp at e; exact ⟨k, t, rfl, e.symm⟩
    | succ j => simpa using ih (i := j) (by simpa using e)
theorem dict_cls {w : World} {o : Obj} {kvs : List (Int × Value)} {c : List (Int × Int)} (h : intD w o kvs c) : o.cls = .type "dict" := by
  obtain ⟨⟨_, _, h, _⟩, _⟩ := h
  exact h.1
theorem noIt_nil : NoIt [] := fun _ h => nomatch h
theorem noIt_cons {a : Addr} {o : Obj} {r : List (Addr × Obj)} (h : itCls o = false) (t : NoIt r) : NoIt ((a, o) :: r) := fun p hp => by
  rcases List.mem_cons.mp hp with rfl | hp
  · exact h
  · exact t p hp
theorem noIt_app {a b : List (Addr × Obj)} (h : NoIt a) (t : NoIt b) : NoIt (a ++ b) := fun p hp => (List.mem_append.mp hp).elim (h p) (t p)
theorem itCls_dict {o : Obj} (h : o.cls = .type "dict") : itCls o = false := by unfold itCls; rw [h]; decide
theorem live_nil {h : Heap} : ∀ a ∈ ([] : List Addr), (h.get? a).isSome = true := fun _ h => nomatch h
theorem live_of {h₀ h : Heap} {L a : Addr} {o : Obj} {news : List (Addr × Obj)} (N : News h₀ L h news) (hm : (a, o) ∈ news) : (h.get? a).isSome = true := by rw [(N _ hm).1]; rfl
theorem adr_nil {h : Heap} {l : Nat} : ∀ b ∈ ([] : List Addr), b ≠ l ∧ (h.get? b).isSome = true := fun _ h => nomatch h
theorem adr_cons {l a : Nat} {h : Heap} {r : List Addr} (h1 : a ≠ l) (h2 : (h.get? a).isSome = true) (t : ∀ b ∈ r, b ≠ l ∧ (h.get? b).isSome = true) : ∀ b ∈ (a :: r : List Addr), b ≠ l ∧ (h.get? b).isSome = true := fun b hb => by
  rcases List.mem_cons.mp hb with rfl | hb
  · exact ⟨h1, h2⟩
  · exact t b hb
end
section
theorem on_Lx : True := by
  k_with_none
  k_with "om2" => (lia)
  trivial
/-! names of the frame, told shortly -/
theorem names_rfl {m : Str → Option Value} {ps : List (Str × Value)} (h : ps.map (fun p => m p.1) = ps.map (fun p => some p.2)) : ∀ p ∈ ps, m p.1 = some p.2 := List.map_inj_left.mp h
def Out (ns : List Str) (m m₀ : Str → Option Value) : Prop := ∀ z, z ∉ ns → m z = m₀ z
theorem mem_of_has {ns : List Str} {x : Str} (h : ns.contains x = true) : x ∈ ns := List.contains_iff_mem.mp h
theorem Out.ite {ns : List Str} {m m₀ : Str → Option Value} {x : Str} {v : Option Value} (h : Out ns m m₀) (hx : ns.contains x = true) : Out ns (fun y => if y = x then v else m y) m₀ := fun z hz => by
  show (if z = x then v else m z) = m₀ z
  rw [if_neg (fun e : z = x => hz (by rw [e]; exact mem_of_has hx))]; exact h z hz
theorem Out.kst {ns : List Str} {f m₀ : Str → Option Value} {ps : List (Str × Value)} (h : Out ns f m₀) (hp : ps.all (fun p => ns.contains p.1) = true) : Out ns (kstB f ps) m₀ := by
  induction ps with
  | nil => exact h
  | cons p r ih =>
    rw [List.all_cons, Bool.and_eq_true] at hp
    exact Out.ite (ih hp.2) hp.1
theorem Out.st {ns stored : List Str} {u m₀ : Str → Option Value} (h : stored.all (fun z => ns.contains z) = true) : Out ns (fun z => if stored.contains z then u z else m₀ z) m₀ := fun z hz => by
  show (if stored.contains z = true then u z else m₀ z) = m₀ z
  rw [if_neg]
  intro q
  exact hz (mem_of_has (List.all_eq_true.mp h z (mem_of_has q)))
theorem endK2 {σ : Type} {Led : σ → List (Addr × Obj)} {ps : σ → List (Str × Value)} {x : Str} {stored : List Str} {m₀ : Str → Option Value} {P : Nat → σ → Prop} {i : Nat} {h₀ h' : Heap} {L : Addr} {own nn : List (Addr × Obj)} {s₁ : Shared} {Q : Flow → Shared → Prop} {m' : Str → Option Value} {tk : Nat}
    (c : σ) (F : Fr h₀ L h' m') (N : News h₀ L h' nn) (ho : ∀ p ∈ own, p ∈ nn) (hl : ∀ p ∈ Led c, p ∈ nn) (p : P i c) (h1 : ∀ p ∈ ps c, m' p.1 = some p.2) (h2 : Out (x :: (stored ++ (ps c).map (·.1))) m' m₀) :
    EndJ h₀ L own (KJ Led ps x stored m₀ P i) s₁ Q .next { s₁ with heap := h', toks := tk } := endK c F N ho hl p h1 fun z q1 q2 q3 => h2 z fun q => by
      rcases List.mem_cons.mp q with e | q
      · exact q1 e
      · rcases List.mem_append.mp q with q | q
        · rw [List.contains_iff_mem.mpr q] at q3; cases q3
        · obtain ⟨p, hp, e⟩ := List.mem_map.mp q
          exact q2 p hp e.symm
theorem names_cons {m : Str → Option Value} {x : Str} {v : Value} {ps : List (Str × Value)} (h : m x = some v) (t : ∀ p ∈ ps, m p.1 = some p.2) : ∀ p ∈ (x, v) :: ps, m p.1 = some p.2 := fun p hp => by
  rcases List.mem_cons.mp hp with e | hp
  · rw [e]; exact h
  · exact t p hp
theorem Out.itf {ns : List Str} {m m₀ f : Str → Option Value} {x : Str} (h : Out ns m m₀) (hx : ns.contains x = true) : Out ns (fun y => if y = x then f y else m y) m₀ := fun z hz => by
  show (if z = x then f z else m z) = m₀ z
  rw [if_neg (fun e : z = x => hz (by rw [e]; exact mem_of_has hx))]; exact h z hz
theorem Out.stf {ns stored : List Str} {u m m₀ : Str → Option Value} (q : Out ns m m₀) (h : stored.all (fun z => ns.contains z) = true) : Out ns (fun z => if stored.contains z then u z else m z) m₀ := fun z hz => by
  show (if stored.contains z = true then u z else m z) = m₀ z
  rw [if_neg]
  · exact q z hz
  · intro q
    exact hz (mem_of_has (List.all_eq_true.mp h z (mem_of_has q)))
end
section
theorem on_I1 : True := by
  k_with_none
  k_with "om2" => (lia)
  trivial
/-! insert_scored -/
abbrev TE := Nat × (Int × Int) × (Tok × Tok)
def tupObj (e : TE) : Obj := { cls := .type "tuple", data := .seq #[.int e.2.1.1 e.2.2.1, .int e.2.1.2 e.2.2.2] }
def teE (e : TE) : Addr × Obj := (e.1, tupObj e)
def teR (e : TE) : Value := .ref e.1
def te0 : TE := (0, (0, 0), (0, 0))
def placeK (ts : List TE) (sc : Int) : Nat → Nat
  | 0 => 0
  | k + 1 => if (ts.getD k te0).2.1.1 < sc then placeK ts sc k else k + 1
theorem placeK_le (ts : List TE) (sc : Int) : ∀ k, placeK ts sc k ≤ k
  | 0 => Nat.le_refl _
  | k + 1 => by
    unfold placeK
    split
    · exact Nat.le_succ_of_le (placeK_le ts sc k)
    · exact Nat.le_refl _
def insT (ts : List TE) (e : TE) : List TE := ts.take (placeK ts e.2.1.1 ts.length) ++ e :: ts.drop (placeK ts e.2.1.1 ts.length)
theorem te_ref {ts : List TE} {k : Nat} (h : k < ts.length) : (ts.map teR)[k]? = some (.ref (ts.getD k te0).1) := by
  rw [List.getElem?_map, List.getElem?_eq_getElem h, List.getD_eq_getElem?_getD, List.getElem?_eq_getElem h]; rfl
theorem te_mem {ts : List TE} {k : Nat} (h : k < ts.length) : ts.getD k te0 ∈ ts := by
  rw [List.getD_eq_getElem?_getD, List.getElem?_eq_getElem h]; exact List.getElem_mem h
theorem isTup_of {h : Heap} {e : TE} (q : h.get? e.1 = some (tupObj e)) : IsTup h e.1 [Value.int e.2.1.1 e.2.2.1, .int e.2.1.2 e.2.2.2].toArray := ⟨_, q, rfl, 0, rfl⟩
theorem my_tup {prog : Program} {w : World} {A : Around} {E : Value → Shared → Prop} {s : Shared} {value slice : PySem.Expr} {a : Addr} {l : List Value} {j : Nat} {u : Tok} {x : Value} {Q : Value → Shared → Prop} (ht : IsTup s.heap a l.toArray) (hj : j < 10) (hx : l[j]? = some x) (h : Q x s)
    (hs : subscripted slice false (.ref a) (.int j u) = operate [.ref a, .int j u] (getItem (.ref a) (.int j u)) := by with_unfolding_all rfl) :
    wpAny (model prog w) A (subscriptTail value slice (.ref a) (.int j u)) Q E s :=
  item_tupleT ht (by omega) (by omega) (by
    have hl : j < l.length := (List.getElem?_eq_some_iff.mp hx).1
    unfold seqIndex?
    simp
    omega) hx h hs

theorem place_stop {ts : List TE} {sc : Int} {k : Nat} (h : k = 0 ∨ ¬ (ts.getD (k - 1) te0).2.1.1 < sc) : placeK ts sc k = k := by
  cases k with
  | zero => rfl
  | succ j =>
    have h : ¬ (ts.getD j te0).2.1.1 < sc := h.resolve_left (Nat.succ_ne_zero _)
    show (if (ts.getD j te0).2.1.1 < sc then placeK ts sc j else j + 1) = j + 1
    rw [if_neg h]
theorem place_go {ts : List TE} {sc : Int} {k : Nat} (h0 : 0 < k) (h : (ts.getD (k - 1) te0).2.1.1 < sc) : placeK ts sc k = placeK ts sc (k - 1) := by
  cases k with
  | zero => omega
  | succ j =>
    have h : (ts.getD j te0).2.1.1 < sc := h
    show (if (ts.getD j te0).2.1.1 < sc then placeK ts sc j else j + 1) = placeK ts sc j
    rw [if_pos h]
theorem ins_eq {ts : List TE} {e : TE} {k : Nat} (hk : k ≤ ts.length) (h : placeK ts e.2.1.1 ts.length = k) : kl_ins (ts.map teR).toArray.toList (k : Int) (.ref e.1) = (insT ts e).map teR := by
  unfold kl_ins insT
  rw [h, if_neg (show ¬ (k : Int) < 0 by omega), show min (k : Int).toNat (ts.map teR).toArray.toList.length = k by simp; omega]
  simp [teR]
theorem fits_idx {x : Int} (h : -100 ≤ x ∧ x ≤ 100) : Builtin.List.listFitsIndex x = true := by
  unfold Builtin.List.listFitsIndex
  simp
  omega
theorem insert_scored_ok {w : World} {score mv : Int} {t1 t2 : Tok} {Sc n1 : Nat} {ts : List TE} (hlen : ts.length ≤ 10) (hdis : ∀ e ∈ ts, e.1 ≠ Sc) :
    Con w 219 [.ref Sc, .int score t1, .int mv t2] [(Sc, listOf (ts.map teR).toArray n1)] (ts.map teE) [Sc] 2 8
      (fun H r h' => r = .none ∧ ∃ e : TE, e.2.1 = (score, mv) ∧ H.get? e.1 = none ∧ h'.get? e.1 = some (tupObj e) ∧ ∃ n', h'.get? Sc = some (listOf ((insT ts e).map teR).toArray n')) := by
  refine' con_enter [("scored", .ref Sc), ("score", .int score t1), ("move", .int mv t2)] ?ho ?hcd ?hb ?hl ?hdis ?_ ?c1 ?c2 ?c3 ?c4; (case ho => k_is); (case hcd => k_is); (case hb => exact rfl); (case hl => exact locs rfl); (try (case hdis => exact List.forall_mem_nil _)); (case c1 => exact rfl); (case c2 => exact rfl); (case c3 => exact rfl); (case c4 => decide)
  case hdis => (intro p hp; obtain ⟨e, he, rfl⟩ := List.mem_map.mp hp; exact nmem_cons (hdis e he) nmem_nil)
  k_whole; intro dp un gd outer A₀ base g L h₁ H s mean mg mb B X T F N Tl Z hD hU; (try dsimp only); refine (let m9 : Str → Option Value := _; (fun (F : Fr _ _ _ m9) => ?_) F)
  k_fold
  have hT : ∀ k, k < ts.length → g.get? (ts.getD k te0).1 = some (tupObj (ts.getD k te0)) := fun k h => Tl _ (List.mem_map_of_mem (f := teE) (te_mem h))
  have hml : (ts.map teR).length = ts.length := by simp
  k_with_none
  k_with "storeName" => (k_dflt (k_here; refine' store2 ?F ?N ?_ ?a ?b; (case F => k_asm); (case N => k_asm); (case a => rfl); (case b => rfl); k_whole; intro h' tk' F' N'; refine (let m9 : Str → Option Value := _; (fun (F' : Fr _ _ _ m9) => ?_) F'); (try k_sweep)))
  k_with "eval Constant int" => (k_dflt (first | with_reducible refine const_int3 ?_ | refine const_int3 ?_))
  k_with "binaryOp Add int int" => (k_dflt (first | with_reducible refine add_int3 ?_ | refine add_int3 ?_))
  k_with "binaryOp Sub int int" => (k_dflt (first | with_reducible refine sub_int3 ?_ | refine sub_int3 ?_))
  k_with "unaryOp USub int" => (k_dflt (first | with_reducible refine neg_int3 ?_ | refine neg_int3 ?_))
  k_with "om2" => (lia)
  k_with "subscriptTail" => (k_dflt ((refine my_tup (j := 0) (isTup_of (Fr.keep (by k_asm) _ _ (hT _ (by omega)))) (by decide) rfl ?_)))
  k_with "subscriptTail" => (k_dflt ((refine my_item (News.isList (by k_asm) (by k_mem)) (by omega) (by omega) (te_ref (by omega)) ?_)))
  k_with "call builtin:len" => (k_dflt ((refine my_len (News.isList (by k_asm) (by k_mem)) hml (by omega) ?_)))
  k_with "exec While BoolOp cons nil" => (k_dflt (((rename News _ _ _ _ => N9); (rename Fr _ _ _ _ => F9); refine' ksw_while (σ := Nat × Tok) (fun _ => [(Sc, listOf (ts.map teR).toArray n1)]) (fun c => [("at", .int c.1 c.2)]) (fun _ => True) [] (fun c => c.1 ≤ ts.length ∧ placeK ts score ts.length = placeK ts score c.1) (fun c => c.1) (ts.length, _) F9 N9 trivial (List.forall_mem_cons.mpr ⟨rfl, List.forall_mem_nil _⟩) ?hp ?turn; (case hp => exact ⟨Nat.le_refl _, rfl⟩); (clear F9 N9; intro cc u h9 tk9 _ hP F' N'; obtain ⟨k9, tt9⟩ := cc; dsimp only at hP F' N' ⊢; obtain ⟨hk9, hpl⟩ := hP))))
  k_with "call builtin:list.insert" => (k_dflt ((refine' kl_insert ?F ?N ?f rfl ?U ?z ?_; (case F => k_asm); (case N => k_asm); (case U => k_upd); (case f => exact fits_idx (by omega)); (case z => (rw [sizeLine_eq]; simp; omega)); intro h' F' N'; (try k_sweep))))
  k_steps
  · refine ksw_end (k9 - 1, _) (by k_asm) (by k_asm) (by (first | (refine sub_of ?_; (repeat (first | refine List.Sublist.cons_cons _ ?_ | ((fail_if_success exact List.nil_sublist _); refine List.Sublist.cons _ ?_))); exact List.nil_sublist _) | ((repeat (refine all_cons (by k_mem) ?_)); exact List.forall_mem_nil _))) trivial (List.forall_mem_cons.mpr ⟨congrArg (fun z => some (Value.int z _)) (show (k9 : Int) - 1 = ((k9 - 1 : Nat) : Int) by omega), List.forall_mem_nil _⟩) (fun z h1 _ => by have := h1 _ (.head _); simp +zetaDelta [this, kstB]) ⟨by show k9 - 1 ≤ _; omega, ?_⟩ (by show k9 - 1 < k9; omega)
    rw [hpl]
    exact place_go (by omega) (by rw [show k9 - 1 = ((k9 : Int) - 1).toNat by omega]; assumption)
  · have hk := place_stop (ts := ts) (sc := score) (k := k9) (.inr (by rw [show k9 - 1 = ((k9 : Int) - 1).toNat by omega]; assumption))
    (refine' back_intro ?bF ?bL ?_; (case bF => k_asm); (case bL => first | exact List.forall_mem_nil _ | ((repeat (refine all_cons (by first | exact .inr (News.get (by with_reducible assumption) (by k_mem)) | exact .inl (by simp)) ?_)); exact List.forall_mem_nil _)); (refine ⟨rfl, (_, (score, mv), (t1, t2)), rfl, Z.fresh (News.fresh (by k_asm) (.head _)) (by ((repeat (refine nmem_cons (by first | omega | ((try dsimp only); omega)) ?_)); exact nmem_nil)), News.get (by k_asm) (.head _), n1 + 1, ?_⟩))
    rw [← ins_eq (k := k9) hk9 (hpl.trans hk)]
    exact News.get (by k_asm) (.tail _ (.head _))
  · have hk := place_stop (ts := ts) (sc := score) (k := k9) (.inl (by omega))
    (refine' back_intro ?bF ?bL ?_; (case bF => k_asm); (case bL => first | exact List.forall_mem_nil _ | ((repeat (refine all_cons (by first | exact .inr (News.get (by with_reducible assumption) (by k_mem)) | exact .inl (by simp)) ?_)); exact List.forall_mem_nil _)); (refine ⟨rfl, (_, (score, mv), (t1, t2)), rfl, Z.fresh (News.fresh (by k_asm) (.head _)) (by ((repeat (refine nmem_cons (by first | omega | ((try dsimp only); omega)) ?_)); exact nmem_nil)), News.get (by k_asm) (.head _), n1 + 1, ?_⟩))
    rw [← ins_eq (k := k9) hk9 (hpl.trans hk)]
    exact News.get (by k_asm) (.tail _ (.head _))
end
section
theorem on_L1 : True := by
  k_with_none
  k_with "om2" => (lia)
  trivial
/-! the law's small defs -/
def lawAt (ns : List Int) (i : Int) : Int := if i < ns.length then ns.getD i.toNat 0 else 31 * i + (i * i).fdiv 3 + 10
theorem law_at_ok {w : World} {Sc n1 : Nat} {vs : List Value} {ns : List Int} {i : Int} {t1 : Tok} (hv : IntsAre vs ns) (hl : ns.length ≤ 100) (hi : 0 ≤ i ∧ i ≤ 100) :
    Con w 346 [.ref Sc, .int i t1] [(Sc, listOf vs.toArray n1)] [] [] 2 8 (fun _ r _ => ∃ t, r = .int (lawAt ns i) t) := by
  refine' con_enter [("script", .ref Sc), ("i", .int i t1)] ?ho ?hcd ?hb ?hl ?hdis ?_ ?c1 ?c2 ?c3 ?c4; (case ho => k_is); (case hcd => k_is); (case hb => exact rfl); (case hl => exact locs rfl); (try (case hdis => exact List.forall_mem_nil _)); (case c1 => exact rfl); (case c2 => exact rfl); (case c3 => exact rfl); (case c4 => decide); k_whole; intro dp un gd outer A₀ base g L h₁ H s mean mg mb B X T F N Tl Z hD hU; (try dsimp only); refine (let m9 : Str → Option Value := _; (fun (F : Fr _ _ _ m9) => ?_) F)
  k_fold
  k_with_none
  k_with "storeName" => (k_dflt (k_here; refine' store2 ?F ?N ?_ ?a ?b; (case F => k_asm); (case N => k_asm); (case a => rfl); (case b => rfl); k_whole; intro h' tk' F' N'; refine (let m9 : Str → Option Value := _; (fun (F' : Fr _ _ _ m9) => ?_) F'); (try k_sweep)))
  k_with "eval Constant int" => (k_dflt (first | with_reducible refine const_int3 ?_ | refine const_int3 ?_))
  k_with "binaryOp Add int int" => (k_dflt (first | with_reducible refine add_int3 ?_ | refine add_int3 ?_))
  k_with "binaryOp Sub int int" => (k_dflt (first | with_reducible refine sub_int3 ?_ | refine sub_int3 ?_))
  k_with "unaryOp USub int" => (k_dflt (first | with_reducible refine neg_int3 ?_ | refine neg_int3 ?_))
  k_with "om2" => (lia)
  k_steps
  · (refine' back_intro ?bF ?bL ?_; (case bF => k_asm); (case bL => first | exact List.forall_mem_nil _ | ((repeat (refine all_cons (by first | exact .inr (News.get (by with_reducible assumption) (by k_mem)) | exact .inl (by simp)) ?_)); exact List.forall_mem_nil _)); (exact ⟨_, by unfold lawAt; rw [if_pos (by assumption)]⟩))
  · (refine' back_intro ?bF ?bL ?_; (case bF => k_asm); (case bL => first | exact List.forall_mem_nil _ | ((repeat (refine all_cons (by first | exact .inr (News.get (by with_reducible assumption) (by k_mem)) | exact .inl (by simp)) ?_)); exact List.forall_mem_nil _)); (exact ⟨_, by unfold lawAt; rw [if_neg (by assumption)]⟩))

theorem drawn_back_ok {w : World} {old bonus l : Int} {t1 t2 t3 : Tok} (hl : 1 ≤ l ∧ l ≤ 1000) (hb : -l ≤ bonus ∧ bonus ≤ l) (ho : -1000 ≤ old ∧ old ≤ 1000) :
    Con w 363 [.int old t1, .int bonus t2, .int l t3] [] [] [] 2 8 (fun _ r _ => ∃ t, r = .int (drawnBack old bonus l) t) := by
  refine' con_enter [("old", .int old t1), ("bonus", .int bonus t2), ("limit", .int l t3)] ?ho ?hcd ?hb ?hl ?hdis ?_ ?c1 ?c2 ?c3 ?c4; (case ho => k_is); (case hcd => k_is); (case hb => exact rfl); (case hl => exact locs rfl); (try (case hdis => exact List.forall_mem_nil _)); (case c1 => exact rfl); (case c2 => exact rfl); (case c3 => exact rfl); (case c4 => decide); k_whole; intro dp un gd outer A₀ base g L h₁ H s mean mg mb B X T F N Tl Z hD hU; (try dsimp only); refine (let m9 : Str → Option Value := _; (fun (F : Fr _ _ _ m9) => ?_) F)
  k_fold
  k_with_none
  k_with "storeName" => (k_dflt (k_here; refine' store2 ?F ?N ?_ ?a ?b; (case F => k_asm); (case N => k_asm); (case a => rfl); (case b => rfl); k_whole; intro h' tk' F' N'; refine (let m9 : Str → Option Value := _; (fun (F' : Fr _ _ _ m9) => ?_) F'); (try k_sweep)))
  k_with "eval Constant int" => (k_dflt (first | with_reducible refine const_int3 ?_ | refine const_int3 ?_))
  k_with "binaryOp Add int int" => (k_dflt (first | with_reducible refine add_int3 ?_ | refine add_int3 ?_))
  k_with "binaryOp Sub int int" => (k_dflt (first | with_reducible refine sub_int3 ?_ | refine sub_int3 ?_))
  k_with "unaryOp USub int" => (k_dflt (first | with_reducible refine neg_int3 ?_ | refine neg_int3 ?_))
  k_with "om2" => (lia)
  k_steps
  all_goals (refine' back_intro ?bF ?bL ?_; (case bF => k_asm); (case bL => first | exact List.forall_mem_nil _ | ((repeat (refine all_cons (by first | exact .inr (News.get (by with_reducible assumption) (by k_mem)) | exact .inl (by simp)) ?_)); exact List.forall_mem_nil _)))
  · refine ⟨_, congrArg (fun z => Value.int z _) ?_⟩
    unfold drawnBack
    rw [if_neg (show ¬ old < 0 by omega), if_neg (show ¬ old < 0 by omega), show (bonus.natAbs : Int) = if bonus < 0 then -bonus else bonus by split <;> omega]
  · refine ⟨_, congrArg (fun z => Value.int z _) ?_⟩
    unfold drawnBack
    rw [show (bonus.natAbs : Int) = if bonus < 0 then -bonus else bonus by split <;> omega]
    by_cases h0 : old < 0
    · rw [if_pos h0, if_pos h0]
    · have e0 : old = 0 := by omega
      subst e0
      simp
end
section
theorem on_P1 : True := by
  k_with_none
  k_with "om2" => (lia)
  trivial
/-! plain facts of the scores -/
def allKeys : List Int := [0, 1, 2, 3, 65536, 65537, 65538, 65539]
structure WFc (l : Int) (c : List (Int × Int)) : Prop where
  nodup : (c.map (·.1)).Nodup
  keys : ∀ p ∈ c, p.1 ∈ allKeys
  bound : ∀ p ∈ c, -l ≤ p.2 ∧ p.2 ≤ l
theorem nodup_len {α : Type} [DecidableEq α] : ∀ {xs ys : List α}, xs.Nodup → (∀ x ∈ xs, x ∈ ys) → xs.length ≤ ys.length
  | [], _, _, _ => Nat.zero_le _
  | x :: xs, ys, hn, hs => by
    rw [List.nodup_cons] at hn
    have := nodup_len (ys := ys.erase x) hn.2 fun y hy => by
      have hne : y ≠ x := fun e => hn.1 (e ▸ hy)
      exact (List.mem_erase_of_ne hne).mpr (hs y (.tail _ hy))
    have h1 := List.length_erase_of_mem (hs x (.head _))
    have h2 : 0 < ys.length := List.length_pos_of_mem (hs x (.head _))
    simp only [List.length_cons]
    omega
theorem WFc.len {l : Int} {c : List (Int × Int)} (h : WFc l c) : c.length ≤ 8 := by
  have := nodup_len (ys := allKeys) h.nodup fun x hx => by
    obtain ⟨p, hp, rfl⟩ := List.mem_map.mp hx
    exact h.keys p hp
  simpa [allKeys] using this
theorem WFc.look {l : Int} {c : List (Int × Int)} (h : WFc l c) (hl : 0 ≤ l) (k : Int) : -l ≤ kdfLook c k 0 ∧ kdfLook c k 0 ≤ l := by
  unfold kdfLook
  cases e : c.find? (fun p => decide (p.1 = k)) with
  | none => simp; omega
  | some p => exact h.bound p (List.mem_of_find?_eq_some e)
theorem WFc.nil {l : Int} : WFc l [] := ⟨List.nodup_nil, fun _ h => (nomatch h), fun _ h => nomatch h⟩
theorem any_fst {c : List (Int × Int)} {k : Int} : (c.any fun p => decide (p.1 = k)) = true ↔ k ∈ c.map (·.1) := by
  simp [List.any_eq_true]
theorem kdfPut_keys (c : List (Int × Int)) (k v : Int) : (kdfPut c k v).map (·.1) = if k ∈ c.map (·.1) then c.map (·.1) else c.map (·.1) ++ [k] := by
  unfold kdfPut
  by_cases h : (c.any fun p => decide (p.1 = k)) = true
  · rw [if_pos h, if_pos (any_fst.mp h), List.map_map]
    apply List.map_congr_left
    intro p _
    simp only [Function.comp]
    split <;> simp_all
  · rw [if_neg h, if_neg (fun q => h (any_fst.mpr q))]
    simp
theorem kdfPut_mem {c : List (Int × Int)} {k v : Int} {p : Int × Int} (hp : p ∈ kdfPut c k v) : p ∈ c ∨ p = (k, v) := by
  unfold kdfPut at hp
  split at hp
  · obtain ⟨q, hq, rfl⟩ := List.mem_map.mp hp
    by_cases e : q.1 = k
    · right; simp [e]
    · left; simpa [e] using hq
  · rcases List.mem_append.mp hp with h | h
    · exact .inl h
    · exact .inr (List.mem_singleton.mp h)
theorem WFc.put {l : Int} {c : List (Int × Int)} (h : WFc l c) {k v : Int} (hk : k ∈ allKeys) (hv : -l ≤ v ∧ v ≤ l) : WFc l (kdfPut c k v) := by
  refine ⟨?_, fun p hp => ?_, fun p hp => ?_⟩
  · rw [kdfPut_keys]
    split
    · exact h.nodup
    · rename_i hn
      rw [List.nodup_append]
      refine ⟨h.nodup, by simp, ?_⟩
      intro a ha b hb e
      exact hn (by rw [← List.mem_singleton.mp hb, ← e]; exact ha)
  · rcases kdfPut_mem hp with q | rfl
    · exact h.keys p q
    · exact hk
  · rcases kdfPut_mem hp with q | rfl
    · exact h.bound p q
    · exact hv
theorem kdfLook_put (c : List (Int × Int)) (k v j : Int) : kdfLook (kdfPut c k v) j 0 = if j = k then v else kdfLook c j 0 := by
  have e : ∀ c : List (Int × Int), kdfLook c j 0 = (c.lookup j).getD 0 := by
    intro c
    unfold kdfLook
    congr 1
    induction c with
    | nil => rfl
    | cons p c ih =>
      obtain ⟨a, b⟩ := p
      rw [List.find?_cons, List.lookup_cons]
      by_cases h : a = j
      · simp [h]
      · have h' : ¬ j = a := fun q => h q.symm
        have h2 : (j == a) = false := by simpa using h'
        simp only [h, decide_false, h2]
        exact ih
  unfold kdfPut
  split
  · rename_i hc
    unfold kdfLook
    induction c with
    | nil => simp at hc
    | cons p c ih =>
      obtain ⟨a, b⟩ := p
      rw [List.map_cons, List.find?_cons, List.find?_cons]
      by_cases ha : a = k
      · subst ha
        simp only [decide_true, if_true]
        by_cases hj : j = a
        · subst hj; simp
        · have hj' : ¬ a = j := fun q => hj q.symm
          simp only [hj', decide_false, hj, if_false]
          by_cases hc' : (c.any fun p => decide (p.1 = a)) = true
          · have := ih hc'
            simpa [hj] using this
          · have : c.map (fun p => if decide (p.1 = a) = true then (p.1, v) else p) = c := by
              rw [List.map_congr_left (g := id)]
              · simp
              · intro q hq
                have : ¬ q.1 = a := fun e => hc' (List.any_eq_true.mpr ⟨q, hq, by simp [e]⟩)
                simp [this]
            rw [this]
      · simp only [ha, decide_false, Bool.false_eq_true, if_false]
        by_cases hj : a = j
        · have hk : ¬ j = k := fun q => ha (hj.trans q)
          simp [hj, hk]
        · simp only [hj, decide_false]
          refine ih ?_
          simpa [ha] using hc
  · rename_i hc
    unfold kdfLook
    rw [List.find?_append]
    by_cases hj : j = k
    · subst hj
      have : c.find? (fun p => decide (p.1 = j)) = none := by
        rw [List.find?_eq_none]
        intro p hp hq
        exact hc (List.any_eq_true.mpr ⟨p, hp, hq⟩)
      simp [this]
    · have hj' : ¬ k = j := fun q => hj q.symm
      cases q : c.find? (fun p => decide (p.1 = j)) <;> simp [hj, hj']
theorem sq_bound {x y l : Int} (hx : 0 ≤ x ∧ x ≤ l) (hy : 0 ≤ y ∧ y ≤ l) : x + y - l ≤ (x * y).fdiv l ∧ (0 < l → (x * y).fdiv l ≤ x) ∧ (0 < l → 0 ≤ (x * y).fdiv l) := by
  rcases Int.lt_or_le 0 l with h | h
  · refine ⟨?_, fun _ => ?_, fun _ => ?_⟩
    · rw [Int.fdiv_eq_ediv_of_nonneg _ (by omega), Int.le_ediv_iff_mul_le h]
      have h1 : 0 ≤ (l - x) * (l - y) := Int.mul_nonneg (by omega) (by omega)
      have h2 : (l - x) * (l - y) = l * l - l * y - x * l + x * y := by
        rw [Int.sub_mul, Int.mul_sub, Int.mul_sub]; omega
      have h3 : (x + y - l) * l = x * l + y * l - l * l := by rw [Int.sub_mul, Int.add_mul]
      have h4 : y * l = l * y := Int.mul_comm _ _
      omega
    · rw [Int.fdiv_eq_ediv_of_nonneg _ (by omega)]
      refine Int.le_of_lt_add_one ?_
      refine Int.ediv_lt_of_lt_mul h ?_
      have h1 : x * y ≤ x * l := Int.mul_le_mul_of_nonneg_left hy.2 hx.1
      have h2 : (x + 1) * l = x * l + l := by rw [Int.add_mul, Int.one_mul]
      omega
    · rw [Int.fdiv_eq_ediv_of_nonneg _ (by omega)]
      exact Int.ediv_nonneg (Int.mul_nonneg hx.1 hy.1) (by omega)
  · have : x = 0 := by omega
    have : y = 0 := by omega
    have : l = 0 := by omega
    subst_vars
    simp
theorem drawnBack_bound {old b l : Int} (hl : 1 ≤ l) (ho : -l ≤ old ∧ old ≤ l) (hb : -l ≤ b ∧ b ≤ l) : -l ≤ drawnBack old b l ∧ drawnBack old b l ≤ l := by
  unfold drawnBack
  have ha : 0 ≤ (b.natAbs : Int) ∧ (b.natAbs : Int) ≤ l := by omega
  by_cases h : old < 0
  · rw [if_pos h]
    obtain ⟨h1, h2, h3⟩ := sq_bound (x := -old) (y := (b.natAbs : Int)) (l := l) (by omega) ha
    have h2 := h2 (by omega)
    have h3 := h3 (by omega)
    omega
  · rw [if_neg h]
    obtain ⟨h1, h2, h3⟩ := sq_bound (x := old) (y := (b.natAbs : Int)) (l := l) (by omega) ha
    have h2 := h2 (by omega)
    have h3 := h3 (by omega)
    omega
def updC (l : Int) (c : List (Int × Int)) (side mv b : Int) : List (Int × Int) := kdfPut c (side * 65536 + mv) (drawnBack (kdfLook c (side * 65536 + mv) 0) b l)
theorem key_mem {side mv : Int} (hs : 0 ≤ side ∧ side ≤ 1) (hm : 0 ≤ mv ∧ mv ≤ 3) : side * 65536 + mv ∈ allKeys := by
  have h1 : side = 0 ∨ side = 1 := by omega
  have h2 : mv = 0 ∨ mv = 1 ∨ mv = 2 ∨ mv = 3 := by omega
  rcases h1 with rfl | rfl <;> rcases h2 with rfl | rfl | rfl | rfl <;> decide
theorem WFc.upd {l : Int} {c : List (Int × Int)} (h : WFc l c) (hl : 1 ≤ l) {side mv b : Int} (hs : 0 ≤ side ∧ side ≤ 1) (hm : 0 ≤ mv ∧ mv ≤ 3) (hb : -l ≤ b ∧ b ≤ l) : WFc l (updC l c side mv b) :=
  h.put (key_mem hs hm) (drawnBack_bound hl (h.look (by omega) _) hb)
def bonusOf (l depth : Int) : Int := min l (16 * depth * depth + 32 * depth)
def lowC (l : Int) (side best bonus : Int) (c : List (Int × Int)) (mv : Int) : List (Int × Int) := if mv ≠ best then updC l c side mv (-bonus) else c
def rewC (l : Int) (c : List (Int × Int)) (side depth best : Int) (tried : List Int) : List (Int × Int) :=
  tried.foldl (lowC l side best (bonusOf l depth)) (updC l c side best (bonusOf l depth))
theorem bonus_bound {l depth : Int} (hl : 1 ≤ l) (hd : 0 ≤ depth ∧ depth ≤ 3) : 0 ≤ bonusOf l depth ∧ bonusOf l depth ≤ l := by
  have h : depth = 0 ∨ depth = 1 ∨ depth = 2 ∨ depth = 3 := by omega
  unfold bonusOf
  rcases h with rfl | rfl | rfl | rfl <;> omega
theorem WFc.low {l : Int} {c : List (Int × Int)} (h : WFc l c) (hl : 1 ≤ l) {side mv best b : Int} (hs : 0 ≤ side ∧ side ≤ 1) (hm : 0 ≤ mv ∧ mv ≤ 3) (hb : 0 ≤ b ∧ b ≤ l) : WFc l (lowC l side best b c mv) := by
  unfold lowC
  split
  · exact h.upd hl hs hm (by omega)
  · exact h
theorem WFc.lows {l : Int} {side best b : Int} (hl : 1 ≤ l) (hs : 0 ≤ side ∧ side ≤ 1) (hb : 0 ≤ b ∧ b ≤ l) : ∀ (tried : List Int) {c : List (Int × Int)}, WFc l c → (∀ m ∈ tried, 0 ≤ m ∧ m ≤ 3) → WFc l (tried.foldl (lowC l side best b) c)
  | [], _, h, _ => h
  | m :: r, _, h, hm => WFc.lows hl hs hb r (h.low hl hs (hm m (.head _)) hb) fun q hq => hm q (.tail _ hq)
end
section
theorem on_R1 : True := by
  k_with_none
  k_with "om0" => (first | with_reducible assumption | exact cj0 (by with_reducible assumption) | exact cj1 (by with_reducible assumption) | exact cj2 (by with_reducible assumption) | exact cj3 (by with_reducible assumption) | exact cj4 (by with_reducible assumption) | exact cj5 (by with_reducible assumption) | exact cj6 (by with_reducible assumption) | exact cj7 (by with_reducible assumption) | exact cj8 (by with_reducible assumption) | exact cj9 (by with_reducible assumption) | exact cj10 (by with_reducible assumption) | exact cj11 (by with_reducible assumption) | exact cj12 (by with_reducible assumption) | exact ce1 (by with_reducible assumption) | exact ce2 (by with_reducible assumption) | exact ce3 (by with_reducible assumption) | exact ce4 (by with_reducible assumption) | exact ce5 (by with_reducible assumption) | exact ce6 (by with_reducible assumption) | exact ce7 (by with_reducible assumption) | exact ce8 (by with_reducible assumption) | exact ce9 (by with_reducible assumption) | exact ce10 (by with_reducible assumption) | exact ce11 (by with_reducible assumption) | exact ce12 (by with_reducible assumption))
  k_with "om2" => (first | k_extra "om0" | ((with_reducible refine Nat.ne_of_lt ?_); k_extra "om0") | ((with_reducible refine Nat.ne_of_gt ?_); k_extra "om0") | ((with_reducible refine Ne.symm ?_); k_extra "om0") | ((with_reducible refine' Nat.lt_of_le_of_lt (Nat.add_le_add_left ?p9 _) ?q9); (case q9 => with_reducible assumption); (case p9 => decide)) | ((with_reducible refine' Nat.le_trans ?p9 ?q9); (case p9 => k_extra "om0"); (case q9 => decide)) | ((with_reducible refine' Nat.lt_of_le_of_lt ?p9 ?q9); (case p9 => k_extra "om0"); (case q9 => decide)) | ((with_reducible refine' Int.le_trans ?p9 ?q9); (case p9 => k_extra "om0"); (case q9 => decide)) | ((with_reducible refine' Int.le_trans ?p9 ?q9); (case q9 => k_extra "om0"); (case p9 => decide)) | ((with_reducible refine' Int.lt_of_le_of_lt ?p9 ?q9); (case p9 => k_extra "om0"); (case q9 => decide)) | ((with_reducible refine' Int.lt_of_lt_of_le ?p9 ?q9); (case q9 => k_extra "om0"); (case p9 => decide)) | ((with_reducible refine And.intro ?_ ?_) <;> omega) | lia)
  trivial
/-! reward -/
theorem chain6 {a b c d e f : Nat} (h1 : a < b) (h2 : b < c) (h3 : c < d) (h4 : d < e) (h5 : e < f) : (a < b ∧ a < c ∧ a < d ∧ a < e ∧ a < f) ∧ (b < c ∧ b < d ∧ b < e ∧ b < f) ∧ (c < d ∧ c < e ∧ c < f) ∧ d < e ∧ d < f :=
  have q3 := Nat.lt_trans h4 h5; have q2 := Nat.lt_trans h3 h4; have q1 := Nat.lt_trans h2 h3; have r2 := Nat.lt_trans h3 q3; have r1 := Nat.lt_trans h2 q2; have s1 := Nat.lt_trans h2 r2
  ⟨⟨h1, Nat.lt_trans h1 h2, Nat.lt_trans h1 q1, Nat.lt_trans h1 r1, Nat.lt_trans h1 s1⟩, ⟨h2, q1, r1, s1⟩, ⟨h3, q2, r2⟩, h4, q3⟩
theorem reward_ok {w : World} {side ply depth best l pl : Int} {t1 t2 t3 t4 ta1 ta2 ta3 ta4 k1 k2 j1 j2 j3 : Tok} {Hd Hx S Kd Kx F1 F2 Tr : Nat} {hh1 hh2 hh3 hh4 hh5 : Int} {n n3 n1 n2 tn : Nat} {o : Obj} {kvs : List (Int × Value)} {c : List (Int × Int)} {vs1 vs2 tvs : List Value} {f1 f2 tried : List Int}
   (hl : 1 ≤ l ∧ l ≤ 1000) (hs : 0 ≤ side ∧ side ≤ 1) (hm : 0 ≤ best ∧ best ≤ 3) (hdp : 0 ≤ depth ∧ depth ≤ 3) (hp : 0 ≤ ply ∧ ply ≤ 10) (hd : intD w o kvs c) (hc : WFc l c) (hlow : (S == sysModules) = false)
   (hl1 : IntsAre vs1 f1) (hl2 : IntsAre vs2 f2) (e1 : f1.length = pl) (e2 : f2.length = pl) (ht : IntsAre tvs tried) (htr : ∀ m ∈ tried, 0 ≤ m ∧ m ≤ 3)
   (d1 : Hd < Hx) (d2 : Hx < Kd) (d3 : Kd < Kx) (d4 : Kx < F1) (d5 : F1 < F2) (d6 : F2 < Tr) (dS : (S ≠ Hd ∧ S ≠ Hx ∧ S ≠ Kd ∧ S ≠ Kx ∧ S ≠ F1 ∧ S ≠ F2) ∧ S < Tr) :
    Con w 205 [.ref Hx, .ref Kx, .int side t1, .int ply t2, .int depth t3, .int best t4, .ref Tr] (histL Hd Hx S hh1 hh2 l k1 k2 ta1 n o ++ (killL Kd Kx F1 F2 hh3 hh4 hh5 pl j1 j2 j3 ta2 n3 n1 n2 vs1 vs2 ++ [(Tr, listOf tvs.toArray tn)])) [] [S, F1, F2] 5 20
     (fun _ r h' => r = .none ∧ isL h' F1 (addK f1 f2 ply best).1 ∧ isL h' F2 (addK f1 f2 ply best).2 ∧ isD w h' S (rewC l c side depth best tried)) := by
  obtain ⟨dS, dT⟩ := dS
  obtain ⟨dp1, dp2, dp3, dp4⟩ := chain6 d1 d2 d3 d4 d5
  have d7 : F1 < Tr := Nat.lt_trans d5 d6
  refine' con_enter [("history", .ref Hx), ("killers", .ref Kx), ("side", .int side t1), ("ply", .int ply t2), ("depth", .int depth t3), ("best", .int best t4), ("tried", .ref Tr)] ?ho ?hcd ?hb ?hl ?hdis ?_ ?c1 ?c2 ?c3 ?c4; (case ho => k_is); (case hcd => k_is); (case hb => exact rfl); (case hl => exact locs rfl); (try (case hdis => exact List.forall_mem_nil _)); (case c1 => exact rfl); (case c2 => exact rfl); (case c3 => exact rfl); (case c4 => decide); k_whole; intro dp un gd outer A₀ base g L h₁ H s mean mg mb B X T F N Tl Z hD hU; (try dsimp only); refine (let m9 : Str → Option Value := _; (fun (F : Fr _ _ _ m9) => ?_) F)
  k_fold
  k_with_none
  k_with "storeName" => (k_dflt (k_here; refine' store2 ?F ?N ?_ ?a ?b; (case F => k_asm); (case N => k_asm); (case a => rfl); (case b => rfl); k_whole; intro h' tk' F' N'; refine (let m9 : Str → Option Value := _; (fun (F' : Fr _ _ _ m9) => ?_) F'); (try k_sweep)))
  k_with "eval Constant int" => (k_dflt (first | with_reducible refine const_int3 ?_ | refine const_int3 ?_))
  k_with "binaryOp Add int int" => (k_dflt (first | with_reducible refine add_int3 ?_ | refine add_int3 ?_))
  k_with "binaryOp Sub int int" => (k_dflt (first | with_reducible refine sub_int3 ?_ | refine sub_int3 ?_))
  k_with "unaryOp USub int" => (k_dflt (first | with_reducible refine neg_int3 ?_ | refine neg_int3 ?_))
  k_with "om0" => (first | with_reducible assumption | exact cj0 (by with_reducible assumption) | exact cj1 (by with_reducible assumption) | exact cj2 (by with_reducible assumption) | exact cj3 (by with_reducible assumption) | exact cj4 (by with_reducible assumption) | exact cj5 (by with_reducible assumption) | exact cj6 (by with_reducible assumption) | exact cj7 (by with_reducible assumption) | exact cj8 (by with_reducible assumption) | exact cj9 (by with_reducible assumption) | exact cj10 (by with_reducible assumption) | exact cj11 (by with_reducible assumption) | exact cj12 (by with_reducible assumption) | exact ce1 (by with_reducible assumption) | exact ce2 (by with_reducible assumption) | exact ce3 (by with_reducible assumption) | exact ce4 (by with_reducible assumption) | exact ce5 (by with_reducible assumption) | exact ce6 (by with_reducible assumption) | exact ce7 (by with_reducible assumption) | exact ce8 (by with_reducible assumption) | exact ce9 (by with_reducible assumption) | exact ce10 (by with_reducible assumption) | exact ce11 (by with_reducible assumption) | exact ce12 (by with_reducible assumption))
  k_with "om2" => (first | k_extra "om0" | ((with_reducible refine Nat.ne_of_lt ?_); k_extra "om0") | ((with_reducible refine Nat.ne_of_gt ?_); k_extra "om0") | ((with_reducible refine Ne.symm ?_); k_extra "om0") | ((with_reducible refine' Nat.lt_of_le_of_lt (Nat.add_le_add_left ?p9 _) ?q9); (case q9 => with_reducible assumption); (case p9 => decide)) | ((with_reducible refine' Nat.le_trans ?p9 ?q9); (case p9 => k_extra "om0"); (case q9 => decide)) | ((with_reducible refine' Nat.lt_of_le_of_lt ?p9 ?q9); (case p9 => k_extra "om0"); (case q9 => decide)) | ((with_reducible refine' Int.le_trans ?p9 ?q9); (case p9 => k_extra "om0"); (case q9 => decide)) | ((with_reducible refine' Int.le_trans ?p9 ?q9); (case q9 => k_extra "om0"); (case p9 => decide)) | ((with_reducible refine' Int.lt_of_le_of_lt ?p9 ?q9); (case p9 => k_extra "om0"); (case q9 => decide)) | ((with_reducible refine' Int.lt_of_lt_of_le ?p9 ?q9); (case q9 => k_extra "om0"); (case p9 => decide)) | ((with_reducible refine And.intro ?_ ?_) <;> omega) | lia)
  have hb := bonus_bound (l := l) hl.1 hdp
  have hb2 := hb
  unfold bonusOf at hb2
  have hcl : ∀ {c : List (Int × Int)}, WFc l c → ∀ k, -1000 ≤ kdfLook c k 0 ∧ kdfLook c k 0 ≤ 1000 := fun h k => by have := h.look (by omega) k; omega
  k_with "call ref" => (k_dflt ((rename News _ _ _ _ => N9); (rename Fr _ _ _ _ => F9); (try k_fold); refine' con_use (update_ok hl ?x1 hs ?x2 ?xd (hcl ?xc) ?x3 hlow d1 ?x4) ?k1 ?k2 ?k3 ?k4 ?k5 ?kK ?ks ?kt ?kd ?ku ?_; (case k1 => k_asm); (case k2 => k_asm); (case k3 => k_asm); (case k4 => k_asm); (case k5 => k_asm); (case kK => exact rfl); (case ks => (first | (refine sub_of ?_; (repeat (first | refine List.Sublist.cons_cons _ ?_ | ((fail_if_success exact List.nil_sublist _); refine List.Sublist.cons _ ?_))); exact List.nil_sublist _) | ((repeat (refine all_cons (by k_mem) ?_)); exact List.forall_mem_nil _))); (case kt => first | exact List.forall_mem_nil _ | ((repeat (refine all_cons (by first | exact (News.get (by k_asm) (by k_mem)) | exact Fr.keep (by k_asm) _ _ (by assumption)) ?_)); exact List.forall_mem_nil _)); (case kd => omega); (case ku => omega); (case xd => assumption); (case xc => assumption); (case x1 => omega); (case x2 => omega); (case x3 => (have := WFc.len (l := l) (by assumption); omega)); (case x4 => omega); k_whole; intro r9 h' tk' F' K9 p9; obtain ⟨rfl, o', kvs', hg', hd'⟩ := p9; first | (have N'' : News g L h' (histL Hd Hx S hh1 hh2 l k1 k2 ta1 n o' ++ (killL Kd Kx F1 F2 hh3 hh4 hh5 pl j1 j2 j3 ta2 n3 m1 m2 ws1 ws2 ++ [(Tr, listOf tvs.toArray tn)] ++ own)) := by ((repeat (first | refine news_keep N9 (by k_mem) K9 (by ((repeat (refine nmem_cons (by first | omega | ((try dsimp only); omega)) ?_)); exact nmem_nil)) ?_ | refine news_new N9 (by k_mem) hg' ?_)); exact news_own N9 (by (intro p9 hp9; repeat (first | exact List.mem_append_right _ hp9 | exact hp9 | refine List.Mem.tail _ ?_))) K9 ho (by ((repeat (refine all_cons (by simp) ?_)); exact List.forall_mem_nil _)))) | (have N'' : News g L h' (histL Hd Hx S hh1 hh2 l k1 k2 ta1 n o' ++ (killL Kd Kx F1 F2 hh3 hh4 hh5 pl j1 j2 j3 ta2 n3 m1 m2 ws1 ws2 ++ [(Tr, listOf tvs.toArray tn)])) := by ((repeat (first | refine news_keep N9 (by k_mem) K9 (by ((repeat (refine nmem_cons (by first | omega | ((try dsimp only); omega)) ?_)); exact nmem_nil)) ?_ | refine news_new N9 (by k_mem) hg' ?_)); exact News.nil)); (try dsimp only); (try k_sweep)))
  k_with "call ref" => (k_dflt ((rename News _ _ _ _ => N9); (rename Fr _ _ _ _ => F9); (try k_fold); refine' con_use0 (history_bonus_ok hdp) ?k1 ?k2 ?k3 ?k4 ?k5 ?kK ?ks ?kt ?kd ?ku ?_; (case k1 => k_asm); (case k2 => k_asm); (case k3 => k_asm); (case k4 => k_asm); (case k5 => k_asm); (case kK => exact rfl); (case ks => (first | (refine sub_of ?_; (repeat (first | refine List.Sublist.cons_cons _ ?_ | ((fail_if_success exact List.nil_sublist _); refine List.Sublist.cons _ ?_))); exact List.nil_sublist _) | ((repeat (refine all_cons (by k_mem) ?_)); exact List.forall_mem_nil _))); (case kt => first | exact List.forall_mem_nil _ | ((repeat (refine all_cons (by first | exact (News.get (by k_asm) (by k_mem)) | exact Fr.keep (by k_asm) _ _ (by assumption)) ?_)); exact List.forall_mem_nil _)); (case kd => omega); (case ku => omega); k_whole; intro r9 h' tk' F' N' p9; obtain ⟨t9, rfl⟩ := p9; (try dsimp only); (try k_sweep)))
  k_with "call ref" => (k_dflt ((rename News _ _ _ _ => N9); (rename Fr _ _ _ _ => F9); (try k_fold); refine' con_use (killers_add_ok hp hl1 hl2 e1 e2 d3 d4 d5) ?k1 ?k2 ?k3 ?k4 ?k5 ?kK ?ks ?kt ?kd ?ku ?_; (case k1 => k_asm); (case k2 => k_asm); (case k3 => k_asm); (case k4 => k_asm); (case k5 => k_asm); (case kK => exact rfl); (case ks => (first | (refine sub_of ?_; (repeat (first | refine List.Sublist.cons_cons _ ?_ | ((fail_if_success exact List.nil_sublist _); refine List.Sublist.cons _ ?_))); exact List.nil_sublist _) | ((repeat (refine all_cons (by k_mem) ?_)); exact List.forall_mem_nil _))); (case kt => first | exact List.forall_mem_nil _ | ((repeat (refine all_cons (by first | exact (News.get (by k_asm) (by k_mem)) | exact Fr.keep (by k_asm) _ _ (by assumption)) ?_)); exact List.forall_mem_nil _)); (case kd => omega); (case ku => omega); k_whole; intro r9 h' tk' F' K9 p9; obtain ⟨rfl, ⟨ws1, m1, hg1, hi1⟩, ⟨ws2, m2, hg2, hi2⟩⟩ := p9; have N' : News g L h' (histL Hd Hx S hh1 hh2 l k1 k2 ta1 n o ++ (killL Kd Kx F1 F2 hh3 hh4 hh5 pl j1 j2 j3 ta2 n3 m1 m2 ws1 ws2 ++ [(Tr, listOf tvs.toArray tn)])) := by ((repeat (first | refine news_keep N9 (by k_mem) K9 (by ((repeat (refine nmem_cons (by first | omega | ((try dsimp only); omega)) ?_)); exact nmem_nil)) ?_ | refine news_new N9 (by k_mem) hg1 ?_ | refine news_new N9 (by k_mem) hg2 ?_)); exact News.nil); (try dsimp only); (try k_sweep)))
  have hTL : Tr < L := Z.lt (Tr, listOf tvs.toArray tn) (by simp)
  have hfold : ∀ (i : Nat) (mv : Int), tried[i]? = some mv → (tried.take (i + 1)).foldl (lowC l side best (bonusOf l depth)) (updC l c side best (bonusOf l depth)) = lowC l side best (bonusOf l depth) ((tried.take i).foldl (lowC l side best (bonusOf l depth)) (updC l c side best (bonusOf l depth))) mv := fun i mv e => by
    rw [List.take_add_one, e]; simp
  k_with "pyIter ref" => (k_dflt (((rename News _ _ _ _ => N9); (rename Fr _ _ _ _ => F9); refine' list_K (σ := Obj × List (Int × Value)) [S] (fun c => histL Hd Hx S hh1 hh2 l k1 k2 ta1 n c.1 ++ (killL Kd Kx F1 F2 hh3 hh4 hh5 pl j1 j2 j3 ta2 n3 m1 m2 ws1 ws2 ++ [(Tr, listOf tvs.toArray tn)])) (fun _ => []) [] (fun i z => intD w z.1 z.2 ((tried.take i).foldl (lowC l side best (bonusOf l depth)) (updC l c side best (bonusOf l depth)))) (o', kvs') ?hh (News.isList N9 (by k_mem)) ?hlL F9 N9 ?ha ?hp ?hk ?hno ?turn ?done; (case hh => exact rfl); (case hlL => (show Tr ≠ L; omega)); (case ha => ((repeat (refine adr_cons (by omega) (live_of N9 (by k_mem)) ?_)); exact adr_nil)); (case hp => exact hd'); (case hk => exact fun _ h => nomatch h); (case hno => (intro i c hP; (repeat (first | exact noIt_nil | exact noIt_T | refine noIt_cons (by first | rfl | exact itCls_dict (dict_cls (by assumption))) ?_ | refine noIt_app ?_ ?_)))); (case' turn => (clear F9 N9; intro i v cc u h9 tk9 own hv ho hP F' N'; (try dsimp only); k_fold; obtain ⟨mv, tm, hmv, rfl⟩ := ints_at ht hv; obtain ⟨o9, kvs9⟩ := cc; dsimp only at hP; (try dsimp only at F'); (try dsimp only at N'); refine (let m9 : Str → Option Value := _; (fun (F' : Fr _ _ _ m9) => ?_) F'); have hW := WFc.lows (best := best) hl.1 hs hb (tried.take i) (hc.upd hl.1 hs (mv := best) (by omega) (b := bonusOf l depth) (by omega)) (fun q hq => htr q (List.mem_of_mem_take hq)); have hmr := htr mv (List.mem_of_getElem? hmv))); (case' done => (clear F9 N9; intro cc u h9 tk9 hP F' N'; obtain ⟨o9, kvs9⟩ := cc; dsimp only at hP; (try dsimp only at F'); (try dsimp only at N'); refine (let m9 : Str → Option Value := _; (fun (F' : Fr _ _ _ m9) => ?_) F'))))))
  k_steps
  · (refine' back_intro ?bF ?bL ?_; (case bF => k_asm); (case bL => first | exact List.forall_mem_nil _ | ((repeat (refine all_cons (by first | exact .inr (News.get (by with_reducible assumption) (by k_mem)) | exact .inl (by simp)) ?_)); exact List.forall_mem_nil _)))
    rw [List.take_of_length_le (by rw [ht.length]; exact Nat.le_refl _)] at hP
    exact ⟨rfl, ⟨_, _, News.get (by k_asm) (by k_mem), hi1⟩, ⟨_, _, News.get (by k_asm) (by k_mem), hi2⟩, ⟨_, _, News.get (by k_asm) (by k_mem), hP⟩⟩
  · refine endK2 (o', kvs') (by k_asm) (by k_asm) (by (intro p9 hp9; repeat (first | exact List.mem_append_right _ hp9 | exact hp9 | refine List.Mem.tail _ ?_))) (by (first | (refine sub_of ?_; (repeat (first | refine List.Sublist.cons_cons _ ?_ | ((fail_if_success exact List.nil_sublist _); refine List.Sublist.cons _ ?_))); exact List.nil_sublist _) | ((repeat (refine all_cons (by k_mem) ?_)); exact List.forall_mem_nil _))) ?_ (fun _ h => nomatch h) (by ((repeat (first | exact Out.st rfl | exact Out.kst (Out.st rfl) rfl | refine Out.ite ?_ rfl | refine Out.itf ?_ rfl | refine Out.stf ?_ rfl))))
    rw [hfold _ _ hmv]
    unfold lowC
    rw [if_pos (by assumption)]
    exact hd'
  · refine endK2 (o9, kvs9) (by k_asm) (by k_asm) (by (intro p9 hp9; repeat (first | exact List.mem_append_right _ hp9 | exact hp9 | refine List.Mem.tail _ ?_))) (by (first | (refine sub_of ?_; (repeat (first | refine List.Sublist.cons_cons _ ?_ | ((fail_if_success exact List.nil_sublist _); refine List.Sublist.cons _ ?_))); exact List.nil_sublist _) | ((repeat (refine all_cons (by k_mem) ?_)); exact List.forall_mem_nil _))) ?_ (fun _ h => nomatch h) (by ((repeat (first | exact Out.st rfl | exact Out.kst (Out.st rfl) rfl | refine Out.ite ?_ rfl | refine Out.itf ?_ rfl | refine Out.stf ?_ rfl))))
    rw [hfold _ _ hmv]
    unfold lowC
    rw [if_neg (fun z => z (by assumption))]
    exact hP
end
section
theorem on_Comp : True := by
  k_with_none
  k_with "om2" => (lia)
  trivial
/-! comprehensions that keep all -/
section
variable {prog : Program} {w : World} {A : Around} {E : Value → Shared → Prop} {s : Shared} {env : Env} {x : Str} {scope : Scope} {elt : Expr} {Q : Value → Shared → Prop}
theorem comp_walk0 {I : Addr} {fp : List Addr} {vs : List Value} {P : Nat → Value → Prop} {St : Nat → Heap → Prop} {s₂ : Shared} (F : Value → Value → Prop) (W : Walks prog w A I fp [I] vs.length P St) (hP : ∀ j v, j < vs.length → P j v → vs[j]? = some v) (hPv : ∀ j v, P j v → j < vs.length) (hst : St 0 s₂.heap) (hfp : ∀ b ∈ fp, b < s₂.heap.objs.size)
    (hI : s.heap.get? I = none) (hk₂ : ∀ b o, s.heap.get? b = some o → s₂.heap.get? b = some o) (hs₂ : ∃ h tk, s₂ = { s with heap := h, toks := tk }) (hsz : vs.length ≤ sizeLine)
    (elt_ok : ∀ C v s₃ m₃ E', v ∈ vs → s₃.heap.Ns C m₃ → m₃ x = some v → (∀ b o, s.heap.get? b = some o → s₃.heap.get? b = some o) → wpAny (model prog w) A (eval elt (compEnv scope C env)) (fun y s₄ => F v y ∧ Keeps s₃ s₄) E' s₃)
    (done : ∀ D n h' tk (ys : List Value), s.heap.get? D = none → h'.get? D = some (listOf ys.toArray n) → Paired F vs ys → (∀ b o, s.heap.get? b = some o → h'.get? b = some o) → Q (.ref D) { s with heap := h', toks := tk }) :
    CompPost prog w A env scope x [] elt Q (.ref I) s₂ := by
  obtain ⟨h₂, tk₂, rfl⟩ := hs₂
  have off : ∀ b o, s.heap.get? b = some o → b ∉ [I] := fun b o e q => by
    rw [List.mem_singleton.mp q, hI] at e; cases e
  refine ⟨fun _ => true, F, I, fp, [I], vs.length, P, St, rfl, W, hsz, hst, hfp, ⟨?_, ?_⟩, ?_⟩
  · intro C i v s₃ m₃ E' _ _ _ _ _
    exact wpAny_pure ⟨rfl, s₃.heap, s₃.toks, rfl, fun _ _ e => e⟩
  · intro C i v s₃ m₃ E' hp _ hn hm hk _
    exact elt_ok C v s₃ m₃ E' (List.mem_of_getElem? (hP i v (hPv i v hp) hp)) hn hm fun b o e => hk b o (off b o e) (hk₂ b o e)
  · intro D h' tk ys vs' hD _ hpl hlen hPs hpair hk
    have hv : vs' = vs := by
      apply List.ext_getElem? 
      intro j
      rcases Nat.lt_or_ge j vs.length with hj | hj
      · obtain ⟨v, e⟩ : ∃ v, vs'[j]? = some v := ⟨_, List.getElem?_eq_getElem (by omega)⟩
        rw [e, hP j v hj (hPs j v e)]
      · rw [List.getElem?_eq_none (by omega), List.getElem?_eq_none hj]
    subst hv
    obtain ⟨n, hn⟩ := hpl
    have hys : ys = ys.toList.toArray := by simp
    rw [hys] at hn
    refine done D n h' tk ys.toList ?_ hn (by rw [List.filter_eq_self.mpr fun _ _ => rfl] at hpair; exact hpair) fun b o e => hk b o (off b o e) (hk₂ b o e)
    cases q : s.heap.get? D with
    | none => rfl
    | some o => have := hk₂ D o q; rw [hD] at this; cases this

theorem comp_list0 {l : Nat} {vs : List Value} (F : Value → Value → Prop) (hh : A.handled = none) (hl : s.heap.IsList l vs.toArray) (hsz : vs.length ≤ sizeLine)
    (elt_ok : ∀ C v s₃ m₃ E', v ∈ vs → s₃.heap.Ns C m₃ → m₃ x = some v → (∀ b o, s.heap.get? b = some o → s₃.heap.get? b = some o) → wpAny (model prog w) A (eval elt (compEnv scope C env)) (fun y s₄ => F v y ∧ Keeps s₃ s₄) E' s₃)
    (done : ∀ D n h' tk (ys : List Value), s.heap.get? D = none → h'.get? D = some (listOf ys.toArray n) → Paired F vs ys → (∀ b o, s.heap.get? b = some o → h'.get? b = some o) → Q (.ref D) { s with heap := h', toks := tk }) :
    wpAny (model prog w) A (pyIter (.ref l)) (CompPost prog w A env scope x [] elt Q) E s := by
  obtain ⟨ol, hol, _⟩ := id hl
  have hlt : l < s.heap.objs.size := Heap.lt_size hol
  have hne : l ≠ s.heap.objs.size := Nat.ne_of_lt hlt
  refine wpAny_pyIter_list hl ?_
  have W := Walks.list (prog := prog) (w := w) hh s.heap.objs.size l hne vs.toArray
  have e : vs.toArray.size = vs.length := by simp
  rw [e] at W
  refine comp_walk0 F W (fun j v _ h => by simpa using h) (fun j v h => ?_) ⟨⟨_, Heap.get?_push_size _ rfl, rfl, rfl⟩, hl.at fun o e => Heap.get?_push_of_some _ e⟩ ?_ ?_ (fun b o e => Heap.get?_push_of_some _ e) ⟨_, _, rfl⟩ hsz elt_ok done
  · have h : vs[j]? = some v := by simpa using h
    exact (List.getElem?_eq_some_iff.mp h).1
  · intro b hb
    show b < (s.heap.push _).objs.size
    rw [Heap.size_push]
    rcases List.mem_cons.mp hb with rfl | hb
    · exact Nat.lt_succ_self _
    · have e := List.mem_singleton.mp hb
      rw [e]; exact Nat.lt_succ_of_lt hlt
  · cases q : s.heap.get? s.heap.objs.size with
    | none => rfl
    | some o => exact absurd (Heap.lt_size q) (Nat.lt_irrefl _)
end
theorem paired_map {α β γ : Type} {R : β → γ → Prop} (f : α → β) : ∀ {xs : List α} {zs : List γ}, Paired R (xs.map f) zs → ∃ ws : List (α × γ), ws.map (·.1) = xs ∧ ws.map (·.2) = zs ∧ ∀ p ∈ ws, R (f p.1) p.2
  | [], [], _ => ⟨[], rfl, rfl, fun _ h => nomatch h⟩
  | x :: xs, z :: zs, h => by
    cases h with
    | cons h1 h2 =>
      obtain ⟨ws, a, b, c⟩ := paired_map f h2
      exact ⟨(x, z) :: ws, by simp [a], by simp [b], fun p hp => by
        rcases List.mem_cons.mp hp with rfl | hp
        · exact h1
        · exact c p hp⟩
  | [], _ :: _, h => by cases h
  | _ :: _, [], h => by cases h
theorem ints_paired {α : Type} (f : α → Value) (k : α → Int) : ∀ {xs : List α} {zs : List Value}, Paired (fun v y => ∀ e ∈ xs, v = f e → ∃ t, y = Value.int (k e) t) (xs.map f) zs → IntsAre zs (xs.map k)
  | [], [], _ => .nil
  | x :: xs, z :: zs, h => by
    cases h with
    | cons h1 h2 =>
      obtain ⟨t, rfl⟩ := h1 x (.head _) rfl
      refine .cons _ _ (ints_paired f k ?_)
      have : ∀ {a b}, Paired (fun v y => ∀ e ∈ x :: xs, v = f e → ∃ t, y = Value.int (k e) t) a b → Paired (fun v y => ∀ e ∈ xs, v = f e → ∃ t, y = Value.int (k e) t) a b := by
        intro a b q
        induction q with
        | nil => exact .nil
        | cons h _ ih => exact .cons (fun e he => h e (.tail _ he)) ih
      exact this h2
  | [], _ :: _, h => by cases h
  | _ :: _, [], h => by cases h
end
section
theorem on_C1 : True := by
  k_with_none
  k_with "om2" => (lia)
  trivial
/-! the picker's small defs -/
theorem fresh_base {h₀ h : Heap} {L a : Addr} {m : Str → Option Value} (F : Fr h₀ L h m) (hn : h.get? a = none) : h₀.get? a = none := by
  cases q : h₀.get? a with
  | none => rfl
  | some o => rw [F.keep a o q] at hn; cases hn
theorem te_same {h : Heap} {e e' : TE} (h1 : h.get? e.1 = some (tupObj e)) (h2 : h.get? e'.1 = some (tupObj e')) (q : teR e = teR e') : e.2.1 = e'.2.1 := by
  unfold teR at q
  injection q with q
  rw [← q, h1] at h2
  have h2 := Option.some.inj h2
  unfold tupObj at h2
  simp at h2
  exact Prod.ext h2.1.1 h2.2.1
theorem led_apart {h₀ : Heap} {L a : Addr} {led : List (Addr × Obj)} {h1 : Heap} (hn : h1.get? a = none) (N : News h₀ L h1 led) : a ∉ led.map (·.1) := fun q => by
  obtain ⟨p, hp, e⟩ := List.mem_map.mp q
  have := (N p hp).1
  rw [e, hn] at this; cases this
theorem killer_pair_ok {w : World} {ply pl : Int} {t1 t4 k1 k2 k3 : Tok} {Kd Kx F1 F2 : Nat} {hh1 hh2 hh3 : Int} {n n1 n2 : Nat} {vs1 vs2 : List Value} {f1 f2 : List Int}
   (hp : 0 ≤ ply ∧ ply ≤ 10) (hl1 : IntsAre vs1 f1) (hl2 : IntsAre vs2 f2) (e1 : f1.length = pl) (e2 : f2.length = pl) :
    Con w 226 [.ref Kx, .int ply t1] (killL Kd Kx F1 F2 hh1 hh2 hh3 pl k1 k2 k3 t4 n n1 n2 vs1 vs2) [] [] 3 12
     (fun H r h' => ∃ a t t', r = .ref a ∧ H.get? a = none ∧ h'.get? a = some { cls := .type "tuple", data := .seq #[.int (f1.getD ply.toNat 0) t, .int (f2.getD ply.toNat 0) t'] }) := by
  refine' con_enter [("killers", .ref Kx), ("ply", .int ply t1)] ?ho ?hcd ?hb ?hl ?hdis ?_ ?c1 ?c2 ?c3 ?c4; (case ho => k_is); (case hcd => k_is); (case hb => exact rfl); (case hl => exact locs rfl); (try (case hdis => exact List.forall_mem_nil _)); (case c1 => exact rfl); (case c2 => exact rfl); (case c3 => exact rfl); (case c4 => decide); k_whole; intro dp un gd outer A₀ base g L h₁ H s mean mg mb B X T F N Tl Z hD hU; (try dsimp only); refine (let m9 : Str → Option Value := _; (fun (F : Fr _ _ _ m9) => ?_) F)
  k_fold
  k_with_none
  k_with "storeName" => (k_dflt (k_here; refine' store2 ?F ?N ?_ ?a ?b; (case F => k_asm); (case N => k_asm); (case a => rfl); (case b => rfl); k_whole; intro h' tk' F' N'; refine (let m9 : Str → Option Value := _; (fun (F' : Fr _ _ _ m9) => ?_) F'); (try k_sweep)))
  k_with "eval Constant int" => (k_dflt (first | with_reducible refine const_int3 ?_ | refine const_int3 ?_))
  k_with "binaryOp Add int int" => (k_dflt (first | with_reducible refine add_int3 ?_ | refine add_int3 ?_))
  k_with "binaryOp Sub int int" => (k_dflt (first | with_reducible refine sub_int3 ?_ | refine sub_int3 ?_))
  k_with "unaryOp USub int" => (k_dflt (first | with_reducible refine neg_int3 ?_ | refine neg_int3 ?_))
  k_with "om2" => (lia)
  k_with "call ref" => (k_dflt ((rename News _ _ _ _ => N9); (rename Fr _ _ _ _ => F9); (try k_fold); refine' con_use (killers_pair_ok hp hl1 hl2 e1 e2) ?k1 ?k2 ?k3 ?k4 ?k5 ?kK ?ks ?kt ?kd ?ku ?_; (case k1 => k_asm); (case k2 => k_asm); (case k3 => k_asm); (case k4 => k_asm); (case k5 => k_asm); (case kK => exact rfl); (case ks => (first | (refine sub_of ?_; (repeat (first | refine List.Sublist.cons_cons _ ?_ | ((fail_if_success exact List.nil_sublist _); refine List.Sublist.cons _ ?_))); exact List.nil_sublist _) | ((repeat (refine all_cons (by k_mem) ?_)); exact List.forall_mem_nil _))); (case kt => first | exact List.forall_mem_nil _ | ((repeat (refine all_cons (by first | exact (News.get (by k_asm) (by k_mem)) | exact Fr.keep (by k_asm) _ _ (by assumption)) ?_)); exact List.forall_mem_nil _)); (case kd => omega); (case ku => omega); k_whole; intro r9 h' tk' F' K9 p9; obtain ⟨a9, ta9, tb9, rfl, hn9, hg9⟩ := p9; have hH9 := Z.fresh (fresh_base F9 hn9) (led_apart hn9 N9); have N' : News g L h' ((a9, { cls := .type "tuple", data := .seq #[.int (f1.getD ply.toNat 0) ta9, .int (f2.getD ply.toNat 0) tb9] }) :: killL Kd Kx F1 F2 hh1 hh2 hh3 pl k1 k2 k3 t4 n n1 n2 vs1 vs2) := news_made F9 hn9 hg9 (by ((repeat (first | refine news_keep N9 (by k_mem) K9 (by ((repeat (refine nmem_cons (by first | omega | ((try dsimp only); omega)) ?_)); exact nmem_nil)) ?_)); exact News.nil)); (try dsimp only); (try k_sweep)))
  k_steps
  (refine' back_intro ?bF ?bL ?_; (case bF => k_asm); (case bL => first | exact List.forall_mem_nil _ | ((repeat (refine all_cons (by first | exact .inr (News.get (by with_reducible assumption) (by k_mem)) | exact .inl (by simp)) ?_)); exact List.forall_mem_nil _)); (exact ⟨_, _, _, rfl, hH9, News.get (by k_asm) (.head _)⟩))

theorem past_score_ok {w : World} {side move l : Int} {t1 t2 t4 k1 k2 : Tok} {Hd Hx S : Nat} {hh1 hh2 : Int} {n : Nat} {o : Obj} {kvs : List (Int × Value)} {c : List (Int × Int)}
   (hs : 0 ≤ side ∧ side ≤ 1) (hm : 0 ≤ move ∧ move ≤ 10) (hd : intD w o kvs c) (hlow : (S == sysModules) = false) :
    Con w 233 [.ref Hx, .int side t1, .int move t2] (histL Hd Hx S hh1 hh2 l k1 k2 t4 n o) [] [] 3 12
     (fun _ r _ => ∃ t, r = .int (kdfLook c (side * 65536 + move) 0) t) := by
  refine' con_enter [("history", .ref Hx), ("side", .int side t1), ("move", .int move t2)] ?ho ?hcd ?hb ?hl ?hdis ?_ ?c1 ?c2 ?c3 ?c4; (case ho => k_is); (case hcd => k_is); (case hb => exact rfl); (case hl => exact locs rfl); (try (case hdis => exact List.forall_mem_nil _)); (case c1 => exact rfl); (case c2 => exact rfl); (case c3 => exact rfl); (case c4 => decide); k_whole; intro dp un gd outer A₀ base g L h₁ H s mean mg mb B X T F N Tl Z hD hU; (try dsimp only); refine (let m9 : Str → Option Value := _; (fun (F : Fr _ _ _ m9) => ?_) F)
  k_fold
  k_with_none
  k_with "storeName" => (k_dflt (k_here; refine' store2 ?F ?N ?_ ?a ?b; (case F => k_asm); (case N => k_asm); (case a => rfl); (case b => rfl); k_whole; intro h' tk' F' N'; refine (let m9 : Str → Option Value := _; (fun (F' : Fr _ _ _ m9) => ?_) F'); (try k_sweep)))
  k_with "eval Constant int" => (k_dflt (first | with_reducible refine const_int3 ?_ | refine const_int3 ?_))
  k_with "binaryOp Add int int" => (k_dflt (first | with_reducible refine add_int3 ?_ | refine add_int3 ?_))
  k_with "binaryOp Sub int int" => (k_dflt (first | with_reducible refine sub_int3 ?_ | refine sub_int3 ?_))
  k_with "unaryOp USub int" => (k_dflt (first | with_reducible refine neg_int3 ?_ | refine neg_int3 ?_))
  k_with "om2" => (lia)
  k_with "call ref" => (k_dflt ((rename News _ _ _ _ => N9); (rename Fr _ _ _ _ => F9); (try k_fold); refine' con_use0 (history_get_ok hs hm hd hlow) ?k1 ?k2 ?k3 ?k4 ?k5 ?kK ?ks ?kt ?kd ?ku ?_; (case k1 => k_asm); (case k2 => k_asm); (case k3 => k_asm); (case k4 => k_asm); (case k5 => k_asm); (case kK => exact rfl); (case ks => (first | (refine sub_of ?_; (repeat (first | refine List.Sublist.cons_cons _ ?_ | ((fail_if_success exact List.nil_sublist _); refine List.Sublist.cons _ ?_))); exact List.nil_sublist _) | ((repeat (refine all_cons (by k_mem) ?_)); exact List.forall_mem_nil _))); (case kt => first | exact List.forall_mem_nil _ | ((repeat (refine all_cons (by first | exact (News.get (by k_asm) (by k_mem)) | exact Fr.keep (by k_asm) _ _ (by assumption)) ?_)); exact List.forall_mem_nil _)); (case kd => omega); (case ku => omega); k_whole; intro r9 h' tk' F' N' p9; obtain ⟨t9, rfl⟩ := p9; (try dsimp only); (try k_sweep)))
  k_steps
  (refine' back_intro ?bF ?bL ?_; (case bF => k_asm); (case bL => first | exact List.forall_mem_nil _ | ((repeat (refine all_cons (by first | exact .inr (News.get (by with_reducible assumption) (by k_mem)) | exact .inl (by simp)) ?_)); exact List.forall_mem_nil _)); (exact ⟨_, rfl⟩))

theorem moves_of_ok {w : World} {Sc n1 : Nat} {ts : List TE} (hlen : ts.length ≤ 10) (hdis : ∀ e ∈ ts, e.1 ≠ Sc) :
    Con w 238 [.ref Sc] [(Sc, listOf (ts.map teR).toArray n1)] (ts.map teE) [] 2 8
      (fun H r h' => ∃ a, r = .ref a ∧ H.get? a = none ∧ isL h' a (ts.map (·.2.1.2))) := by
  refine' con_enter [("scored", .ref Sc)] ?ho ?hcd ?hb ?hl ?hdis ?_ ?c1 ?c2 ?c3 ?c4; (case ho => k_is); (case hcd => k_is); (case hb => exact rfl); (case hl => exact locs rfl); (try (case hdis => exact List.forall_mem_nil _)); (case c1 => exact rfl); (case c2 => exact rfl); (case c3 => exact rfl); (case c4 => decide)
  case hdis => (intro p hp; obtain ⟨e, he, rfl⟩ := List.mem_map.mp hp; exact nmem_cons (hdis e he) nmem_nil)
  k_whole; intro dp un gd outer A₀ base g L h₁ H s mean mg mb B X T F N Tl Z hD hU; (try dsimp only); refine (let m9 : Str → Option Value := _; (fun (F : Fr _ _ _ m9) => ?_) F)
  k_fold
  k_with_none
  k_with "storeName" => (k_dflt (k_here; refine' store2 ?F ?N ?_ ?a ?b; (case F => k_asm); (case N => k_asm); (case a => rfl); (case b => rfl); k_whole; intro h' tk' F' N'; refine (let m9 : Str → Option Value := _; (fun (F' : Fr _ _ _ m9) => ?_) F'); (try k_sweep)))
  k_with "eval Constant int" => (k_dflt (first | with_reducible refine const_int3 ?_ | refine const_int3 ?_))
  k_with "binaryOp Add int int" => (k_dflt (first | with_reducible refine add_int3 ?_ | refine add_int3 ?_))
  k_with "binaryOp Sub int int" => (k_dflt (first | with_reducible refine sub_int3 ?_ | refine sub_int3 ?_))
  k_with "unaryOp USub int" => (k_dflt (first | with_reducible refine neg_int3 ?_ | refine neg_int3 ?_))
  k_with "om2" => (lia)
  have hT : ∀ e ∈ ts, g.get? e.1 = some (tupObj e) := fun e he => Tl _ (List.mem_map_of_mem (f := teE) he)
  k_with "pyIter ref" => (k_dflt (((rename News _ _ _ _ => N9); (rename Fr _ _ _ _ => F9); refine' comp_list0 (vs := ts.map teR) (fun v y => ∀ e ∈ ts, v = teR e → ∃ t, y = .int e.2.1.2 t) ?zhh (News.isList N9 (by k_mem)) ?zhsz ?zelt ?zdone; (case zhh => exact rfl); (case zhsz => (rw [sizeLine_eq]; simp; omega)); (case zelt => (intro C v s₃ m₃ E' hv hn hm hk; obtain ⟨e, he, rfl⟩ := List.mem_map.mp hv; refine Subscript_ (wpAny_Name (wpAny_loadName_local rfl rfl hn hm (wpAny_Constant_int (my_tup (j := 1) (isTup_of (e := e) (hk _ _ (F9.keep _ _ (hT e he)))) (by decide) rfl ⟨?_, s₃.heap, _, rfl, fun _ _ q => q⟩)))); intro e' he' q; rw [← te_same (hT e he) (hT e' he') q]; exact ⟨_, rfl⟩)); (intro D n h' tk ys hD hg hp hk; have F' := F9.keeps hk; have N' := N9.grown hk; have hH9 := Z.fresh (fresh_base F9 hD) (led_apart hD N9)))))
  k_steps
  (refine' back_intro ?bF ?bL ?_; (case bF => k_asm); (case bL => first | exact List.forall_mem_nil _ | ((repeat (refine all_cons (by first | exact .inr (News.get (by with_reducible assumption) (by k_mem)) | exact .inl (by simp)) ?_)); exact List.forall_mem_nil _)); (exact ⟨D, rfl, hH9, ys, _, hg, ints_paired teR (·.2.1.2) hp⟩))
end
section
theorem on_W1 : True := by
  k_with_none
  k_with "om2" => (lia)
  trivial
/-! the world of the law: its addresses, its state, the objects that bear it -/
abbrev TT := List (List Int × Addr × Value)
abbrev knT (w : World) := intKind PySem.Challenge.rw_nt0425_01.row.prog w
inductive BoolsAre : List Value → List Bool → Prop
  | nil : BoolsAre [] []
  | cons {b : Bool} {vs : List Value} {bs : List Bool} : BoolsAre vs bs → BoolsAre (.bool b :: vs) (b :: bs)
theorem BoolsAre.length {vs : List Value} {bs : List Bool} (h : BoolsAre vs bs) : vs.length = bs.length := by
  induction h with
  | nil => rfl
  | cons _ ih => simp [ih]
theorem BoolsAre.get {vs : List Value} {bs : List Bool} (h : BoolsAre vs bs) : ∀ {i : Nat}, i < bs.length → vs[i]? = some (.bool (bs.getD i false)) := by
  induction h with
  | nil => intro i hi; exact absurd hi (Nat.not_lt_zero _)
  | cons _ ih =>
    intro i hi
    cases i with
    | zero => rfl
    | succ j => simpa using ih (i := j) (by simpa using hi)
/-- the tree -/
structure Tre where
  ch : List (List Int)
  va : List Int
  no : List (List Bool)
  ga : List (List Int)
set_option genInjectivity false
set_option genSizeOf false
structure Ad where
  (Gd G P Ch V Ck Dr No Ga Kd Kx F1 F2 Hd Hx S Cd Cx R D0 Pl D2 Tb Rc Rw : Nat)
  hh : Nat → Int
  kk : Nat → Tok
  nn : Nat → Nat
  l : Int
  pl : Int
  T : Tre
  (chv vav nov gav : List Value)
structure St where
  pvs : List Value
  np : Nat
  path : List Int
  (vs1 vs2 : List Value)
  (n1 n2 : Nat)
  (f1 f2 : List Int)
  so : Obj
  skv : List (Int × Value)
  sc : List (Int × Int)
  ro : Obj
  rkv : List (Int × Value)
  rc : List (Int × Int)
  d0 : Obj
  xs : TT
  plv : List Value
  npl : Nat
  d2 : Obj
  ys : TT
  imm : List (Addr × Obj)
set_option genInjectivity true
set_option genSizeOf true
def tupO (vs : List Value) : Obj := { cls := .type "tuple", data := .seq vs.toArray }
abbrev gaL (a : Ad) (σ : St) := gameL a.Gd a.G a.P a.Ch a.V a.Ck a.Dr a.No a.Ga a.hh a.kk (a.nn 0) σ.np σ.pvs
abbrev roL (a : Ad) : List (Addr × Obj) := [(a.Ch, listOf a.chv.toArray (a.nn 1)), (a.V, listOf a.vav.toArray (a.nn 2)), (a.No, listOf a.nov.toArray (a.nn 3)), (a.Ga, listOf a.gav.toArray (a.nn 4))]
abbrev kiL (a : Ad) (σ : St) := killL a.Kd a.Kx a.F1 a.F2 (a.hh 8) (a.hh 9) (a.hh 10) a.pl (a.kk 8) (a.kk 9) (a.kk 10) (a.kk 20) (a.nn 5) σ.n1 σ.n2 σ.vs1 σ.vs2
abbrev hiL (a : Ad) (σ : St) := histL a.Hd a.Hx a.S (a.hh 11) (a.hh 12) a.l (a.kk 11) (a.kk 12) (a.kk 21) (a.nn 6) σ.so
abbrev cnL (a : Ad) (σ : St) := cntL a.Cd a.Cx a.R (a.hh 13) (a.kk 13) (a.nn 7) σ.ro
abbrev reL (a : Ad) (σ : St) : List (Addr × Obj) := [(a.Tb, tupO [.ref a.Hx, .ref a.Kx, .ref a.Cx]), (a.D0, σ.d0), (a.Pl, listOf σ.plv.toArray σ.npl), (a.D2, σ.d2), (a.Rc, tupO [.ref a.D0, .ref a.Pl, .ref a.D2])]
abbrev rwO (a : Ad) : Obj := tupO [.ref a.Ch, .ref a.V, .ref a.No, .ref a.Ga]
abbrev hdO (a : Ad) : Obj := dictOf [⟨a.hh 11, .str (Str.ofString "limit") (a.kk 11), .int a.l (a.kk 21)⟩, ⟨a.hh 12, .str (Str.ofString "scores") (a.kk 12), .ref a.S⟩] (a.nn 6)
def WX (a : Ad) (σ : St) : List (Addr × Obj) := roL a ++ ((a.Rw, rwO a) :: (gaL a σ ++ ((a.Hd, hdO a) :: (a.Hx, instObj 117 a.Hd) :: (kiL a σ ++ (cnL a σ ++ (reL a σ ++ [(a.S, σ.so)]))))))
def WL (a : Ad) (σ : St) : List (Addr × Obj) := WX a σ ++ σ.imm
def Ad.fix (a : Ad) : List Addr := [a.Ch, a.V, a.No, a.Ga, a.Rw, a.Gd, a.G, a.P, a.Hd, a.Hx, a.Kd, a.Kx, a.F1, a.F2, a.Cd, a.Cx, a.R, a.Tb, a.D0, a.Pl, a.D2, a.Rc, a.S]
theorem WX_fix (a : Ad) (σ : St) : (WX a σ).map (·.1) = a.fix := rfl
theorem WL_addr {a : Ad} {σ : St} {p : Addr × Obj} (h : p ∈ WL a σ) : p.1 ∈ a.fix ∨ p ∈ σ.imm :=
  (List.mem_append.mp h).imp (fun q => WX_fix a σ ▸ List.mem_map_of_mem (f := (·.1)) q) id
theorem fix_in {a : Ad} {b : Addr} (σ : St) (h : b ∈ a.fix) : ∃ p ∈ WL a σ, p.1 = b := by
  rw [← WX_fix a σ] at h
  obtain ⟨p, hp, e⟩ := List.mem_map.mp h
  exact ⟨p, List.mem_append_left _ hp, e⟩
structure Ord (a : Ad) : Prop where
  o1 : a.Ch < a.V ∧ a.V < a.No ∧ a.No < a.Ga ∧ a.Ga < a.Rw ∧ a.Rw < a.Gd ∧ a.Gd < a.G ∧ a.G < a.P ∧ a.P < a.Hd ∧ a.Hd < a.Hx ∧ a.Hx < a.Kd ∧ a.Kd < a.Kx ∧ a.Kx < a.F1 ∧ a.F1 < a.F2
  o2 : a.F2 < a.Cd ∧ a.Cd < a.Cx ∧ a.Cx < a.R ∧ a.R < a.Tb ∧ a.Tb < a.D0 ∧ a.D0 < a.Pl ∧ a.Pl < a.D2 ∧ a.D2 < a.Rc
  oS : a.S ≠ a.Hd ∧ a.S ≠ a.Hx ∧ a.S ≠ a.Kd ∧ a.S ≠ a.Kx ∧ a.S ≠ a.F1 ∧ a.S ≠ a.F2
  nd : a.fix.Nodup
  lS : (a.S == sysModules) = false
  lR : (a.R == sysModules) = false
  l0 : (a.D0 == sysModules) = false
  l2 : (a.D2 == sysModules) = false
  lim : 20 ≤ a.l ∧ a.l ≤ 519
  pls : 1 ≤ a.pl ∧ a.pl ≤ 3
/-- a dict by tuples of ints, its keys' objects among imm -/
structure TD (w : World) (imm : List (Addr × Obj)) (o : Obj) (xs : TT) : Prop where
  ex : o.ExactDict
  data : ∃ es ep, o.data = .dict es ep ∧ es.toList = xs.map (entryOfKey (tupleKind (knT w)))
  nodup : (xs.map (·.1)).Nodup
  keys : ∀ x ∈ xs, ∃ ok, (x.2.1, ok) ∈ imm ∧ TupKeyObj (knT w) x.1 ok
  good : ∀ x ∈ xs, (∃ v t, x.2.2 = .int v t ∧ -1000 ≤ v ∧ v ≤ 1000) ∧ ∃ s m : Int, x.1 = [s, m] ∧ (0 ≤ s ∧ s ≤ 1) ∧ 0 ≤ m ∧ m ≤ 3
def valI : Value → Int
  | .int n _ => n
  | _ => 0
def tlook (xs : TT) (k : List Int) : Int := match atKey xs k with
  | some (_, v) => valI v
  | none => 0
def Agr (c : List (Int × Int)) (xs : TT) : Prop := ∀ s m : Int, 0 ≤ s ∧ s ≤ 1 → 0 ≤ m ∧ m ≤ 4 → tlook xs [s, m] = kdfLook c (s * 65536 + m) 0
structure Rws (a : Ad) (imm : List (Addr × Obj)) : Prop where
  n : 1 ≤ a.T.ch.length ∧ a.T.ch.length ≤ 13
  va : IntsAre a.vav a.T.va
  nva : a.T.va.length = a.T.ch.length
  lch : a.chv.length = a.T.ch.length
  ch : ∀ i, i < a.T.ch.length → ∃ nb vs k, a.chv[i]? = some (.ref nb) ∧ (nb, listOf (List.toArray vs) k) ∈ imm ∧ IntsAre vs (a.T.ch.getD i [])
  no : ∀ i, i < a.T.ch.length → ∃ nb vs k, a.nov[i]? = some (.ref nb) ∧ (nb, listOf (List.toArray vs) k) ∈ imm ∧ BoolsAre vs (a.T.no.getD i [])
  ga : ∀ i, i < a.T.ch.length → ∃ nb vs k, a.gav[i]? = some (.ref nb) ∧ (nb, listOf (List.toArray vs) k) ∈ imm ∧ IntsAre vs (a.T.ga.getD i [])
  lens : ∀ i, i < a.T.ch.length → (a.T.no.getD i []).length = (a.T.ch.getD i []).length ∧ (a.T.ga.getD i []).length = (a.T.ch.getD i []).length ∧ (a.T.ch.getD i []).length ≤ 3
  kids : ∀ i, i < a.T.ch.length → ∀ c ∈ a.T.ch.getD i [], 0 ≤ c ∧ c < a.T.ch.length
  vals : ∀ v ∈ a.T.va, -20 ≤ v ∧ v ≤ 20
/-- all but the agreement of the tables -/
structure WB (w : World) (a : Ad) (σ : St) : Prop where
  ord : Ord a
  rws : Rws a σ.imm
  off : ∀ p ∈ σ.imm, p.1 ∉ a.fix
  path : IntsAre σ.pvs σ.path
  k1 : IntsAre σ.vs1 σ.f1
  k2 : IntsAre σ.vs2 σ.f2
  e1 : σ.f1.length = a.pl
  e2 : σ.f2.length = a.pl
  hi : intD w σ.so σ.skv σ.sc
  wsc : WFc a.l σ.sc
  cn : intD w σ.ro σ.rkv σ.rc
  wrc : WFc 3 σ.rc
  t0 : TD w σ.imm σ.d0 σ.xs
  t2 : TD w σ.imm σ.d2 σ.ys
  lpl : σ.plv.length = a.pl
  noit : NoIt σ.imm
  kb : (∀ x ∈ σ.f1, 0 ≤ x ∧ x ≤ 3) ∧ ∀ x ∈ σ.f2, 0 ≤ x ∧ x ≤ 3
/-- the two killers of each ply, as the records have them -/
def Prs (imm : List (Addr × Obj)) (plv : List Value) (f1 f2 : List Int) : Prop := ∀ i, i < plv.length → ∃ pa vs k, plv[i]? = some (.ref pa) ∧ (pa, listOf (List.toArray vs) k) ∈ imm ∧ IntsAre vs [f1.getD i 0, f2.getD i 0]
structure WF (w : World) (a : Ad) (σ : St) : Prop extends WB w a σ where
  agr : Agr σ.sc σ.xs
  agr2 : Agr σ.rc σ.ys
  prs : Prs σ.imm σ.plv σ.f1 σ.f2
/-- the path stands at this place -/
structure AtN (a : Ad) (σ : St) (node : Nat) (ply : Int) : Prop where
  lt : node < a.T.ch.length
  last : σ.path.getD (-1 + (σ.path.length : Int)).toNat 0 = (node : Int)
  len : (σ.path.length : Int) = ply + 1
  ply : 0 ≤ ply ∧ ply ≤ 6

section
variable {w : World} {f : Addr} {args : List Value} {led tl W : List (Addr × Obj)} {wr : List Addr} {d u : Nat} {P P' : Heap → Value → Heap → Prop}
theorem Con.frame (C : Con w f args led tl wr d u P) (hl : ∀ p ∈ led, p ∈ W) (ht : ∀ p ∈ tl, p ∈ W) : Con w f args W [] wr d u P :=
  fun _ _ _ _ _ _ _ _ _ _ _ _ _ _ _ _ _ _ _ _ B F X N _ T hk hdp hun ret => C _ _ _ _ _ _ _ _ _ _ _ _ _ _ _ _ _ _ _ _ B F X (fun p hp => N p (hl p hp)) (fun p hp => (N p (ht p hp)).1) T hk hdp hun ret
theorem Con.post (C : Con w f args led tl wr d u P) (h : ∀ H r h', (∀ p ∈ led, H.get? p.1 = some p.2) → Kept wr H h' → P H r h' → P' H r h') : Con w f args led tl wr d u P' :=
  fun _ _ _ _ _ _ _ _ _ _ _ _ _ _ _ _ _ _ _ _ B F X N t T hk hdp hun ret => C _ _ _ _ _ _ _ _ _ _ _ _ _ _ _ _ _ _ _ _ B F X N t T hk hdp hun fun r h' tk' F' K p => ret r h' tk' F' K (h _ r h' (fun q hq => (N q hq).1) K p)
end
def AllAt (h : Heap) (l : List (Addr × Obj)) : Prop := ∀ p ∈ l, h.get? p.1 = some p.2
/-- the world behind a call -/
structure Step (a : Ad) (H : Heap) (σ : St) (h' : Heap) (σ' : St) : Prop where
  here : AllAt h' (WL a σ')
  imm : ∀ p ∈ σ'.imm, p ∈ σ.imm ∨ H.get? p.1 = none
  mono : ∀ p ∈ σ.imm, p ∈ σ'.imm
theorem step_news {a : Ad} {g h h' : Heap} {L : Addr} {m : Str → Option Value} {σ σ' : St} {own : List (Addr × Obj)} {wr : List Addr} (F : Fr g L h m) (N : News g L h (own ++ WL a σ)) (K : Kept wr h h') (ho : ∀ p ∈ own, p.1 ∉ wr) (S : Step a h σ h' σ') : News g L h' (own ++ WL a σ') := by
  intro p hp
  rcases List.mem_append.mp hp with hp | hp
  · have q := N p (List.mem_append_left _ hp)
    exact ⟨K _ _ q.1 (ho p hp), q.2⟩
  · refine ⟨S.here p hp, ?_⟩
    have old : ∀ q ∈ own ++ WL a σ, q.1 = p.1 → p.1 ≠ L ∧ g.get? p.1 = none := fun q hq e => e ▸ (N q hq).2
    rcases WL_addr hp with h1 | h1
    · obtain ⟨q, hq, e⟩ := fix_in σ h1
      exact old q (List.mem_append_right _ hq) e
    · rcases S.imm p h1 with h2 | h2
      · exact old p (List.mem_append_right _ (List.mem_append_right _ h2)) rfl
      · have q := news_made F h2 (S.here p hp) News.nil p (by obtain ⟨p1, p2⟩ := p; exact .head _)
        exact q.2

/-! the fixed part, changed at some places -/
theorem at_set {h' : Heap} : ∀ (us : List (Nat × Addr × Obj)) {l : List (Addr × Obj)}, (l.map (·.1)).Nodup → (∀ u ∈ us, (l.map (·.1))[u.1]? = some u.2.1 ∧ h'.get? u.2.1 = some u.2.2) →
    (∀ p ∈ l, (∀ u ∈ us, p.1 ≠ u.2.1) → h'.get? p.1 = some p.2) → AllAt h' (us.foldl (fun l u => l.set u.1 u.2) l)
  | [], _, _, _, h => fun p hp => h p hp fun _ hu => nomatch hu
  | u :: us, l, nd, hu, h => by
    have e : (l.set u.1 u.2).map (·.1) = l.map (·.1) := by
      rw [List.map_set]
      apply List.ext_getElem?
      intro j
      rw [List.getElem?_set]
      split
      · rename_i q
        subst q
        have := (hu u (.head _)).1
        rw [this]
        have := (List.getElem?_eq_some_iff.mp this).1
        simp at this
        simp [this]
      · rfl
    refine at_set us (e ▸ nd) (fun v hv => e ▸ hu v (.tail _ hv)) fun p hp hn => ?_
    rcases List.mem_or_eq_of_mem_set hp with q | q
    · by_cases hpe : p.1 = u.2.1
      · obtain ⟨i, hi⟩ := List.mem_iff_getElem?.mp hp
        rw [List.getElem?_set] at hi
        split at hi
        · split at hi
          · cases hi; exact (hu u (.head _)).2
          · cases hi
        · rename_i hne
          exfalso
          have h1 := (hu u (.head _)).1
          have h2 : (l.map (·.1))[i]? = some p.1 := by rw [List.getElem?_map, hi]; rfl
          rw [hpe] at h2
          exact hne ((List.getElem?_inj (List.getElem?_eq_some_iff.mp h1).1 nd).mp (h1.trans h2.symm))
      · exact h p q fun v hv => by
          rcases List.mem_cons.mp hv with rfl | hv
          · exact hpe
          · exact hn v hv
    · subst q; exact (hu u (.head _)).2
theorem step_set {a : Ad} {H h' : Heap} {σ σ' : St} {wr : List Addr} (us : List (Nat × Addr × Obj)) (nd : a.fix.Nodup) (off : ∀ p ∈ σ.imm, p.1 ∉ a.fix) (hA : AllAt H (WL a σ)) (K : Kept wr H h') (e : WX a σ' = us.foldl (fun l u => l.set u.1 u.2) (WX a σ))
    (hw : ∀ b ∈ wr, b ∈ a.fix ∧ ∃ u ∈ us, u.2.1 = b) (hu : ∀ u ∈ us, a.fix[u.1]? = some u.2.1 ∧ h'.get? u.2.1 = some u.2.2) (hi : σ'.imm = σ.imm) : Step a H σ h' σ' := by
  refine ⟨fun p hp => ?_, fun p hp => .inl (hi ▸ hp), fun p hp => hi ▸ hp⟩
  rcases List.mem_append.mp hp with hp | hp
  · rw [e] at hp
    refine at_set us (by rw [WX_fix]; exact nd) (by rw [WX_fix]; exact hu) (fun p hp hn => K _ _ (hA p (List.mem_append_left _ hp)) fun q => ?_) p hp
    obtain ⟨_, u, hu, e⟩ := hw _ q
    exact hn u hu e.symm
  · rw [hi] at hp
    exact K _ _ (hA p (List.mem_append_right _ hp)) fun q => off p hp (hw _ q).1
theorem news_chunk {h₀ h h' : Heap} {L : Addr} {news l : List (Addr × Obj)} {wr : List Addr} (N : News h₀ L h news) (hs : ∀ p ∈ l, p ∈ news) (K : Kept wr h h') (hn : ∀ p ∈ l, p.1 ∉ wr) : News h₀ L h' l := fun p hp =>
  ⟨K _ _ (N p (hs p hp)).1 (hn p hp), (N p (hs p hp)).2⟩
/-! what lies in the world -/
section
variable {a : Ad} {σ : St}
theorem sub_ga : ∀ p ∈ gaL a σ, p ∈ WX a σ := by (first | (refine sub_of ?_; (repeat (first | refine List.Sublist.cons_cons _ ?_ | ((fail_if_success exact List.nil_sublist _); refine List.Sublist.cons _ ?_))); exact List.nil_sublist _) | ((repeat (refine all_cons (by k_mem) ?_)); exact List.forall_mem_nil _))
theorem sub_ki : ∀ p ∈ kiL a σ, p ∈ WX a σ := by (first | (refine sub_of ?_; (repeat (first | refine List.Sublist.cons_cons _ ?_ | ((fail_if_success exact List.nil_sublist _); refine List.Sublist.cons _ ?_))); exact List.nil_sublist _) | ((repeat (refine all_cons (by k_mem) ?_)); exact List.forall_mem_nil _))
theorem sub_hi : ∀ p ∈ hiL a σ, p ∈ WX a σ := by (first | (refine sub_of ?_; (repeat (first | refine List.Sublist.cons_cons _ ?_ | ((fail_if_success exact List.nil_sublist _); refine List.Sublist.cons _ ?_))); exact List.nil_sublist _) | ((repeat (refine all_cons (by k_mem) ?_)); exact List.forall_mem_nil _))
theorem sub_cn : ∀ p ∈ cnL a σ, p ∈ WX a σ := by (first | (refine sub_of ?_; (repeat (first | refine List.Sublist.cons_cons _ ?_ | ((fail_if_success exact List.nil_sublist _); refine List.Sublist.cons _ ?_))); exact List.nil_sublist _) | ((repeat (refine all_cons (by k_mem) ?_)); exact List.forall_mem_nil _))
theorem sub_ro : ∀ p ∈ roL a, p ∈ WX a σ := by (first | (refine sub_of ?_; (repeat (first | refine List.Sublist.cons_cons _ ?_ | ((fail_if_success exact List.nil_sublist _); refine List.Sublist.cons _ ?_))); exact List.nil_sublist _) | ((repeat (refine all_cons (by k_mem) ?_)); exact List.forall_mem_nil _))
theorem sub_re : ∀ p ∈ reL a σ, p ∈ WX a σ := by (first | (refine sub_of ?_; (repeat (first | refine List.Sublist.cons_cons _ ?_ | ((fail_if_success exact List.nil_sublist _); refine List.Sublist.cons _ ?_))); exact List.nil_sublist _) | ((repeat (refine all_cons (by k_mem) ?_)); exact List.forall_mem_nil _))
theorem sub_rw : (a.Rw, rwO a) ∈ WX a σ := by k_mem
theorem wx {p : Addr × Obj} (h : p ∈ WX a σ) : p ∈ WL a σ := List.mem_append_left _ h
theorem wxs {l : List (Addr × Obj)} (h : ∀ p ∈ l, p ∈ WX a σ) : ∀ p ∈ l, p ∈ WL a σ := fun p hp => wx (h p hp)
theorem wim {p : Addr × Obj} (h : p ∈ σ.imm) : p ∈ WL a σ := List.mem_append_right _ h
theorem off_sub {l : List (Addr × Obj)} {b : Addr} (h : ∀ p ∈ l, p ∈ WX a σ) (hb : b ∉ a.fix) : b ∉ l.map (·.1) := fun q => by
  obtain ⟨p, hp, e⟩ := List.mem_map.mp q
  exact hb (WX_fix a σ ▸ e ▸ List.mem_map_of_mem (f := (·.1)) (h p hp))
theorem two {l : List (Addr × Obj)} {p : Addr × Obj} (h : ∀ p ∈ l, p ∈ WX a σ) (hp : p ∈ WX a σ) : ∀ q ∈ l ++ [p], q ∈ WX a σ := fun q hq => (List.mem_append.mp hq).elim (h q) fun z => List.mem_singleton.mp z ▸ hp
theorem noIt_WL {w : World} (h : WB w a σ) : NoIt (WL a σ) := by
  unfold WL WX
  simp only [roL, gaL, gameL, kiL, killL, cnL, cntL, reL, List.cons_append, List.nil_append]
  (repeat (first | exact h.noit | refine noIt_cons (by first | rfl | exact itCls_dict (dict_cls h.hi) | exact itCls_dict (dict_cls h.cn) | exact itCls_dict h.t0.ex.1 | exact itCls_dict h.t2.ex.1) ?_))
theorem off_wr {L : Nat} {x : Nat} {l : List (Addr × Obj)} (h : ∀ p ∈ l, p.1 < L) (hx : L ≤ x) : ∀ p ∈ l, p.1 ∉ ([x] : List Addr) := fun p hp q => by
  have := h p hp
  rw [List.mem_singleton.mp q] at this
  exact absurd hx (Nat.not_le.mpr this)
end
end
section
theorem on_D1 : True := by
  k_with_none
  k_with "om2" => (lia)
  trivial
/-! dicts by pairs of ints -/
section
variable {w : World} {A : Around} {E : Value → Shared → Prop} {s : Shared} {d ka : Addr} {o ok : Obj} {xs : TT} {k : List Int} {imm imm' : List (Addr × Obj)}
theorem TD.len (h : TD w imm o xs) : xs.length ≤ 8 := by
  have := nodup_len (ys := [[0, 0], [0, 1], [0, 2], [0, 3], [1, 0], [1, 1], [1, 2], [1, 3]]) h.nodup fun x hx => by
    obtain ⟨p, hp, rfl⟩ := List.mem_map.mp hx
    obtain ⟨_, s, m, e, hs, hm⟩ := h.good p hp
    rw [e]
    have h1 : s = 0 ∨ s = 1 := by omega
    have h2 : m = 0 ∨ m = 1 ∨ m = 2 ∨ m = 3 := by omega
    rcases h1 with rfl | rfl <;> rcases h2 with rfl | rfl | rfl | rfl <;> decide
  simpa using this
theorem TD.at (h : TD w imm o xs) (ho : s.heap.get? d = some o) (hi : AllAt s.heap imm) : s.heap.DictOfH (tupleKind (knT w)) d xs := by
  obtain ⟨es, ep, e1, e2⟩ := h.data
  exact ⟨o, es, ep, ho, h.ex, e1, e2, fun x hx => let ⟨_, hm, t⟩ := h.keys x hx; t.key (hi _ hm), h.nodup⟩
theorem TD.mono (h : TD w imm o xs) (hs : ∀ p ∈ imm, p ∈ imm') : TD w imm' o xs := ⟨h.ex, h.data, h.nodup, fun x hx => let ⟨ok, hm, t⟩ := h.keys x hx; ⟨ok, hs _ hm, t⟩, h.good⟩
theorem atKey_mem {xs : TT} {k : List Int} {p : Addr × Value} (h : atKey xs k = some p) : (k, p) ∈ xs := by
  unfold atKey at h
  obtain ⟨x, hx, rfl⟩ := Option.map_eq_some_iff.mp h
  have h1 := List.mem_of_find?_eq_some hx
  have h2 : x.1 = k := by simpa using List.find?_some hx
  rw [← h2]; exact h1
theorem my_meth {Q : Value × List Value → Shared → Prop} {pl : Sem Bool} (ho : s.heap.get? d = some o) (hc : o.ExactDict) (h : Q (.builtin "dict.get", [.ref d]) s) :
    wpAny (model PySem.Challenge.rw_nt0425_01.row.prog w) A (getMethod (.ref d) (Str.ofString "get") pl) Q E s :=
  have hT : s.TypeIs (.ref d) "dict" := ⟨o, ho, hc.1⟩
  getMethod_builtin hT PySem.F.plainAttrs_dict PySem.F.slot_dict_get PySem.F.type_dict_get (fun b e => by injection e with e; subst e; exact ⟨o, ho, hc.2.1⟩) h
theorem my_getT {Q : Value → Shared → Prop} {t : Tok} (h : TD w imm o xs) (lo : (d == sysModules) = false) (hu : A.units + 1 < cLine) (ho : s.heap.get? d = some o) (hi : AllAt s.heap imm) (hk : s.heap.get? ka = some ok) (tk : TupKeyObj (knT w) k ok)
    (ret : ∀ t', Q (.int (tlook xs k) t') { s with toks := s.toks + (k.length + 1) }) : wpAny (model PySem.Challenge.rw_nt0425_01.row.prog w) A (call (.builtin "dict.get") [.ref d, .ref ka, .int 0 t]) Q E s := by
  have hd := h.at ho hi
  refine call_meetsIn PySem.F.slot_dict_get hd.typeIs PySem.F.entry_dict_get (PySem.F.args_dict_get_3 _ _ _) (meetsH_dict_get_default (tupleKind (knT w)) d ka lo (.int 0 t)) ⟨tupleKind_room_in1 hu, k, xs, tk.key hk, hd, ?_⟩
  unfold tlook at ret
  cases e : atKey xs k with
  | none => rw [e] at ret; exact ret t
  | some p =>
    obtain ⟨a, v⟩ := p
    obtain ⟨⟨n, t', hv, _⟩, _⟩ := h.good _ (atKey_mem e)
    have hv : v = .int n t' := hv
    subst hv
    rw [e] at ret
    exact ret t'
theorem stored_mem {xs : TT} {k : List Int} {a : Addr} {v : Value} {x : List Int × Addr × Value} (h : x ∈ storedH xs k a v) : x ∈ xs ∨ (x.1 = k ∧ x.2.2 = v ∧ ((∃ y ∈ xs, x.1 = y.1 ∧ x.2.1 = y.2.1) ∨ x.2.1 = a)) := by
  unfold storedH at h
  split at h
  · obtain ⟨y, hy, rfl⟩ := List.mem_map.mp h
    unfold putAt
    by_cases e : y.1 = k
    · rw [if_pos e]; exact .inr ⟨e, rfl, .inl ⟨y, hy, rfl, rfl⟩⟩
    · rw [if_neg e]; exact .inl hy
  · rcases List.mem_append.mp h with h | h
    · exact .inl h
    · simp only [List.mem_singleton] at h
      subst h
      exact .inr ⟨rfl, rfl, .inr rfl⟩
theorem atKey_stored (xs : TT) (k j : List Int) (a : Addr) (v : Value) : (atKey (storedH xs k a v) j).map (·.2) = if j = k then some v else (atKey xs j).map (·.2) := by
  unfold storedH
  split
  · rename_i hc
    unfold atKey at hc ⊢
    induction xs with
    | nil => simp at hc
    | cons x r ih =>
      rw [List.map_cons, List.find?_cons, List.find?_cons]
      have e1 : (putAt k v x).1 = x.1 := by unfold putAt; split <;> rfl
      rw [e1]
      by_cases hx : x.1 = j
      · simp only [hx, decide_true, Option.map_some]
        by_cases hj : j = k
        · rw [if_pos hj]; unfold putAt; rw [if_pos (hx.trans hj)]
        · rw [if_neg hj]; unfold putAt; rw [if_neg (fun q => hj (hx.symm.trans q))]
      · simp only [hx, decide_false]
        by_cases hk : x.1 = k
        · have hj : ¬ j = k := fun q => hx (hk.trans q.symm)
          by_cases hc' : ((r.find? fun x => decide (x.1 = k)).map (·.2)).isSome = true
          · exact ih hc'
          · rw [if_neg hj]
            have : r.map (putAt k v) = r := by
              have hn : ∀ y ∈ r, ¬ y.1 = k := by
                intro y hy q
                apply hc'
                rw [Option.isSome_map]
                exact List.find?_isSome.mpr ⟨y, hy, by simp [q]⟩
              clear ih hc hc'
              induction r with
              | nil => rfl
              | cons y r ih => rw [List.map_cons, ih (fun z hz => hn z (.tail _ hz))]; unfold putAt; rw [if_neg (hn y (.head _))]
            rw [this]
        · refine ih ?_
          simpa [List.find?_cons, hk] using hc
  · rename_i hc
    unfold atKey at hc ⊢
    rw [List.find?_append]
    by_cases hj : j = k
    · subst hj
      rw [if_pos rfl]
      cases q : xs.find? (fun x => decide (x.1 = j)) with
      | none => simp
      | some y => rw [q] at hc; simp at hc
    · have hj' : ¬ k = j := fun q => hj q.symm
      rw [if_neg hj]
      cases q : xs.find? (fun x => decide (x.1 = j)) <;> simp [hj']
theorem tlook_is (xs : TT) (k : List Int) : tlook xs k = ((((atKey xs k).map (·.2)).map valI).getD 0) := by
  unfold tlook
  cases atKey xs k with
  | none => rfl
  | some p => rfl
theorem tlook_stored (xs : TT) (k j : List Int) (a : Addr) (v : Value) : tlook (storedH xs k a v) j = if j = k then valI v else tlook xs j := by
  rw [tlook_is, atKey_stored, tlook_is]
  split <;> rfl
theorem TD.stored {o' : Obj} {es : Array DictEntry} {ep : Nat} {v : Int} {t : Tok} {sd m : Int} (h : TD w imm o xs) (hc : o'.ExactDict) (hd : o'.data = .dict es ep) (he : es.toList = (storedH xs [sd, m] ka (.int v t)).map (entryOfKey (tupleKind (knT w)))) (hn : ((storedH xs [sd, m] ka (.int v t)).map (·.1)).Nodup)
    (hs : ∀ p ∈ imm, p ∈ imm') (hk : (ka, ok) ∈ imm') (tk : TupKeyObj (knT w) [sd, m] ok) (hv : -1000 ≤ v ∧ v ≤ 1000) (h1 : 0 ≤ sd ∧ sd ≤ 1) (h2 : 0 ≤ m ∧ m ≤ 3) : TD w imm' o' (storedH xs [sd, m] ka (.int v t)) := by
  refine ⟨hc, ⟨es, ep, hd, he⟩, hn, fun x hx => ?_, fun x hx => ?_⟩
  · rcases stored_mem hx with q | ⟨e, _, ⟨y, hy, e1, e2⟩ | e3⟩
    · obtain ⟨okx, hm, t⟩ := h.keys x q
      exact ⟨okx, hs _ hm, t⟩
    · obtain ⟨oky, hm, t⟩ := h.keys y hy
      exact ⟨oky, by rw [e2]; exact hs _ hm, by rw [e1]; exact t⟩
    · exact ⟨ok, by rw [e3]; exact hk, by rw [e]; exact tk⟩
  · rcases stored_mem hx with q | ⟨e, e', _⟩
    · exact h.good x q
    · exact ⟨⟨v, t, e', hv⟩, sd, m, e, h1, h2⟩
theorem kept_same' {a : Addr} {h h' : Heap} (hs : Heap.SameBut a h h') : Kept [a] h h' := fun b o e hn => (hs.2 b fun q => hn (q ▸ List.mem_singleton.mpr rfl)).trans e
theorem my_setT {Q : Unit → Shared → Prop} {g : Heap} {L : Addr} {mm : Str → Option Value} {news : List (Addr × Obj)} {v : Int} {t : Tok} {sd m : Int} (h : TD w imm o xs) (F : Fr g L s.heap mm) (N : News g L s.heap news) (hm : (d, o) ∈ news) (hi : AllAt s.heap imm) (hu : A.units + 1 < cLine) (hk : s.heap.get? ka = some ok) (tk : TupKeyObj (knT w) [sd, m] ok)
    (hs : ∀ p ∈ imm, p ∈ imm') (hki : (ka, ok) ∈ imm') (hv : -1000 ≤ v ∧ v ≤ 1000) (h1 : 0 ≤ sd ∧ sd ≤ 1) (h2 : 0 ≤ m ∧ m ≤ 3)
    (ret : ∀ h' o', Fr g L h' mm → Kept [d] s.heap h' → h'.get? d = some o' → TD w imm' o' (storedH xs [sd, m] ka (.int v t)) → Q () { s with heap := h', toks := s.toks + ([sd, m].length + 1) }) :
    wpAny (model PySem.Challenge.rw_nt0425_01.row.prog w) A (setItem (.ref d) (.ref ka) (.int v t)) Q E s := by
  have z := N _ hm
  refine wpAny_setItem_heap (hsz := by have := h.len; rw [sizeLine_eq]; omega) (knd := tupleKind (knT w)) (tupleKind_room_in1 hu) (tk.key hk) (h.at z.1 hi) fun h' hm' hs' => ?_
  obtain ⟨o', es', ep', ho', hc', hd', he', _, hn'⟩ := hm'
  exact ret h' o' (F.change hs' z.2.1 z.2.2) (kept_same' hs') ho' (h.stored hc' hd' he' hn' hs hki tk hv h1 h2)
end
theorem Agr.upd {c : List (Int × Int)} {xs : TT} {sd m : Int} {v : Int} {a : Addr} {t : Tok} (h : Agr c xs) (h1 : 0 ≤ sd ∧ sd ≤ 1) (h2 : 0 ≤ m ∧ m ≤ 4) : Agr (kdfPut c (sd * 65536 + m) v) (storedH xs [sd, m] a (.int v t)) := by
  intro s' m' hs hm
  rw [tlook_stored, kdfLook_put, h s' m' hs hm]
  by_cases e : s' = sd ∧ m' = m
  · obtain ⟨rfl, rfl⟩ := e
    simp [valI]
  · rw [if_neg (fun q => e (by simpa using q)), if_neg (by omega)]
theorem tupKey {w : World} {a b : Int} {t u : Tok} : TupKeyObj (knT w) [a, b] { cls := .type "tuple", data := .seq #[.int a t, .int b u] } :=
  TupKeyObj.made (vs := [.int a t, .int b u]) (ItemsAre.cons (intKind_is _ _ _ _) (ItemsAre.cons (intKind_is _ _ _ _) ItemsAre.nil))

def JQ (g : Heap) (L : Addr) (J : (Str → Option Value) → List (Addr × Obj) → Prop) (s : Shared) (fl : Flow) (s' : Shared) : Prop :=
  fl = .next ∧ ∃ h' tk' m' news', s' = { s with heap := h', toks := tk' } ∧ Fr g L h' m' ∧ News g L h' news' ∧ J m' news'
theorem if_join {prog : Program} {w : World} {A : Around} {E : Value → Shared → Prop} {s : Shared} {env : Env} {st : Stmt} {rest : List Stmt} {Q : Flow → Shared → Prop} {g : Heap} {L : Addr} {m : Str → Option Value} (_F : Fr g L s.heap m) (J : (Str → Option Value) → List (Addr × Obj) → Prop)
    (h1 : wpAny (model prog w) A (exec st env) (fun fl s' => JQ g L J s fl s') E s)
    (h2 : ∀ h' tk' m' news', Fr g L h' m' → News g L h' news' → J m' news' → wpAny (model prog w) A (execs rest env) Q E { s with heap := h', toks := tk' }) : wpAny (model prog w) A (execs (st :: rest) env) Q E s := by
  refine wpAny_execs_cons (wpAny_mono h1 (fun fl s' hp => ?_) fun _ _ e => e)
  obtain ⟨rfl, h', tk', m', news', rfl, F', N', j⟩ := hp
  exact h2 h' tk' m' news' F' N' j
theorem if_back {g h' : Heap} {L : Addr} {m : Str → Option Value} {s : Shared} {J : (Str → Option Value) → List (Addr × Obj) → Prop} {tk' : Nat} {news' : List (Addr × Obj)} (F : Fr g L h' m) (N : News g L h' news') (j : J m news') :
    JQ g L J s .next { s with heap := h', toks := tk' } := ⟨rfl, h', tk', m, news', rfl, F, N, j⟩
theorem if_join0 {prog : Program} {w : World} {A : Around} {E : Value → Shared → Prop} {s : Shared} {env : Env} {st : Stmt} {rest : List Stmt} {Q : Flow → Shared → Prop} {g : Heap} {L : Addr} {m : Str → Option Value} (F : Fr g L s.heap m) (J : List (Addr × Obj) → Prop)
    (h1 : wpAny (model prog w) A (exec st env) (fun fl s' => JQ g L (fun m' n' => m' = m ∧ J n') s fl s') E s)
    (h2 : ∀ h' tk' news', Fr g L h' m → News g L h' news' → J news' → wpAny (model prog w) A (execs rest env) Q E { s with heap := h', toks := tk' }) : wpAny (model prog w) A (execs (st :: rest) env) Q E s :=
  if_join F _ h1 fun h' tk' m' news' F' N' j => h2 h' tk' news' (j.1 ▸ F') N' j.2
theorem if_back0 {g h' : Heap} {L : Addr} {m : Str → Option Value} {s : Shared} {J : List (Addr × Obj) → Prop} {tk' : Nat} {news' : List (Addr × Obj)} (F : Fr g L h' m) (N : News g L h' news') (j : J news') :
    JQ g L (fun m' n' => m' = m ∧ J n') s .next { s with heap := h', toks := tk' } := if_back F N ⟨rfl, j⟩
theorem mem_ins {α : Type} {l r : List α} {x : α} : ∀ p ∈ l ++ r, p ∈ l ++ (x :: r) := fun _ hp => (List.mem_append.mp hp).elim (List.mem_append_left _) fun q => List.mem_append_right _ (.tail _ q)
theorem mem_mid {α : Type} {l r : List α} {x : α} : x ∈ l ++ (x :: r) := List.mem_append_right _ (.head _)
theorem TD.look {w : World} {imm : List (Addr × Obj)} {o : Obj} {xs : TT} {k : List Int} (h : TD w imm o xs) : -1000 ≤ tlook xs k ∧ tlook xs k ≤ 1000 := by
  unfold tlook
  cases e : atKey xs k with
  | none => exact ⟨by decide, by decide⟩
  | some p =>
    obtain ⟨a, v⟩ := p
    obtain ⟨⟨n, t, hv, hn⟩, _⟩ := h.good _ (atKey_mem e)
    have hv : v = .int n t := hv
    subst hv
    exact hn
theorem at_two {g h : Heap} {L : Addr} {m : Str → Option Value} {news imm ks : List (Addr × Obj)} (F : Fr g L h m) (hi : AllAt g imm) (N : News g L h news) (hs : ∀ p ∈ ks, p ∈ news) : AllAt h (imm ++ ks) := fun p hp => by
  rcases List.mem_append.mp hp with hp | hp
  · exact F.keep _ _ (hi p hp)
  · exact (N p (hs p hp)).1
end
section
theorem on_W2 : True := by
  k_with_none
  k_with "om0" => (first | with_reducible assumption | exact cj0 (by with_reducible assumption) | exact cj1 (by with_reducible assumption) | exact cj2 (by with_reducible assumption) | exact cj3 (by with_reducible assumption) | exact cj4 (by with_reducible assumption) | exact cj5 (by with_reducible assumption) | exact cj6 (by with_reducible assumption) | exact cj7 (by with_reducible assumption) | exact cj8 (by with_reducible assumption) | exact cj9 (by with_reducible assumption) | exact cj10 (by with_reducible assumption) | exact cj11 (by with_reducible assumption) | exact cj12 (by with_reducible assumption) | exact ce1 (by with_reducible assumption) | exact ce2 (by with_reducible assumption) | exact ce3 (by with_reducible assumption) | exact ce4 (by with_reducible assumption) | exact ce5 (by with_reducible assumption) | exact ce6 (by with_reducible assumption) | exact ce7 (by with_reducible assumption) | exact ce8 (by with_reducible assumption) | exact ce9 (by with_reducible assumption) | exact ce10 (by with_reducible assumption) | exact ce11 (by with_reducible assumption) | exact ce12 (by with_reducible assumption))
  k_with "om2" => (first | k_extra "om0" | ((with_reducible refine Nat.ne_of_lt ?_); k_extra "om0") | ((with_reducible refine Nat.ne_of_gt ?_); k_extra "om0") | ((with_reducible refine Ne.symm ?_); k_extra "om0") | ((with_reducible refine' Nat.lt_of_le_of_lt (Nat.add_le_add_left ?p9 _) ?q9); (case q9 => with_reducible assumption); (case p9 => decide)) | ((with_reducible refine' Nat.le_trans ?p9 ?q9); (case p9 => k_extra "om0"); (case q9 => decide)) | ((with_reducible refine' Nat.lt_of_le_of_lt ?p9 ?q9); (case p9 => k_extra "om0"); (case q9 => decide)) | ((with_reducible refine' Int.le_trans ?p9 ?q9); (case p9 => k_extra "om0"); (case q9 => decide)) | ((with_reducible refine' Int.le_trans ?p9 ?q9); (case q9 => k_extra "om0"); (case p9 => decide)) | ((with_reducible refine' Int.lt_of_le_of_lt ?p9 ?q9); (case p9 => k_extra "om0"); (case q9 => decide)) | ((with_reducible refine' Int.lt_of_lt_of_le ?p9 ?q9); (case q9 => k_extra "om0"); (case p9 => decide)) | ((with_reducible refine And.intro ?_ ?_) <;> omega) | lia)
  trivial
/-! the small contracts, over the world -/
section
variable {w : World} {a : Ad} {σ : St} {node : Nat} {ply : Int}
theorem AtN.plen (n : AtN a σ node ply) : 1 ≤ σ.path.length ∧ σ.path.length ≤ 8 := by have := n.len; have := n.ply; omega
theorem Rws.le {imm} (r : Rws a imm) {i : Nat} (h : i < a.T.ch.length) : i < 20 := Nat.lt_of_lt_of_le h (Nat.le_trans r.n.2 (by decide))
theorem side_W (h : WB w a σ) (n : AtN a σ node ply) : Con w 332 [.ref a.G] (WL a σ) [] [] 2 8 (fun _ r _ => ∃ t, r = .int (ply % 2) t) := by
  have := (game_side_ok (w := w) (Gd := a.Gd) (G := a.G) (P := a.P) (Ch := a.Ch) (V := a.V) (Ck := a.Ck) (Dr := a.Dr) (No := a.No) (Ga := a.Ga) (hh := a.hh) (kk := a.kk) (n := a.nn 0) (np := σ.np) h.path (by have := n.plen; omega)).frame (wxs sub_ga) (fun _ h => nomatch h)
  rw [n.len, show ply + 1 - 1 = ply by omega] at this
  exact this
theorem value_W (h : WB w a σ) (n : AtN a σ node ply) : Con w 290 [.ref a.G] (WL a σ) [] [] 2 8 (fun _ r _ => ∃ t, r = .int (a.T.va.getD node 0) t) :=
  (game_value_ok h.path (by have := n.plen; omega) n.last h.rws.va (by rw [h.rws.nva]; exact n.lt) (by have := h.rws.n; have := h.rws.nva; omega)).frame (wxs (two sub_ga (sub_ro _ (.tail _ (.head _))))) (fun _ h => nomatch h)
theorem noisy_W (h : WB w a σ) (n : AtN a σ node ply) {mv : Int} {t1 : Tok} (hm : 1 ≤ mv ∧ mv ≤ (a.T.ch.getD node []).length) : Con w 318 [.ref a.G, .int mv t1] (WL a σ) [] [] 2 8 (fun _ r _ => r = .bool ((a.T.no.getD node []).getD (mv - 1).toNat false)) := by
  refine ex3 (h.rws.no node n.lt) fun nb vs k z₉ => an3 z₉ fun e hi hb => ?_; clear z₉
  have q := h.rws.lens node n.lt
  exact (game_is_noisy_ok h.path (by have := n.plen; omega) n.last (h.rws.le n.lt) e (by omega) (hb.get (by omega)) (off_sub (two sub_ga (sub_ro _ (.tail _ (.tail _ (.head _))))) (h.off _ hi))).frame (wxs (two sub_ga (sub_ro _ (.tail _ (.tail _ (.head _)))))) (List.forall_mem_cons.mpr ⟨wim hi, List.forall_mem_nil _⟩)
theorem gain_W (h : WB w a σ) (n : AtN a σ node ply) {mv : Int} {t1 : Tok} (hm : 1 ≤ mv ∧ mv ≤ (a.T.ch.getD node []).length) : Con w 325 [.ref a.G, .int mv t1] (WL a σ) [] [] 2 8 (fun _ r _ => ∃ t, r = .int ((a.T.ga.getD node []).getD (mv - 1).toNat 0) t) := by
  refine ex3 (h.rws.ga node n.lt) fun nb vs k z₉ => an3 z₉ fun e hi hb => ?_; clear z₉
  have q := h.rws.lens node n.lt
  exact (game_gain_ok h.path (by have := n.plen; omega) n.last (h.rws.le n.lt) e (by omega) hb (by omega) (off_sub (two sub_ga (sub_ro _ (.tail _ (.tail _ (.tail _ (.head _)))))) (h.off _ hi))).frame (wxs (two sub_ga (sub_ro _ (.tail _ (.tail _ (.tail _ (.head _))))))) (List.forall_mem_cons.mpr ⟨wim hi, List.forall_mem_nil _⟩)
theorem moves_W (h : WB w a σ) (n : AtN a σ node ply) : Con w 264 [.ref a.G] (WL a σ) [] [] 2 8 (fun H r h' => ∃ b, r = .ref b ∧ H.get? b = none ∧ isL h' b (rangeKs 1 (a.T.ch.getD node []).length)) := by
  refine ex3 (h.rws.ch node n.lt) fun nb vs k z₉ => an3 z₉ fun e hi hb => ?_; clear z₉
  have q := h.rws.lens node n.lt
  exact (game_moves_ok h.path (by have := n.plen; omega) n.last (h.rws.le n.lt) e hb (by omega) (off_sub (two sub_ga (sub_ro _ (.head _))) (h.off _ hi))).frame (wxs (two sub_ga (sub_ro _ (.head _)))) (List.forall_mem_cons.mpr ⟨wim hi, List.forall_mem_nil _⟩)
theorem make_W (h : WB w a σ) (n : AtN a σ node ply) {mv : Int} {t1 : Tok} (hm : 1 ≤ mv ∧ mv ≤ (a.T.ch.getD node []).length) : Con w 276 [.ref a.G, .int mv t1] (WL a σ) [] [a.P] 2 8
    (fun H r h' => r = .none ∧ ∃ pvs np, Step a H σ h' { σ with pvs := pvs, np := np, path := σ.path ++ [(a.T.ch.getD node []).getD (mv - 1).toNat 0] } ∧ IntsAre pvs (σ.path ++ [(a.T.ch.getD node []).getD (mv - 1).toNat 0])) := by
  refine ex3 (h.rws.ch node n.lt) fun nb vs k z₉ => an3 z₉ fun e hi hb => ?_; clear z₉
  have q := h.rws.lens node n.lt
  have o := h.ord.o1
  refine ((game_make_ok h.path (by have := n.plen; omega) n.last (h.rws.le n.lt) e hb (by omega) hm (by omega) (by omega) (by omega) (off_sub (two sub_ga (sub_ro _ (.head _))) (h.off _ hi))).frame (wxs (two sub_ga (sub_ro _ (.head _)))) (List.forall_mem_cons.mpr ⟨wim hi, List.forall_mem_nil _⟩)).post fun H r h' hA K p => ?_
  obtain ⟨rfl, pvs, np, hg, hp⟩ := p
  exact ⟨rfl, pvs, np, step_set [(7, a.P, listOf pvs.toArray np)] h.ord.nd h.off hA K rfl (List.forall_mem_singleton.mpr ⟨by unfold Ad.fix; k_mem, _, .head _, rfl⟩) (List.forall_mem_singleton.mpr ⟨rfl, hg⟩) rfl, hp⟩
theorem undo_W (h : WB w a σ) {path : List Int} {x : Int} (hp : σ.path = path ++ [x]) (hl : 1 ≤ path.length ∧ path.length ≤ 10) : Con w 283 [.ref a.G] (WL a σ) [] [a.P] 2 8
    (fun H r h' => r = .none ∧ ∃ pvs np, Step a H σ h' { σ with pvs := pvs, np := np, path := path } ∧ IntsAre pvs path) := by
  have o := h.ord.o1
  refine ((game_undo_ok (hp ▸ h.path) hl (by omega) (by omega)).frame (wxs sub_ga) (fun _ h => nomatch h)).post fun H r h' hA K p => ?_
  obtain ⟨rfl, pvs, np, hg, hp⟩ := p
  exact ⟨rfl, pvs, np, step_set [(7, a.P, listOf pvs.toArray np)] h.ord.nd h.off hA K rfl (List.forall_mem_singleton.mpr ⟨by unfold Ad.fix; k_mem, _, .head _, rfl⟩) (List.forall_mem_singleton.mpr ⟨rfl, hg⟩) rfl, hp⟩
theorem kpair_W (h : WB w a σ) {t1 : Tok} (hp : 0 ≤ ply ∧ ply ≤ 10) : Con w 226 [.ref a.Kx, .int ply t1] (WL a σ) [] [] 3 12
     (fun H r h' => ∃ b t t', r = .ref b ∧ H.get? b = none ∧ h'.get? b = some { cls := .type "tuple", data := .seq #[.int (σ.f1.getD ply.toNat 0) t, .int (σ.f2.getD ply.toNat 0) t'] }) :=
  (killer_pair_ok hp h.k1 h.k2 h.e1 h.e2).frame (wxs sub_ki) (fun _ h => nomatch h)
theorem pair_W (h : WB w a σ) {t1 : Tok} (hp : 0 ≤ ply ∧ ply ≤ 10) : Con w 149 [.ref a.Kx, .int ply t1] (WL a σ) [] [] 2 8
     (fun H r h' => ∃ b t t', r = .ref b ∧ H.get? b = none ∧ h'.get? b = some { cls := .type "tuple", data := .seq #[.int (σ.f1.getD ply.toNat 0) t, .int (σ.f2.getD ply.toNat 0) t'] }) :=
  (killers_pair_ok hp h.k1 h.k2 h.e1 h.e2).frame (wxs sub_ki) (fun _ h => nomatch h)
theorem past_W (h : WB w a σ) {side mv : Int} {t1 t2 : Tok} (hs : 0 ≤ side ∧ side ≤ 1) (hm : 0 ≤ mv ∧ mv ≤ 10) : Con w 233 [.ref a.Hx, .int side t1, .int mv t2] (WL a σ) [] [] 3 12 (fun _ r _ => ∃ t, r = .int (kdfLook σ.sc (side * 65536 + mv) 0) t) :=
  (past_score_ok (l := a.l) (t4 := a.kk 21) (k1 := a.kk 11) (k2 := a.kk 12) (Hd := a.Hd) (hh1 := a.hh 11) (hh2 := a.hh 12) (n := a.nn 6) hs hm h.hi h.ord.lS).frame (wxs sub_hi) (fun _ h => nomatch h)
theorem hget_W (h : WB w a σ) {side mv : Int} {t1 t2 : Tok} (hs : 0 ≤ side ∧ side ≤ 1) (hm : 0 ≤ mv ∧ mv ≤ 10) : Con w 93 [.ref a.Hx, .int side t1, .int mv t2] (WL a σ) [] [] 2 8 (fun _ r _ => ∃ t, r = .int (kdfLook σ.sc (side * 65536 + mv) 0) t) :=
  (history_get_ok (l := a.l) (t4 := a.kk 21) (k1 := a.kk 11) (k2 := a.kk 12) (Hd := a.Hd) (hh1 := a.hh 11) (hh2 := a.hh 12) (n := a.nn 6) hs hm h.hi h.ord.lS).frame (wxs sub_hi) (fun _ h => nomatch h)
theorem cget_W (h : WB w a σ) {side mv : Int} {t1 t2 : Tok} (hs : 0 ≤ side ∧ side ≤ 1) (hm : 0 ≤ mv ∧ mv ≤ 10) : Con w 184 [.ref a.Cx, .int side t1, .int mv t2] (WL a σ) [] [] 2 8 (fun _ r _ => ∃ t, r = .int (kdfLook σ.rc (side * 65536 + mv) 0) t) :=
  (counters_get_ok (k1 := a.kk 13) (Cd := a.Cd) (hh1 := a.hh 13) (n := a.nn 7) hs hm h.cn h.ord.lR).frame (wxs sub_cn) (fun _ h => nomatch h)
theorem clear_W (h : WB w a σ) {t1 : Tok} (hp : 0 ≤ ply ∧ ply ≤ 20) : Con w 156 [.ref a.Kx, .int ply t1] (WL a σ) [] [a.F1, a.F2] 2 8
    (fun H r h' => r = .none ∧ ∃ vs1 n1 vs2 n2, Step a H σ h' { σ with vs1 := vs1, n1 := n1, f1 := clrK σ.f1 ply, vs2 := vs2, n2 := n2, f2 := clrK σ.f2 ply } ∧ IntsAre vs1 (clrK σ.f1 ply) ∧ IntsAre vs2 (clrK σ.f2 ply)) := by
  have o := h.ord.o1
  refine ((killers_clear_ok hp h.k1 h.k2 h.e1 h.e2 (by omega) (by omega) (by omega)).frame (wxs sub_ki) (fun _ h => nomatch h)).post fun H r h' hA K p => ?_
  obtain ⟨rfl, ⟨vs1, n1, hg1, i1⟩, vs2, n2, hg2, i2⟩ := p
  exact ⟨rfl, vs1, n1, vs2, n2, step_set [(12, a.F1, listOf vs1.toArray n1), (13, a.F2, listOf vs2.toArray n2)] h.ord.nd h.off hA K rfl
    (List.forall_mem_cons.mpr ⟨⟨by unfold Ad.fix; k_mem, _, .head _, rfl⟩, List.forall_mem_singleton.mpr ⟨by unfold Ad.fix; k_mem, _, .tail _ (.head _), rfl⟩⟩) (List.forall_mem_cons.mpr ⟨⟨rfl, hg1⟩, List.forall_mem_singleton.mpr ⟨rfl, hg2⟩⟩) rfl, i1, i2⟩
theorem rcount_W (h : WB w a σ) {side earlier mv : Int} {t1 t2 t3 : Tok} (hs : 0 ≤ side ∧ side ≤ 1) (hm : 0 ≤ earlier ∧ earlier ≤ 10) : Con w 212 [.ref a.Cx, .int side t1, .int earlier t2, .int mv t3] (WL a σ) [] [a.R] 4 16
    (fun H r h' => r = .none ∧ ∃ ro rkv, Step a H σ h' { σ with ro := ro, rkv := rkv, rc := if earlier ≠ 0 then kdfPut σ.rc (side * 65536 + earlier) mv else σ.rc } ∧ intD w ro rkv (if earlier ≠ 0 then kdfPut σ.rc (side * 65536 + earlier) mv else σ.rc)) := by
  have o := h.ord.o2
  refine ((reward_counter_ok (k1 := a.kk 13) (Cd := a.Cd) (hh1 := a.hh 13) (n := a.nn 7) hs hm h.cn (by have := h.wrc.len; omega) h.ord.lR (by omega) (by omega)).frame (wxs sub_cn) (fun _ h => nomatch h)).post fun H r h' hA K p => ?_
  obtain ⟨rfl, ro, rkv, hg, hp⟩ := p
  exact ⟨rfl, ro, rkv, step_set [(16, a.R, ro)] h.ord.nd h.off hA K rfl (List.forall_mem_singleton.mpr ⟨by unfold Ad.fix; k_mem, _, .head _, rfl⟩) (List.forall_mem_singleton.mpr ⟨rfl, hg⟩) rfl, hp⟩
theorem reward_W (h : WB w a σ) {side depth best : Int} {t1 t2 t3 t4 : Tok} {Tr tn : Nat} {tvs : List Value} {tried : List Int} (hs : 0 ≤ side ∧ side ≤ 1) (hm : 0 ≤ best ∧ best ≤ 3) (hdp : 0 ≤ depth ∧ depth ≤ 3) (hp : 0 ≤ ply ∧ ply ≤ 10)
    (ht : IntsAre tvs tried) (htr : ∀ m ∈ tried, 0 ≤ m ∧ m ≤ 3) (hT : a.F2 < Tr ∧ a.S < Tr) (hS : a.S ≠ a.Hd ∧ a.S ≠ a.Hx ∧ a.S ≠ a.Kd ∧ a.S ≠ a.Kx ∧ a.S ≠ a.F1 ∧ a.S ≠ a.F2) :
    Con w 205 [.ref a.Hx, .ref a.Kx, .int side t1, .int ply t2, .int depth t3, .int best t4, .ref Tr] ((Tr, listOf tvs.toArray tn) :: WL a σ) [] [a.S, a.F1, a.F2] 5 20
     (fun H r h' => r = .none ∧ ∃ vs1 n1 vs2 n2 so skv, Step a H σ h' { σ with vs1 := vs1, n1 := n1, f1 := (addK σ.f1 σ.f2 ply best).1, vs2 := vs2, n2 := n2, f2 := (addK σ.f1 σ.f2 ply best).2, so := so, skv := skv, sc := rewC a.l σ.sc side depth best tried } ∧
        IntsAre vs1 (addK σ.f1 σ.f2 ply best).1 ∧ IntsAre vs2 (addK σ.f1 σ.f2 ply best).2 ∧ intD w so skv (rewC a.l σ.sc side depth best tried)) := by
  have o := h.ord.o1
  have q := h.ord.lim
  refine ((reward_ok (t1 := t1) (t2 := t2) (t3 := t3) (t4 := t4) (ta1 := a.kk 21) (ta2 := a.kk 20) (ta3 := a.kk 20) (ta4 := a.kk 20) (k1 := a.kk 11) (k2 := a.kk 12) (j1 := a.kk 8) (j2 := a.kk 9) (j3 := a.kk 10) (Hd := a.Hd) (Kd := a.Kd) (hh1 := a.hh 11) (hh2 := a.hh 12) (hh3 := a.hh 8) (hh4 := a.hh 9) (hh5 := a.hh 10) (n := a.nn 6) (n3 := a.nn 5) (n1 := σ.n1) (n2 := σ.n2) (tn := tn) (ply := ply) (depth := depth) (best := best) (side := side)
    (by omega) hs hm hdp hp h.hi h.wsc h.ord.lS h.k1 h.k2 h.e1 h.e2 ht htr (by omega) (by omega) (by omega) (by omega) (by omega) (by omega) (by omega)).frame (W := (Tr, listOf tvs.toArray tn) :: WL a σ) ?_ (fun _ h => nomatch h)).post fun H r h' hA K p => ?_
  · intro p hp
    rcases List.mem_append.mp hp with hp | hp
    · exact .tail _ (wx (sub_hi p hp))
    · rcases List.mem_append.mp hp with hp | hp
      · exact .tail _ (wx (sub_ki p hp))
      · exact List.mem_singleton.mp hp ▸ .head _
  obtain ⟨rfl, ⟨vs1, n1, hg1, i1⟩, ⟨vs2, n2, hg2, i2⟩, so, skv, hgS, hS⟩ := p
  exact ⟨rfl, vs1, n1, vs2, n2, so, skv, step_set [(12, a.F1, listOf vs1.toArray n1), (13, a.F2, listOf vs2.toArray n2), (22, a.S, so)] h.ord.nd h.off (fun p hp => hA p (.tail _ hp)) K rfl
    (List.forall_mem_cons.mpr ⟨⟨by unfold Ad.fix; k_mem, _, .tail _ (.tail _ (.head _)), rfl⟩, List.forall_mem_cons.mpr ⟨⟨by unfold Ad.fix; k_mem, _, .head _, rfl⟩, List.forall_mem_singleton.mpr ⟨by unfold Ad.fix; k_mem, _, .tail _ (.head _), rfl⟩⟩⟩)
    (List.forall_mem_cons.mpr ⟨⟨rfl, hg1⟩, List.forall_mem_cons.mpr ⟨⟨rfl, hg2⟩, List.forall_mem_singleton.mpr ⟨rfl, hgS⟩⟩⟩) rfl, i1, i2, hS⟩
end
end
section
theorem on_O2 : True := by
  k_with_none
  k_with "om2" => (lia)
  trivial
/-! order_moves -/
def placeP (xs : List (Int × Int)) (sc : Int) : Nat → Nat
  | 0 => 0
  | k + 1 => if (xs.getD k (0, 0)).1 < sc then placeP xs sc k else k + 1
def insP (xs : List (Int × Int)) (p : Int × Int) : List (Int × Int) := xs.take (placeP xs p.1 xs.length) ++ p :: xs.drop (placeP xs p.1 xs.length)
theorem placeK_P (ts : List TE) (sc : Int) : ∀ k, placeK ts sc k = placeP (ts.map (·.2.1)) sc k
  | 0 => rfl
  | k + 1 => by
    show (if (ts.getD k te0).2.1.1 < sc then placeK ts sc k else k + 1) = (if ((ts.map (·.2.1)).getD k (0, 0)).1 < sc then placeP (ts.map (·.2.1)) sc k else k + 1)
    have e : (ts.map (·.2.1)).getD k (0, 0) = (ts.getD k te0).2.1 := by
      rw [List.getD_eq_getElem?_getD, List.getD_eq_getElem?_getD, List.getElem?_map]
      cases ts[k]? <;> rfl
    rw [e, placeK_P ts sc k]
theorem insT_P (ts : List TE) (e : TE) : (insT ts e).map (·.2.1) = insP (ts.map (·.2.1)) e.2.1 := by
  unfold insT insP
  rw [placeK_P]
  simp
theorem insT_len (ts : List TE) (e : TE) : (insT ts e).length = ts.length + 1 := by
  unfold insT
  have := placeK_le ts e.2.1.1 ts.length
  simp
  omega
theorem insT_mem {ts : List TE} {e x : TE} (h : x ∈ insT ts e) : x = e ∨ x ∈ ts := by
  unfold insT at h
  rcases List.mem_append.mp h with h | h
  · exact .inr (List.mem_of_mem_take h)
  · rcases List.mem_cons.mp h with h | h
    · exact .inl h
    · exact .inr (List.mem_of_mem_drop h)
structure AS where
  good : List (Int × Int)
  quiet : List (Int × Int)
  losing : List (Int × Int)
  k0 : Int
  k1 : Int
def stepM (noisy : List Bool) (gains : List Int) (p0 p1 : Int) (sc : Int → Int) (a : AS) (mv : Int) : AS :=
  if noisy.getD (mv - 1).toNat false = true then
    (if gains.getD (mv - 1).toNat 0 ≥ 0 then { a with good := insP a.good (gains.getD (mv - 1).toNat 0, mv) } else { a with losing := insP a.losing (gains.getD (mv - 1).toNat 0, mv) })
  else if mv = p0 then { a with k0 := mv } else if mv = p1 then { a with k1 := mv } else { a with quiet := insP a.quiet (sc mv, mv) }
def orderM (noisy : List Bool) (gains : List Int) (p0 p1 : Int) (sc : Int → Int) (moves : List Int) : List Int :=
  let a := moves.foldl (stepM noisy gains p0 p1 sc) ⟨[], [], [], 0, 0⟩
  a.good.map (·.2) ++ [a.k0, a.k1].filter (fun m => decide (m ≠ 0)) ++ a.quiet.map (·.2) ++ a.losing.map (·.2)

theorem kept_same {a : Addr} {h h' : Heap} (hs : Heap.SameBut a h h') : Kept [a] h h' := fun b o e hn => (hs.2 b fun q => hn (q ▸ List.mem_singleton.mpr rfl)).trans e
theorem my_store {prog : Program} {w : World} {A : Around} {E : Value → Shared → Prop} {s : Shared} {h₀ : Heap} {L D : Addr} {m : Str → Option Value} {news : List (Addr × Obj)} {n : Nat} {vs : List Value} {k : Int} {t : Tok} {v : Value} {Q : Unit → Shared → Prop} (F : Fr h₀ L s.heap m) (N : News h₀ L s.heap news) (hm : (D, listOf vs.toArray n) ∈ news) (h0 : 0 ≤ k) (hfit : k < 2 ^ 63) (h1 : k < vs.length)
    (h : ∀ h', Fr h₀ L h' m → Kept [D] s.heap h' → h'.get? D = some (listOf (vs.set k.toNat v).toArray n) → Q () { s with heap := h' }) : wpAny (model prog w) A (setItem (.ref D) (.int k t) v) Q E s := by
  have z := N _ hm
  have hs : Heap.SameBut D s.heap (s.heap.update D (Obj.mapSeq (·.setIfInBounds k.toNat v))) := Heap.SameBut.update ..
  refine ki_setAt z.1 h0 hfit (by simpa using h1) (h _ (F.change hs z.2.1 z.2.2) (kept_same hs) ?_)
  have q := PySem.IsL.update (N _ hm).1 (·.setIfInBounds k.toNat v)
  rw [if_pos (by simp)] at q
  rw [q]
  have e : vs.toArray.setIfInBounds k.toNat v = (vs.set k.toNat v).toArray := by
    apply Array.toList_inj.mp
    simp
  rw [e]
theorem name_ref {h₀ h : Heap} {L a : Addr} {m : Str → Option Value} (_F : Fr h₀ L h m) (y : Str) (_e : m y = some (.ref a)) : ∃ b : Nat, b = a := ⟨a, rfl⟩
theorem news_T {h₀ h h' : Heap} {L : Addr} {m : Str → Option Value} {news : List (Addr × Obj)} {wr : List Addr} {T T' : List TE} {e : TE} (N : News h₀ L h news) (F : Fr h₀ L h m) (hT : ∀ p ∈ T.map teE, p ∈ news) (K : Kept wr h h') (hoff : ∀ x ∈ T, x.1 ∉ wr) (hn : h.get? e.1 = none) (he : h'.get? e.1 = some (tupObj e))
    (hsub : ∀ x ∈ T', x = e ∨ x ∈ T) : News h₀ L h' (T'.map teE) := fun p hp => by
  obtain ⟨x, hx, rfl⟩ := List.mem_map.mp hp
  rcases hsub x hx with rfl | hx
  · exact news_made F hn he News.nil _ (.head _)
  · have q := N _ (hT _ (List.mem_map_of_mem hx))
    exact ⟨K _ _ q.1 (hoff x hx), q.2⟩
theorem not_sub {small big : List (Addr × Obj)} {a : Addr} (h : a ∉ big.map (·.1)) (hs : ∀ p ∈ small, p ∈ big) : a ∉ small.map (·.1) := fun q => by
  obtain ⟨p, hp, e⟩ := List.mem_map.mp q
  exact h (List.mem_map.mpr ⟨p, hs p hp, e⟩)
theorem news_app {h₀ h : Heap} {L : Addr} {a b : List (Addr × Obj)} (x : News h₀ L h a) (y : News h₀ L h b) : News h₀ L h (a ++ b) := fun p hp => (List.mem_append.mp hp).elim (x p) (y p)
theorem noIt_T {T : List TE} : NoIt (T.map teE) := fun p hp => by
  obtain ⟨x, _, rfl⟩ := List.mem_map.mp hp
  rfl
structure Bx (P : Prop) : Prop where
  out : P
theorem tl_of {h₀ h : Heap} {L : Addr} {news : List (Addr × Obj)} {ts all : List TE} (N : News h₀ L h news) (hT : ∀ p ∈ all.map teE, p ∈ news) (hs : ∀ x ∈ ts, x ∈ all) : ∀ p ∈ ts.map teE, h.get? p.1 = some p.2 := fun p hp => by
  obtain ⟨x, hx, rfl⟩ := List.mem_map.mp hp
  exact (N _ (hT _ (List.mem_map_of_mem (hs x hx)))).1
theorem e9_off {h₀ h : Heap} {L a : Addr} {b1 b2 b3 b4 : Nat} {o1 o2 o3 o4 : Obj} {news : List (Addr × Obj)} (hn : h.get? a = none) (N : News h₀ L h news) (h1 : (b1, o1) ∈ news) (h2 : (b2, o2) ∈ news) (h3 : (b3, o3) ∈ news) (h4 : (b4, o4) ∈ news) : a ≠ b1 ∧ a ≠ b2 ∧ a ≠ b3 ∧ a ≠ b4 := by
  have f : ∀ (b : Addr) (o : Obj), (b, o) ∈ news → a ≠ b := fun b o hm e => by
    have := (N _ hm).1
    rw [← e, hn] at this; cases this
  exact ⟨f _ _ h1, f _ _ h2, f _ _ h3, f _ _ h4⟩
theorem fold_end {α β : Type} {F : α → β → α} {z c c' : α} {ks : List β} {i : Nat} {k : β} (hk : ks[i]? = some k) (h : c = (ks.take i).foldl F z) (hs : F c k = c') : c' = (ks.take (i + 1)).foldl F z := by
  rw [List.take_add_one, hk, ← hs, h]; simp
theorem mid_eq {a b : Int} : [a, b].foldl (fun l k => if k = 0 then l else l ++ [k]) [] = [a, b].filter (fun m => decide (m ≠ 0)) := by
  by_cases ha : a = 0 <;> by_cases hb : b = 0 <;> simp [ha, hb]
theorem my_cat {prog : Program} {w : World} {A : Around} {E : Value → Shared → Prop} {s : Shared} {h₀ : Heap} {L a b : Addr} {m : Str → Option Value} {news : List (Addr × Obj)} {vs ws : List Value} {Q : Value → Shared → Prop} (F : Fr h₀ L s.heap m) (N : News h₀ L s.heap news) (ha : s.heap.IsList a vs.toArray) (hb : s.heap.IsList b ws.toArray) (hz : vs.length + ws.length ≤ 100)
    (h : ∀ D h', Fr h₀ L h' m → News h₀ L h' ((D, listOf (vs ++ ws).toArray 0) :: news) → D ∉ news.map (·.1) → Q (.ref D) { s with heap := h' }) : wpAny (model prog w) A (binaryOp .Add (.ref a) (.ref b)) Q E s := by
  refine kmk_add_lit F N ha hb (zs := vs ++ ws) rfl (fun D h' F' N' hl => h D h' F' N' fun q => ?_) (by rw [sizeLine_eq]; simp; omega)
  obtain ⟨p, hp, e⟩ := List.mem_map.mp q
  exact absurd (hl p hp) (e ▸ Nat.lt_irrefl _)
structure OS where
  good : List TE
  quiet : List TE
  losing : List TE
  ng : Nat
  nq : Nat
  nl : Nat
  nk : Nat
  k0 : Int
  k1 : Int
  t0 : Tok
  t1 : Tok
def OS.all (c : OS) : List TE := c.good ++ (c.quiet ++ c.losing)
def OS.abs (c : OS) : AS := ⟨c.good.map (·.2.1), c.quiet.map (·.2.1), c.losing.map (·.2.1), c.k0, c.k1⟩
theorem all_quiet {cc : OS} {e : TE} {n : Nat} : ∀ x ∈ OS.all { cc with quiet := insT cc.quiet e, nq := n }, x = e ∨ x ∈ cc.all := by
  intro x hx
  simp only [OS.all, List.mem_append] at hx ⊢
  rcases hx with h | h | h
  · simp [h]
  · rcases insT_mem h with q | q <;> simp [q]
  · simp [h]
theorem all_losing {cc : OS} {e : TE} {n : Nat} : ∀ x ∈ OS.all { cc with losing := insT cc.losing e, nl := n }, x = e ∨ x ∈ cc.all := by
  intro x hx
  simp only [OS.all, List.mem_append] at hx ⊢
  rcases hx with h | h | h
  · simp [h]
  · simp [h]
  · rcases insT_mem h with q | q <;> simp [q]
theorem all_good {cc : OS} {e : TE} {n : Nat} : ∀ x ∈ OS.all { cc with good := insT cc.good e, ng := n }, x = e ∨ x ∈ cc.all := by
  intro x hx
  simp only [OS.all, List.mem_append] at hx ⊢
  rcases hx with h | h | h
  · rcases insT_mem h with q | q <;> simp [q]
  · simp [h]
  · simp [h]
abbrev ordL (Lo Qu Ki Go Fi : Nat) (c : OS) (r : List (Addr × Obj)) : List (Addr × Obj) :=
  (Lo, listOf (c.losing.map teR).toArray c.nl) :: (Qu, listOf (c.quiet.map teR).toArray c.nq) :: (Ki, listOf [Value.int c.k0 c.t0, .int c.k1 c.t1].toArray c.nk) :: (Go, listOf (c.good.map teR).toArray c.ng) :: (Fi, listOf #[] 0) :: r

theorem ord_fin {cc : OS} {noisy : List Bool} {gains : List Int} {p0 p1 : Int} {sc : Int → Int} {ms : List Int} {n : Nat} {v1 vM v2 v3 : List Value} (hP : cc.abs = (ms.take n).foldl (stepM noisy gains p0 p1 sc) ⟨[], [], [], 0, 0⟩) (hn : ms.length ≤ n) (h1 : IntsAre v1 (cc.good.map (·.2.1.2))) (hM : IntsAre vM ([cc.k0, cc.k1].filter (fun m => decide (m ≠ 0)))) (h2 : IntsAre v2 (cc.quiet.map (·.2.1.2))) (h3 : IntsAre v3 (cc.losing.map (·.2.1.2))) :
    IntsAre (([] ++ v1) ++ vM ++ v2 ++ v3) (orderM noisy gains p0 p1 sc ms) := by
  rw [List.take_of_length_le hn] at hP
  unfold orderM
  rw [← hP]
  have e : ∀ ts : List TE, (ts.map (·.2.1)).map (·.2) = ts.map (·.2.1.2) := fun ts => by rw [List.map_map]; rfl
  show IntsAre _ ((cc.good.map (·.2.1)).map (·.2) ++ [cc.k0, cc.k1].filter (fun m => decide (m ≠ 0)) ++ (cc.quiet.map (·.2.1)).map (·.2) ++ (cc.losing.map (·.2.1)).map (·.2))
  rw [e, e, e]
  exact IntsAre.append (IntsAre.append (IntsAre.append h1 hM) h2) h3
theorem of_allLt {d : Addr} : ∀ {l : List (Addr × Obj)}, AllLt d l → ∀ p ∈ l, p.1 < d
  | [], _ => fun _ h => nomatch h
  | _ :: _, h => fun p hp => (List.mem_cons.mp hp).elim (fun e => e ▸ h.1) fun q => of_allLt h.2 p q
theorem order_moves_W {w : World} {a : Ad} {σ : St} {node : Nat} {ply : Int} (h : WB w a σ) (n : AtN a σ node ply) {Mv mn : Nat} {mvs : List Value} {tb1 tb2 : Tok} (hmv : IntsAre mvs (rangeKs 1 (a.T.ch.getD node []).length)) :
    Con w 243 [.ref a.G, .ref Mv, .int 0 tb1, .ref a.Kx, .ref a.Hx, .int ply tb2] ((Mv, listOf mvs.toArray mn) :: WL a σ) [] [] 6 24
      (fun H r h' => ∃ b, r = .ref b ∧ H.get? b = none ∧ isL h' b (orderM (a.T.no.getD node []) (a.T.ga.getD node []) (σ.f1.getD ply.toNat 0) (σ.f2.getD ply.toNat 0) (fun m => kdfLook σ.sc (ply % 2 * 65536 + m) 0) (rangeKs 1 (a.T.ch.getD node []).length))) := by
  have hcnt := (h.rws.lens node n.lt).2.2
  have hply := n.ply
  generalize hcd : (a.T.ch.getD node []).length = count at hmv hcnt ⊢
  have hB : Bx (WB w a σ) := ⟨h⟩
  have hNB : Bx (AtN a σ node ply) := ⟨n⟩
  have hnit := noIt_WL h
  clear h n
  refine' con_enter [("game", .ref a.G), ("moves", .ref Mv), ("table_move", .int 0 tb1), ("killers", .ref a.Kx), ("history", .ref a.Hx), ("ply", .int ply tb2)] ?ho ?hcd ?hb ?hl ?hdis ?_ ?c1 ?c2 ?c3 ?c4; (case ho => k_is); (case hcd => k_is); (case hb => exact rfl); (case hl => exact locs rfl); (try (case hdis => exact List.forall_mem_nil _)); (case c1 => exact rfl); (case c2 => exact rfl); (case c3 => exact rfl); (case c4 => decide); k_whole; intro dp un gd outer A₀ base g L h₁ H s mean mg mb B X T F N Tl Z hD hU; (try dsimp only); refine (let m9 : Str → Option Value := _; (fun (F : Fr _ _ _ m9) => ?_) F)
  k_fold
  k_with_none
  k_with "storeName" => (k_dflt (k_here; refine' store2 ?F ?N ?_ ?a ?b; (case F => k_asm); (case N => k_asm); (case a => rfl); (case b => rfl); k_whole; intro h' tk' F' N'; refine (let m9 : Str → Option Value := _; (fun (F' : Fr _ _ _ m9) => ?_) F'); (try k_sweep)))
  k_with "eval Constant int" => (k_dflt (first | with_reducible refine const_int3 ?_ | refine const_int3 ?_))
  k_with "binaryOp Add int int" => (k_dflt (first | with_reducible refine add_int3 ?_ | refine add_int3 ?_))
  k_with "binaryOp Sub int int" => (k_dflt (first | with_reducible refine sub_int3 ?_ | refine sub_int3 ?_))
  k_with "unaryOp USub int" => (k_dflt (first | with_reducible refine neg_int3 ?_ | refine neg_int3 ?_))
  k_with "om2" => (lia)
  have hWL : ∀ p ∈ WL a σ, p.1 < L := fun p hp => Z.lt p (.tail _ hp)
  have hMvL : Mv < L := Z.lt (Mv, listOf mvs.toArray mn) (.head _)
  k_with "newList" => (k_dflt ((refine' newList_K ?k1 ?k2 ?_; (case k1 => k_asm); (case k2 => k_asm); k_whole; (first | ((fail_if_success (have t9 := Fi)); intro Fi h' F' N' l1) | ((fail_if_success (have t9 := Go)); intro Go h' F' N' l1) | ((fail_if_success (have t9 := Ki)); intro Ki h' F' N' l1) | ((fail_if_success (have t9 := Qu)); intro Qu h' F' N' l1) | ((fail_if_success (have t9 := Lo)); intro Lo h' F' N' l1) | intro l' h' F' N' l1); (try k_lt l1); (try k_sweep))))
  k_with "call ref" => (k_dflt ((rename News _ _ _ _ => N9); (rename Fr _ _ _ _ => F9); (try k_fold); refine' con_use0 (kpair_W hB.out (by omega)) ?k1 ?k2 ?k3 ?k4 ?k5 ?kK ?ks ?kt ?kd ?ku ?_; (case k1 => k_asm); (case k2 => k_asm); (case k3 => k_asm); (case k4 => k_asm); (case k5 => k_asm); (case kK => exact rfl); (case ks => (intro p9 hp9; repeat (first | exact hp9 | exact List.mem_append_left _ hp9 | exact List.mem_append_right _ hp9 | refine List.mem_append_left _ ?_ | refine List.Mem.tail _ ?_))); (case kt => exact List.forall_mem_nil _); (case kd => omega); (case ku => omega); k_whole; intro r9 h' tk' F' N' p9; obtain ⟨pr, ta9, tb9, rfl, hn9, hg9⟩ := p9; have N' : News g L h' ((pr, { cls := .type "tuple", data := .seq #[.int (σ.f1.getD ply.toNat 0) ta9, .int (σ.f2.getD ply.toNat 0) tb9] }) :: ((Mv, listOf mvs.toArray mn) :: WL a σ)) := news_made F9 hn9 hg9 N'; (try dsimp only); (try k_sweep)))
  k_with "call ref" => (k_dflt ((rename News _ _ _ _ => N9); (rename Fr _ _ _ _ => F9); (try k_fold); refine' con_use0 (side_W hB.out hNB.out) ?k1 ?k2 ?k3 ?k4 ?k5 ?kK ?ks ?kt ?kd ?ku ?_; (case k1 => k_asm); (case k2 => k_asm); (case k3 => k_asm); (case k4 => k_asm); (case k5 => k_asm); (case kK => exact rfl); (case ks => (intro p9 hp9; repeat (first | exact hp9 | exact List.mem_append_left _ hp9 | exact List.mem_append_right _ hp9 | refine List.mem_append_left _ ?_ | refine List.Mem.tail _ ?_))); (case kt => exact List.forall_mem_nil _); (case kd => omega); (case ku => omega); k_whole; intro r9 h' tk' F' N' p9; obtain ⟨tsd, rfl⟩ := p9; (try dsimp only); (try k_sweep)))
  have hat : ∀ {i : Nat} {v : Value}, mvs[i]? = some v → ∃ n t, (rangeKs 1 count)[i]? = some n ∧ v = .int n t := fun h => ints_at hmv h
  have hrk : ∀ (i : Nat) (mv : Int), (rangeKs 1 count)[i]? = some mv → mv = 1 + i ∧ i < count := fun i mv e => by
    have h1 := (List.getElem?_eq_some_iff.mp e).1
    rw [rangeKs_length] at h1
    refine ⟨?_, h1⟩
    simp [rangeKs, List.getElem?_map, List.getElem?_range h1] at e
    omega
  have hmvl : mvs.length = count := by rw [hmv.length, rangeKs_length]
  k_with "call ref" => (k_dflt ((rename News _ _ _ _ => N9); (rename Fr _ _ _ _ => F9); (try k_fold); refine' con_use0 (past_W hB.out ?x1 ?x2) ?k1 ?k2 ?k3 ?k4 ?k5 ?kK ?ks ?kt ?kd ?ku ?_; (case k1 => k_asm); (case k2 => k_asm); (case k3 => k_asm); (case k4 => k_asm); (case k5 => k_asm); (case kK => exact rfl); (case ks => (intro p9 hp9; repeat (first | exact hp9 | exact List.mem_append_left _ hp9 | exact List.mem_append_right _ hp9 | refine List.mem_append_left _ ?_ | refine List.Mem.tail _ ?_))); (case kt => exact List.forall_mem_nil _); (case kd => omega); (case ku => omega); (case x1 => omega); (case x2 => omega); k_whole; intro r9 h' tk' F' N' p9; obtain ⟨t9, rfl⟩ := p9; (try dsimp only); (try k_sweep)))
  k_with "call ref" => (k_dflt ((rename News _ _ _ _ => N9); (rename Fr _ _ _ _ => F9); (try k_fold); refine' con_use (insert_scored_ok (ts := cc.quiet) ?x1 ?x2) ?k1 ?k2 ?k3 ?k4 ?k5 ?kK ?ks ?kt ?kd ?ku ?_; (case k1 => k_asm); (case k2 => k_asm); (case k3 => k_asm); (case k4 => k_asm); (case k5 => k_asm); (case kK => exact rfl); (case ks => (first | (refine sub_of ?_; (repeat (first | refine List.Sublist.cons_cons _ ?_ | ((fail_if_success exact List.nil_sublist _); refine List.Sublist.cons _ ?_))); exact List.nil_sublist _) | ((repeat (refine all_cons (by k_mem) ?_)); exact List.forall_mem_nil _))); (case kt => exact tl_of N9 (by (intro p9 hp9; repeat (first | exact hp9 | exact List.mem_append_left _ hp9 | exact List.mem_append_right _ hp9 | refine List.mem_append_left _ ?_ | refine List.Mem.tail _ ?_))) (fun x hx => by simp [OS.all, hx])); (case kd => omega); (case ku => omega); (case x1 => omega); (case x2 => (intro e he; have := hP2 e (by simp [OS.all, he]); omega)); k_whole; intro r9 h' tk' F' K9 p9; obtain ⟨rfl, e9, he1, hen, heg, n9', hg9⟩ := p9; have hE9 := e9_off (b1 := Go) (b2 := Qu) (b3 := Lo) (b4 := Ki) hen N9 (by k_mem) (by k_mem) (by k_mem) (by k_mem); have hTb := news_T N9 F9 (by (intro p9 hp9; repeat (first | exact hp9 | exact List.mem_append_left _ hp9 | exact List.mem_append_right _ hp9 | refine List.mem_append_left _ ?_ | refine List.Mem.tail _ ?_))) K9 (fun x hx => nmem_cons (by have := hP2 x hx; omega) nmem_nil) hen heg (all_quiet (cc := cc) (n := n9')); have hOb := news_own N9 (by (intro p9 hp9; repeat (first | exact List.mem_append_right _ hp9 | exact hp9 | refine List.Mem.tail _ ?_))) K9 ho (by ((repeat (refine all_cons (by simp) ?_)); exact List.forall_mem_nil _)); have N'' : News g L h' (ordL Lo Qu Ki Go Fi { cc with quiet := insT cc.quiet e9, nq := n9' } ((pr, { cls := .type "tuple", data := .seq #[.int (σ.f1.getD ply.toNat 0) ta9, .int (σ.f2.getD ply.toNat 0) tb9] }) :: (Mv, listOf mvs.toArray mn) :: (WL a σ ++ (OS.all { cc with quiet := insT cc.quiet e9, nq := n9' }).map teE)) ++ own) := (by (refine news_app ?_ hOb; (repeat (first | refine news_keep N9 (by k_mem) K9 (by ((repeat (refine nmem_cons (by first | omega | ((try dsimp only); omega)) ?_)); exact nmem_nil)) ?_ | refine news_new N9 (by k_mem) hg9 ?_)); (exact news_app (news_chunk N9 (by (intro p9 hp9; repeat (first | exact hp9 | exact List.mem_append_left _ hp9 | exact List.mem_append_right _ hp9 | refine List.mem_append_left _ ?_ | refine List.Mem.tail _ ?_))) K9 (by first | exact off_wr hoGo (Nat.le_refl _) | exact off_wr hoQu (Nat.le_refl _) | exact off_wr hoLo (Nat.le_refl _) | exact off_wr hoKi (Nat.le_refl _))) hTb))); (try dsimp only); (try k_sweep)))
  k_with "call ref" => (k_dflt ((rename News _ _ _ _ => N9); (rename Fr _ _ _ _ => F9); (try k_fold); refine' con_use (insert_scored_ok (ts := cc.losing) ?x1 ?x2) ?k1 ?k2 ?k3 ?k4 ?k5 ?kK ?ks ?kt ?kd ?ku ?_; (case k1 => k_asm); (case k2 => k_asm); (case k3 => k_asm); (case k4 => k_asm); (case k5 => k_asm); (case kK => exact rfl); (case ks => (first | (refine sub_of ?_; (repeat (first | refine List.Sublist.cons_cons _ ?_ | ((fail_if_success exact List.nil_sublist _); refine List.Sublist.cons _ ?_))); exact List.nil_sublist _) | ((repeat (refine all_cons (by k_mem) ?_)); exact List.forall_mem_nil _))); (case kt => exact tl_of N9 (by (intro p9 hp9; repeat (first | exact hp9 | exact List.mem_append_left _ hp9 | exact List.mem_append_right _ hp9 | refine List.mem_append_left _ ?_ | refine List.Mem.tail _ ?_))) (fun x hx => by simp [OS.all, hx])); (case kd => omega); (case ku => omega); (case x1 => omega); (case x2 => (intro e he; have := hP2 e (by simp [OS.all, he]); omega)); k_whole; intro r9 h' tk' F' K9 p9; obtain ⟨rfl, e9, he1, hen, heg, n9', hg9⟩ := p9; have hE9 := e9_off (b1 := Go) (b2 := Qu) (b3 := Lo) (b4 := Ki) hen N9 (by k_mem) (by k_mem) (by k_mem) (by k_mem); have hTb := news_T N9 F9 (by (intro p9 hp9; repeat (first | exact hp9 | exact List.mem_append_left _ hp9 | exact List.mem_append_right _ hp9 | refine List.mem_append_left _ ?_ | refine List.Mem.tail _ ?_))) K9 (fun x hx => nmem_cons (by have := hP2 x hx; omega) nmem_nil) hen heg (all_losing (cc := cc) (n := n9')); have hOb := news_own N9 (by (intro p9 hp9; repeat (first | exact List.mem_append_right _ hp9 | exact hp9 | refine List.Mem.tail _ ?_))) K9 ho (by ((repeat (refine all_cons (by simp) ?_)); exact List.forall_mem_nil _)); have N'' : News g L h' (ordL Lo Qu Ki Go Fi { cc with losing := insT cc.losing e9, nl := n9' } ((pr, { cls := .type "tuple", data := .seq #[.int (σ.f1.getD ply.toNat 0) ta9, .int (σ.f2.getD ply.toNat 0) tb9] }) :: (Mv, listOf mvs.toArray mn) :: (WL a σ ++ (OS.all { cc with losing := insT cc.losing e9, nl := n9' }).map teE)) ++ own) := (by (refine news_app ?_ hOb; (repeat (first | refine news_keep N9 (by k_mem) K9 (by ((repeat (refine nmem_cons (by first | omega | ((try dsimp only); omega)) ?_)); exact nmem_nil)) ?_ | refine news_new N9 (by k_mem) hg9 ?_)); (exact news_app (news_chunk N9 (by (intro p9 hp9; repeat (first | exact hp9 | exact List.mem_append_left _ hp9 | exact List.mem_append_right _ hp9 | refine List.mem_append_left _ ?_ | refine List.Mem.tail _ ?_))) K9 (by first | exact off_wr hoGo (Nat.le_refl _) | exact off_wr hoQu (Nat.le_refl _) | exact off_wr hoLo (Nat.le_refl _) | exact off_wr hoKi (Nat.le_refl _))) hTb))); (try dsimp only); (try k_sweep)))
  k_with "call ref" => (k_dflt ((rename News _ _ _ _ => N9); (rename Fr _ _ _ _ => F9); (try k_fold); refine' con_use (insert_scored_ok (ts := cc.good) ?x1 ?x2) ?k1 ?k2 ?k3 ?k4 ?k5 ?kK ?ks ?kt ?kd ?ku ?_; (case k1 => k_asm); (case k2 => k_asm); (case k3 => k_asm); (case k4 => k_asm); (case k5 => k_asm); (case kK => exact rfl); (case ks => (first | (refine sub_of ?_; (repeat (first | refine List.Sublist.cons_cons _ ?_ | ((fail_if_success exact List.nil_sublist _); refine List.Sublist.cons _ ?_))); exact List.nil_sublist _) | ((repeat (refine all_cons (by k_mem) ?_)); exact List.forall_mem_nil _))); (case kt => exact tl_of N9 (by (intro p9 hp9; repeat (first | exact hp9 | exact List.mem_append_left _ hp9 | exact List.mem_append_right _ hp9 | refine List.mem_append_left _ ?_ | refine List.Mem.tail _ ?_))) (fun x hx => by simp [OS.all, hx])); (case kd => omega); (case ku => omega); (case x1 => omega); (case x2 => (intro e he; have := hP2 e (by simp [OS.all, he]); omega)); k_whole; intro r9 h' tk' F' K9 p9; obtain ⟨rfl, e9, he1, hen, heg, n9', hg9⟩ := p9; have hE9 := e9_off (b1 := Go) (b2 := Qu) (b3 := Lo) (b4 := Ki) hen N9 (by k_mem) (by k_mem) (by k_mem) (by k_mem); have hTb := news_T N9 F9 (by (intro p9 hp9; repeat (first | exact hp9 | exact List.mem_append_left _ hp9 | exact List.mem_append_right _ hp9 | refine List.mem_append_left _ ?_ | refine List.Mem.tail _ ?_))) K9 (fun x hx => nmem_cons (by have := hP2 x hx; omega) nmem_nil) hen heg (all_good (cc := cc) (n := n9')); have hOb := news_own N9 (by (intro p9 hp9; repeat (first | exact List.mem_append_right _ hp9 | exact hp9 | refine List.Mem.tail _ ?_))) K9 ho (by ((repeat (refine all_cons (by simp) ?_)); exact List.forall_mem_nil _)); have N'' : News g L h' (ordL Lo Qu Ki Go Fi { cc with good := insT cc.good e9, ng := n9' } ((pr, { cls := .type "tuple", data := .seq #[.int (σ.f1.getD ply.toNat 0) ta9, .int (σ.f2.getD ply.toNat 0) tb9] }) :: (Mv, listOf mvs.toArray mn) :: (WL a σ ++ (OS.all { cc with good := insT cc.good e9, ng := n9' }).map teE)) ++ own) := (by (refine news_app ?_ hOb; (repeat (first | refine news_keep N9 (by k_mem) K9 (by ((repeat (refine nmem_cons (by first | omega | ((try dsimp only); omega)) ?_)); exact nmem_nil)) ?_ | refine news_new N9 (by k_mem) hg9 ?_)); (exact news_app (news_chunk N9 (by (intro p9 hp9; repeat (first | exact hp9 | exact List.mem_append_left _ hp9 | exact List.mem_append_right _ hp9 | refine List.mem_append_left _ ?_ | refine List.Mem.tail _ ?_))) K9 (by first | exact off_wr hoGo (Nat.le_refl _) | exact off_wr hoQu (Nat.le_refl _) | exact off_wr hoLo (Nat.le_refl _) | exact off_wr hoKi (Nat.le_refl _))) hTb))); (try dsimp only); (try k_sweep)))
  k_with "call ref" => (k_dflt ((rename News _ _ _ _ => N9); (rename Fr _ _ _ _ => F9); (try k_fold); refine' con_use0 (gain_W hB.out hNB.out ?x1) ?k1 ?k2 ?k3 ?k4 ?k5 ?kK ?ks ?kt ?kd ?ku ?_; (case k1 => k_asm); (case k2 => k_asm); (case k3 => k_asm); (case k4 => k_asm); (case k5 => k_asm); (case kK => exact rfl); (case ks => (intro p9 hp9; repeat (first | exact hp9 | exact List.mem_append_left _ hp9 | exact List.mem_append_right _ hp9 | refine List.mem_append_left _ ?_ | refine List.Mem.tail _ ?_))); (case kt => exact List.forall_mem_nil _); (case kd => omega); (case ku => omega); (case x1 => (rw [hcd]; omega)); k_whole; intro r9 h' tk' F' N' p9; obtain ⟨t9, rfl⟩ := p9; (try dsimp only); (try k_sweep)))
  k_with "call ref" => (k_dflt ((rename News _ _ _ _ => N9); (rename Fr _ _ _ _ => F9); (try k_fold); refine' con_use0 (noisy_W hB.out hNB.out ?x1) ?k1 ?k2 ?k3 ?k4 ?k5 ?kK ?ks ?kt ?kd ?ku ?_; (case k1 => k_asm); (case k2 => k_asm); (case k3 => k_asm); (case k4 => k_asm); (case k5 => k_asm); (case kK => exact rfl); (case ks => (intro p9 hp9; repeat (first | exact hp9 | exact List.mem_append_left _ hp9 | exact List.mem_append_right _ hp9 | refine List.mem_append_left _ ?_ | refine List.Mem.tail _ ?_))); (case kt => exact List.forall_mem_nil _); (case kd => omega); (case ku => omega); (case x1 => (rw [hcd]; omega)); k_whole; intro r9 h' tk' F' N' p9; subst p9; (try dsimp only); (try k_sweep)))
  k_with "setItem ref int" => (k_dflt (((rename News _ _ _ _ => N9); (rename Fr _ _ _ _ => F9); refine' my_store (D := Ki) (vs := [Value.int cc.k0 cc.t0, .int cc.k1 cc.t1]) F9 N9 (by k_mem) (by decide) (by decide) (by simp) ?_; intro h' F' K9 hg9; have hoffT : ∀ x ∈ cc.all, x.1 ∉ ([Ki] : List Addr) := (fun x hx => nmem_cons (by have := hP2 x hx; omega) nmem_nil); have hTb : News g L h' (cc.all.map teE) := news_chunk N9 (by (intro p9 hp9; repeat (first | exact hp9 | exact List.mem_append_left _ hp9 | exact List.mem_append_right _ hp9 | refine List.mem_append_left _ ?_ | refine List.Mem.tail _ ?_))) K9 (fun p hp => by obtain ⟨x, hx, rfl⟩ := List.mem_map.mp hp; exact hoffT x hx); have hOb := news_own N9 (by (intro p9 hp9; repeat (first | exact List.mem_append_right _ hp9 | exact hp9 | refine List.Mem.tail _ ?_))) K9 ho (by ((repeat (refine all_cons (by simp) ?_)); exact List.forall_mem_nil _)); first | (have hg9 : h'.get? Ki = some (listOf [Value.int mv tm, .int cc.k1 cc.t1].toArray cc.nk) := hg9; have N'' : News g L h' (ordL Lo Qu Ki Go Fi { cc with k0 := mv, t0 := tm } ((pr, { cls := .type "tuple", data := .seq #[.int (σ.f1.getD ply.toNat 0) ta9, .int (σ.f2.getD ply.toNat 0) tb9] }) :: (Mv, listOf mvs.toArray mn) :: (WL a σ ++ (OS.all { cc with k0 := mv, t0 := tm }).map teE)) ++ own) := (by (refine news_app ?_ hOb; (repeat (first | refine news_keep N9 (by k_mem) K9 (by ((repeat (refine nmem_cons (by first | omega | ((try dsimp only); omega)) ?_)); exact nmem_nil)) ?_ | refine news_new N9 (by k_mem) hg9 ?_)); (exact news_app (news_chunk N9 (by (intro p9 hp9; repeat (first | exact hp9 | exact List.mem_append_left _ hp9 | exact List.mem_append_right _ hp9 | refine List.mem_append_left _ ?_ | refine List.Mem.tail _ ?_))) K9 (by first | exact off_wr hoGo (Nat.le_refl _) | exact off_wr hoQu (Nat.le_refl _) | exact off_wr hoLo (Nat.le_refl _) | exact off_wr hoKi (Nat.le_refl _))) hTb))); clear hg9) | (have hg9 : h'.get? Ki = some (listOf [Value.int cc.k0 cc.t0, .int mv tm].toArray cc.nk) := hg9; have N'' : News g L h' (ordL Lo Qu Ki Go Fi { cc with k1 := mv, t1 := tm } ((pr, { cls := .type "tuple", data := .seq #[.int (σ.f1.getD ply.toNat 0) ta9, .int (σ.f2.getD ply.toNat 0) tb9] }) :: (Mv, listOf mvs.toArray mn) :: (WL a σ ++ (OS.all { cc with k1 := mv, t1 := tm }).map teE)) ++ own) := (by (refine news_app ?_ hOb; (repeat (first | refine news_keep N9 (by k_mem) K9 (by ((repeat (refine nmem_cons (by first | omega | ((try dsimp only); omega)) ?_)); exact nmem_nil)) ?_ | refine news_new N9 (by k_mem) hg9 ?_)); (exact news_app (news_chunk N9 (by (intro p9 hp9; repeat (first | exact hp9 | exact List.mem_append_left _ hp9 | exact List.mem_append_right _ hp9 | refine List.mem_append_left _ ?_ | refine List.Mem.tail _ ?_))) K9 (by first | exact off_wr hoGo (Nat.le_refl _) | exact off_wr hoQu (Nat.le_refl _) | exact off_wr hoLo (Nat.le_refl _) | exact off_wr hoKi (Nat.le_refl _))) hTb))); clear hg9))))
  k_with "pyIter ref" => (k_dflt ((((rename News _ _ _ _ => N9); (rename Fr _ _ _ _ => F9); have hoGo : ∀ p ∈ WL a σ, p.1 < Go := of_allLt (by have q : Fi < Go ∧ pr < Go ∧ Mv < Go ∧ AllLt Go (WL a σ) := (by assumption); exact q.2.2.2); have hoKi : ∀ p ∈ WL a σ, p.1 < Ki := of_allLt (by have q : Go < Ki ∧ Fi < Ki ∧ pr < Ki ∧ Mv < Ki ∧ AllLt Ki (WL a σ) := (by assumption); exact q.2.2.2.2); have hoQu : ∀ p ∈ WL a σ, p.1 < Qu := of_allLt (by have q : Ki < Qu ∧ Go < Qu ∧ Fi < Qu ∧ pr < Qu ∧ Mv < Qu ∧ AllLt Qu (WL a σ) := (by assumption); exact q.2.2.2.2.2); have hoLo : ∀ p ∈ WL a σ, p.1 < Lo := of_allLt (by have q : Qu < Lo ∧ Ki < Lo ∧ Go < Lo ∧ Fi < Lo ∧ pr < Lo ∧ Mv < Lo ∧ AllLt Lo (WL a σ) := (by assumption); exact q.2.2.2.2.2.2); refine' list_K (σ := OS) [Go, Qu, Lo, Ki] (fun cc => ordL Lo Qu Ki Go Fi cc ((pr, { cls := .type "tuple", data := .seq #[.int (σ.f1.getD ply.toNat 0) ta9, .int (σ.f2.getD ply.toNat 0) tb9] }) :: (Mv, listOf mvs.toArray mn) :: (WL a σ ++ (OS.all cc).map teE))) (fun _ => []) ["gain"] (fun i z => z.abs = ((rangeKs 1 count).take i).foldl (stepM (a.T.no.getD node []) (a.T.ga.getD node []) (σ.f1.getD ply.toNat 0) (σ.f2.getD ply.toNat 0) (fun m => kdfLook σ.sc (ply % 2 * 65536 + m) 0)) ⟨[], [], [], 0, 0⟩ ∧ (∀ e ∈ z.all, e.1 ≠ Go ∧ e.1 ≠ Qu ∧ e.1 ≠ Lo ∧ e.1 ≠ Ki) ∧ z.good.length + z.quiet.length + z.losing.length ≤ i) ⟨[], [], [], 0, 0, 0, 0, 0, 0, 194, 194⟩ ?zhh (News.isList N9 (by k_mem)) ?zhlL F9 (by rw [← List.append_nil (WL a σ)] at N9; exact N9) ?zha ?zhp ?zhk ?zhno ?zturn ?zdone; (case zhh => exact rfl); (case zhlL => (show Mv ≠ L; omega)); (case zha => ((repeat (refine adr_cons (by omega) (live_of N9 (by k_mem)) ?_)); exact adr_nil)); (case zhp => exact ⟨rfl, (fun _ h => nomatch h), Nat.le_refl _⟩); (case zhk => exact fun _ h => nomatch h); (case zhno => (intro i c9 _; refine noIt_cons (by rfl) ?_; refine noIt_cons (by rfl) ?_; refine noIt_cons (by rfl) ?_; refine noIt_cons (by rfl) ?_; refine noIt_cons (by rfl) ?_; refine noIt_cons (by rfl) ?_; refine noIt_cons (by rfl) ?_; exact noIt_app hnit noIt_T)); (case' zturn => (clear F9 N9; intro i v cc u h9 tk9 own hv ho hP F' N'; (try dsimp only); k_fold; refine an3 hP fun hP1 hP2 hP3 => ?_; clear hP; obtain ⟨mv, tm, hmv9, rfl⟩ := hat hv; obtain ⟨hmv1, hmv2⟩ := hrk i mv hmv9; (try dsimp only at F'); (try dsimp only at N'); refine (let m9 : Str → Option Value := _; (fun (F' : Fr _ _ _ m9) => ?_) F'))); (case' zdone => (clear F9 N9; intro cc u h9 tk9 hP F' N'; refine an3 hP fun hP1 hP2 hP3 => ?_; clear hP; (have hP3 : cc.good.length + cc.quiet.length + cc.losing.length ≤ 3 := by omega); dsimp only at F' N' ⊢))))))
  k_with "CompSrcT" => (k_dflt (((rename News _ _ _ _ => N9); (rename Fr _ _ _ _ => F9); refine LCt.CompSrcT.ledger (by rfl) F9 N9 (by k_mem) (by exact Nat.le_of_ble_eq_true rfl) ?_; intro g'; refine' kci_list (vs := [Value.int cc.k0 cc.t0, .int cc.k1 cc.t1]) (ns := [cc.k0, cc.k1]) (fun l k => if k = 0 then l else l ++ [k]) (.cons _ _ (.cons _ _ .nil)) (fun k' t' I' oI' C' oC' D' m' ys' l' h' tk' E' hk' hI' hC' hx' F' N' off' ne' => ?_) ?fin ?grows; (case grows => (intro l k; (try dsimp only); split <;> simp)); (case' fin => (clear F9 N9; unfold KPfDone; intro ysM hyM hlM; have hyMB : Bx (IntsAre ysM ([cc.k0, cc.k1].filter (fun m => decide (m ≠ 0)))) := ⟨by rw [← mid_eq]; exact hyM⟩; have hlMB : ysM.length ≤ 2 := (by simpa using hlM); clear hyM hlM)); (try (clear F9 N9; (try (simp only [LCg.Off3, and_true] at off')); (show KPfMark → _); intro hMark'; clear hk')))))
  k_with "CompEnd" => (k_dflt (((rename News _ _ _ _ => N9); (rename Fr _ _ _ _ => F9); refine LCg.CompEnd.intro F9 N9 _ (fun p hp => hp) (by first | assumption | (simp only [LCg.Off3, and_true]; assumption)) (by lcg_src) ?_)))
  k_with "KCiEl" => (k_dflt ((exact kci_el (if_neg (by assumption)) rfl rfl)))
  k_with "KCiNo" => (k_dflt ((exact kci_no (if_pos (by assumption)) rfl)))
  k_with "call ref" => (k_dflt ((rename News _ _ _ _ => N9); (rename Fr _ _ _ _ => F9); (try k_fold); refine' con_use0 (moves_of_ok (ts := cc.good) (Sc := Go) ?x1 ?x2) ?k1 ?k2 ?k3 ?k4 ?k5 ?kK ?ks ?kt ?kd ?ku ?_; (case k1 => k_asm); (case k2 => k_asm); (case k3 => k_asm); (case k4 => k_asm); (case k5 => k_asm); (case kK => exact rfl); (case ks => (first | (refine sub_of ?_; (repeat (first | refine List.Sublist.cons_cons _ ?_ | ((fail_if_success exact List.nil_sublist _); refine List.Sublist.cons _ ?_))); exact List.nil_sublist _) | ((repeat (refine all_cons (by k_mem) ?_)); exact List.forall_mem_nil _))); (case kt => exact tl_of N9 (by (intro p9 hp9; repeat (first | exact hp9 | exact List.mem_append_left _ hp9 | exact List.mem_append_right _ hp9 | refine List.mem_append_left _ ?_ | refine List.Mem.tail _ ?_))) (fun x hx => by simp [OS.all, hx])); (case kd => omega); (case ku => omega); (case x1 => omega); (case x2 => (intro e he; have := hP2 e (by simp [OS.all, he]); omega)); k_whole; intro r9 h' tk' F' N' p9; obtain ⟨a9, rfl, hn9, vs9, n9, hg9, hi9⟩ := p9; have hiB_good : Bx (IntsAre vs9 (cc.good.map (·.2.1.2))) := ⟨hi9⟩; have N' := news_made F9 hn9 hg9 N'; have hl9 : vs9.length ≤ 10 := (by rw [hi9.length, List.length_map]; omega); clear hi9; (try dsimp only); (try k_sweep)))
  k_with "call ref" => (k_dflt ((rename News _ _ _ _ => N9); (rename Fr _ _ _ _ => F9); (try k_fold); refine' con_use0 (moves_of_ok (ts := cc.quiet) (Sc := Qu) ?x1 ?x2) ?k1 ?k2 ?k3 ?k4 ?k5 ?kK ?ks ?kt ?kd ?ku ?_; (case k1 => k_asm); (case k2 => k_asm); (case k3 => k_asm); (case k4 => k_asm); (case k5 => k_asm); (case kK => exact rfl); (case ks => (first | (refine sub_of ?_; (repeat (first | refine List.Sublist.cons_cons _ ?_ | ((fail_if_success exact List.nil_sublist _); refine List.Sublist.cons _ ?_))); exact List.nil_sublist _) | ((repeat (refine all_cons (by k_mem) ?_)); exact List.forall_mem_nil _))); (case kt => exact tl_of N9 (by (intro p9 hp9; repeat (first | exact hp9 | exact List.mem_append_left _ hp9 | exact List.mem_append_right _ hp9 | refine List.mem_append_left _ ?_ | refine List.Mem.tail _ ?_))) (fun x hx => by simp [OS.all, hx])); (case kd => omega); (case ku => omega); (case x1 => omega); (case x2 => (intro e he; have := hP2 e (by simp [OS.all, he]); omega)); k_whole; intro r9 h' tk' F' N' p9; obtain ⟨a9, rfl, hn9, vs9, n9, hg9, hi9⟩ := p9; have hiB_quiet : Bx (IntsAre vs9 (cc.quiet.map (·.2.1.2))) := ⟨hi9⟩; have N' := news_made F9 hn9 hg9 N'; have hl9 : vs9.length ≤ 10 := (by rw [hi9.length, List.length_map]; omega); clear hi9; (try dsimp only); (try k_sweep)))
  k_with "call ref" => (k_dflt ((rename News _ _ _ _ => N9); (rename Fr _ _ _ _ => F9); (try k_fold); refine' con_use0 (moves_of_ok (ts := cc.losing) (Sc := Lo) ?x1 ?x2) ?k1 ?k2 ?k3 ?k4 ?k5 ?kK ?ks ?kt ?kd ?ku ?_; (case k1 => k_asm); (case k2 => k_asm); (case k3 => k_asm); (case k4 => k_asm); (case k5 => k_asm); (case kK => exact rfl); (case ks => (first | (refine sub_of ?_; (repeat (first | refine List.Sublist.cons_cons _ ?_ | ((fail_if_success exact List.nil_sublist _); refine List.Sublist.cons _ ?_))); exact List.nil_sublist _) | ((repeat (refine all_cons (by k_mem) ?_)); exact List.forall_mem_nil _))); (case kt => exact tl_of N9 (by (intro p9 hp9; repeat (first | exact hp9 | exact List.mem_append_left _ hp9 | exact List.mem_append_right _ hp9 | refine List.mem_append_left _ ?_ | refine List.Mem.tail _ ?_))) (fun x hx => by simp [OS.all, hx])); (case kd => omega); (case ku => omega); (case x1 => omega); (case x2 => (intro e he; have := hP2 e (by simp [OS.all, he]); omega)); k_whole; intro r9 h' tk' F' N' p9; obtain ⟨a9, rfl, hn9, vs9, n9, hg9, hi9⟩ := p9; have hiB_losing : Bx (IntsAre vs9 (cc.losing.map (·.2.1.2))) := ⟨hi9⟩; have N' := news_made F9 hn9 hg9 N'; have hl9 : vs9.length ≤ 10 := (by rw [hi9.length, List.length_map]; omega); clear hi9; (try dsimp only); (try k_sweep)))
  k_with "binaryOp Add ref ref" => (k_dflt (((rename News _ _ _ _ => N9); (rename Fr _ _ _ _ => F9); refine' my_cat F9 N9 ?zka ?zkb ?zkz ?_; (case zka => kmk_list); (case zkb => kmk_list); (case zkz => (simp only [List.length_append, List.length_nil]; omega)); intro D9 h' F' N' hD9)))
  k_steps
  · (refine' back_intro ?bF ?bL ?_; (case bF => k_asm); (case bL => ((rename News _ _ _ _ => N9); intro p9 hp9; refine .inr (N9 p9 ?_).1; first | (repeat (first | exact hp9 | exact List.mem_append_left _ hp9 | exact List.mem_append_right _ hp9 | refine List.mem_append_left _ ?_ | refine List.Mem.tail _ ?_)); done | (rcases List.mem_cons.mp hp9 with hp9 | hp9; (case inl => (subst hp9; k_mem)); (case inr => (repeat (first | exact hp9 | exact List.mem_append_left _ hp9 | exact List.mem_append_right _ hp9 | refine List.mem_append_left _ ?_ | refine List.Mem.tail _ ?_)))))); (refine ⟨D9, rfl, Z.fresh (News.fresh (by k_asm) (.head _)) (not_sub hD9 (by (intro p9 hp9; repeat (first | exact hp9 | exact List.mem_append_left _ hp9 | exact List.mem_append_right _ hp9 | refine List.mem_append_left _ ?_ | refine List.Mem.tail _ ?_)))), _, _, News.get (by k_asm) (.head _), ?_⟩))
    exact ord_fin hP1 (by rw [rangeKs_length]; omega) hiB_good.out hyMB.out hiB_quiet.out hiB_losing.out
  · refine endK2 { cc with good := insT cc.good e9, ng := n9' } (by k_asm) N'' (fun p hp => List.mem_append_right _ hp) (fun p hp => List.mem_append_left _ hp) ⟨fold_end hmv9 hP1 ?_, ?_, ?_⟩ (fun _ h => nomatch h) (by ((repeat (first | exact Out.st rfl | exact Out.kst (Out.st rfl) rfl | refine Out.ite ?_ rfl | refine Out.itf ?_ rfl | refine Out.stf ?_ rfl))))
    · unfold stepM
      rw [if_pos (by first | assumption | (simp only [Bool.not_eq_true]; assumption) | omega), if_pos (by first | assumption | (simp only [Bool.not_eq_true]; assumption) | omega)]
      simp [OS.abs, insT_P, he1]
    · exact fun x hx => (all_good x hx).elim (fun e => e ▸ hE9) (hP2 x)
    · simp only [insT_len]; omega
  · refine endK2 { cc with losing := insT cc.losing e9, nl := n9' } (by k_asm) N'' (fun p hp => List.mem_append_right _ hp) (fun p hp => List.mem_append_left _ hp) ⟨fold_end hmv9 hP1 ?_, ?_, ?_⟩ (fun _ h => nomatch h) (by ((repeat (first | exact Out.st rfl | exact Out.kst (Out.st rfl) rfl | refine Out.ite ?_ rfl | refine Out.itf ?_ rfl | refine Out.stf ?_ rfl))))
    · unfold stepM
      rw [if_pos (by first | assumption | (simp only [Bool.not_eq_true]; assumption) | omega), if_neg (by first | assumption | (simp only [Bool.not_eq_true]; assumption) | omega)]
      simp [OS.abs, insT_P, he1]
    · exact fun x hx => (all_losing x hx).elim (fun e => e ▸ hE9) (hP2 x)
    · simp only [insT_len]; omega
  · refine endK2 { cc with k0 := mv, t0 := tm } (by k_asm) N'' (fun p hp => List.mem_append_right _ hp) (fun p hp => List.mem_append_left _ hp) ⟨fold_end hmv9 hP1 ?_, hP2, Nat.le_succ_of_le hP3⟩ (fun _ h => nomatch h) (by ((repeat (first | exact Out.st rfl | exact Out.kst (Out.st rfl) rfl | refine Out.ite ?_ rfl | refine Out.itf ?_ rfl | refine Out.stf ?_ rfl))))
    unfold stepM
    rw [if_neg (by first | assumption | (simp only [Bool.not_eq_true]; assumption) | omega), if_pos (by first | assumption | (simp only [Bool.not_eq_true]; assumption) | omega)]
    rfl
  · refine endK2 { cc with k1 := mv, t1 := tm } (by k_asm) N'' (fun p hp => List.mem_append_right _ hp) (fun p hp => List.mem_append_left _ hp) ⟨fold_end hmv9 hP1 ?_, hP2, Nat.le_succ_of_le hP3⟩ (fun _ h => nomatch h) (by ((repeat (first | exact Out.st rfl | exact Out.kst (Out.st rfl) rfl | refine Out.ite ?_ rfl | refine Out.itf ?_ rfl | refine Out.stf ?_ rfl))))
    unfold stepM
    rw [if_neg (by first | assumption | (simp only [Bool.not_eq_true]; assumption) | omega), if_neg (by first | assumption | (simp only [Bool.not_eq_true]; assumption) | omega), if_pos (by first | assumption | (simp only [Bool.not_eq_true]; assumption) | omega)]
    rfl
  · refine endK2 { cc with quiet := insT cc.quiet e9, nq := n9' } (by k_asm) N'' (fun p hp => List.mem_append_right _ hp) (fun p hp => List.mem_append_left _ hp) ⟨fold_end hmv9 hP1 ?_, ?_, ?_⟩ (fun _ h => nomatch h) (by ((repeat (first | exact Out.st rfl | exact Out.kst (Out.st rfl) rfl | refine Out.ite ?_ rfl | refine Out.itf ?_ rfl | refine Out.stf ?_ rfl))))
    · unfold stepM
      rw [if_neg (by first | assumption | (simp only [Bool.not_eq_true]; assumption) | omega), if_neg (by first | assumption | (simp only [Bool.not_eq_true]; assumption) | omega), if_neg (by first | assumption | (simp only [Bool.not_eq_true]; assumption) | omega)]
      simp [OS.abs, insT_P, he1]
    · exact fun x hx => (all_quiet x hx).elim (fun e => e ▸ hE9) (hP2 x)
    · simp only [insT_len]; omega
end
section
theorem on_N1 : True := by
  k_with_none
  k_with "om2" => (lia)
  trivial
/-! the law's records kept by the rules -/
theorem isTup_base {g h : Heap} {L a : Addr} {m : Str → Option Value} {vs : List Value} (F : Fr g L h m) (e : g.get? a = some (tupO vs)) : IsTup h a vs.toArray := ⟨_, F.keep _ _ e, rfl, _, rfl⟩
/-- the ledger when D0 is stored to: the key's object beside the others -/
theorem news_upd0 {g h h' : Heap} {L : Addr} {D0 Pl D2 ka : Nat} {o0 o1 o2 oP ok : Obj} {news ks : List (Addr × Obj)} (N : News g L h news) (hs : ∀ p ∈ ks, p ∈ news) (hk : (ka, ok) ∈ news) (h1 : (Pl, oP) ∈ news) (h2 : (D2, o2) ∈ news) (K : Kept [D0] h h') (hg : h'.get? D0 = some o1) (d1 : D0 < Pl ∧ Pl < D2) (hlt : ∀ p ∈ ks, D2 < p.1) (hka : D2 < ka)
    (h0 : (D0, o0) ∈ news) : News g L h' ((D0, o1) :: (Pl, oP) :: (D2, o2) :: (ka, ok) :: ks) := by
  have hn : ∀ x : Nat, D0 < x → (x : Addr) ∉ ([D0] : List Addr) := fun x hx => nmem_cons (by omega) nmem_nil
  refine news_new N h0 hg (news_keep N h1 K (hn _ d1.1) (news_keep N h2 K (hn _ (by omega)) (news_keep N hk K (hn _ (by omega)) ?_)))
  exact news_chunk N hs K fun p hp => hn _ (by have := hlt p hp; omega)
theorem news_upd2 {g h h' : Heap} {L : Addr} {D0 Pl D2 ka : Nat} {o0 o1 o2 oP ok : Obj} {news ks : List (Addr × Obj)} (N : News g L h news) (hs : ∀ p ∈ ks, p ∈ news) (hk : (ka, ok) ∈ news) (h1 : (Pl, oP) ∈ news) (h2 : (D2, o2) ∈ news) (K : Kept [D2] h h') (hg : h'.get? D2 = some o1) (d1 : D0 < Pl ∧ Pl < D2) (hlt : ∀ p ∈ ks, D2 < p.1) (hka : D2 < ka)
    (h0 : (D0, o0) ∈ news) : News g L h' ((D0, o0) :: (Pl, oP) :: (D2, o1) :: (ka, ok) :: ks) := by
  have hn : ∀ x : Nat, x ≠ D2 → (x : Addr) ∉ ([D2] : List Addr) := fun x hx => nmem_cons hx nmem_nil
  refine news_keep N h0 K (hn _ (by omega)) (news_keep N h1 K (hn _ (by omega)) (news_new N h2 hg (news_keep N hk K (hn _ (by omega)) ?_)))
  exact news_chunk N hs K fun p hp => hn _ (by have := hlt p hp; omega)
theorem note_fin {g h H : Heap} {L : Addr} {m : Str → Option Value} {D0 Pl D2 : Nat} {o0 oP o2 oP' p0 p2 : Obj} {imm ks : List (Addr × Obj)} (F : Fr g L h m) (hig : AllAt g imm) (N : News g L h ((D0, o0) :: (Pl, oP) :: (D2, o2) :: ks)) (Z : From H g [(D0, p0), (Pl, oP'), (D2, p2)] L) (d1 : D0 < Pl ∧ Pl < D2) (hlt : ∀ p ∈ ks, D2 < p.1) :
    AllAt h [(D0, o0), (Pl, oP), (D2, o2)] ∧ AllAt h (imm ++ ks) ∧ ∀ p ∈ imm ++ ks, p ∈ imm ∨ H.get? p.1 = none := by
  refine ⟨fun p hp => (N p ?_).1, at_two F hig N fun p hp => .tail _ (.tail _ (.tail _ hp)), fun p hp => ?_⟩
  · simp only [List.mem_cons, List.not_mem_nil, or_false] at hp ⊢
    rcases hp with h | h | h <;> simp [h]
  · rcases List.mem_append.mp hp with hp | hp
    · exact .inl hp
    · have := hlt p hp
      refine .inr (Z.fresh (N p (.tail _ (.tail _ (.tail _ hp)))).2.2 ?_)
      exact (show (p.1 : Addr) ∉ ([D0, Pl, D2] : List Addr) from nmem_cons (by omega) (nmem_cons (by omega) (nmem_cons (by omega) nmem_nil)))
theorem Prs.mono {imm imm' : List (Addr × Obj)} {plv : List Value} {f1 f2 : List Int} (h : Prs imm plv f1 f2) (hs : ∀ p ∈ imm, p ∈ imm') : Prs imm' plv f1 f2 := fun i hi => let ⟨pa, vs, k, e, hm, hv⟩ := h i hi; ⟨pa, vs, k, e, hs _ hm, hv⟩
theorem prs_set {imm : List (Addr × Obj)} {plv vs : List Value} {f1 f2 : List Int} {ply best : Int} {nb k : Nat} (h : Prs imm plv f1 f2) (h0 : 0 ≤ ply) (h1 : ply < plv.length) (e1 : f1.length = plv.length) (e2 : f2.length = plv.length) (hne : f1.getD ply.toNat 0 ≠ best) (hv : IntsAre vs [best, f1.getD ply.toNat 0]) :
    Prs (imm ++ [(nb, listOf vs.toArray k)]) (plv.set ply.toNat (.ref nb)) (addK f1 f2 ply best).1 (addK f1 f2 ply best).2 := by
  intro i hi
  unfold addK
  rw [if_pos ⟨by omega, hne⟩]
  rw [List.length_set] at hi
  simp only [List.getD_eq_getElem?_getD, List.getElem?_set] at hv ⊢
  by_cases e : ply.toNat = i
  · subst e
    simp only [if_true]
    rw [if_pos (by omega), if_pos (by omega), if_pos (by omega)]
    exact ⟨nb, vs, k, rfl, List.mem_append_right _ (.head _), hv⟩
  · simp only [e, if_false]
    obtain ⟨pa, ws, k', e', hm, hw⟩ := h i hi
    rw [List.getD_eq_getElem?_getD, List.getD_eq_getElem?_getD] at hw
    exact ⟨pa, ws, k', e', List.mem_append_left _ hm, hw⟩
set_option genInjectivity false
set_option genSizeOf false
structure NS where
  o : Obj
  xs : TT
  ks : List (Addr × Obj)
theorem law_note_ok {w : World} {l side ply depth earlier best : Int} {t1 t2 t3 t4 t5 t6 : Tok} {Rc D0 Pl D2 Tr npl tn : Nat} {o0 o2 : Obj} {plv tvs : List Value} {xs ys : TT} {imm : List (Addr × Obj)} {f1 f2 tried : List Int} {c rc : List (Int × Int)}
    (hl : 20 ≤ l ∧ l ≤ 519) (hs : 0 ≤ side ∧ side ≤ 1) (hp : 0 ≤ ply ∧ ply ≤ 8) (hdp : 1 ≤ depth ∧ depth ≤ 3) (hea : 0 ≤ earlier ∧ earlier ≤ 3) (hb : 1 ≤ best ∧ best ≤ 3) (l0 : (D0 == sysModules) = false) (l2 : (D2 == sysModules) = false)
    (h0 : TD w imm o0 xs) (h2 : TD w imm o2 ys) (hc : WFc l c) (a0 : Agr c xs) (a2 : Agr rc ys) (hpr : Prs imm plv f1 f2) (hpl : plv.length ≤ 3) (e1 : f1.length = plv.length) (e2 : f2.length = plv.length) (ht : IntsAre tvs tried) (htr : ∀ m ∈ tried, 1 ≤ m ∧ m ≤ 3)
    (hit : NoIt imm) (d1 : D0 < Pl ∧ Pl < D2) (hoff : ∀ p ∈ imm, p.1 ≠ D0 ∧ p.1 ≠ Pl ∧ p.1 ≠ D2) (hRc : D2 < Rc) (hTr : D2 < Tr) :
    Con w 375 [.ref Rc, .int l t1, .int side t2, .int ply t3, .int depth t4, .int earlier t5, .int best t6, .ref Tr] [(D0, o0), (Pl, listOf plv.toArray npl), (D2, o2)] ([(Rc, tupO [.ref D0, .ref Pl, .ref D2]), (Tr, listOf tvs.toArray tn)] ++ imm) [D0, Pl, D2] 4 16
      (fun H r h' => r = .none ∧ ∃ o0' o2' plv' npl' xs' ys' imm', AllAt h' [(D0, o0'), (Pl, listOf (List.toArray plv') npl'), (D2, o2')] ∧ AllAt h' imm' ∧ (∀ p ∈ imm, p ∈ imm') ∧ (∀ p ∈ imm', p ∈ imm ∨ H.get? p.1 = none) ∧ NoIt imm' ∧
        TD w imm' o0' xs' ∧ TD w imm' o2' ys' ∧ Agr (rewC l c side depth best tried) xs' ∧ Agr (if earlier ≠ 0 then kdfPut rc (side * 65536 + earlier) best else rc) ys' ∧ plv'.length = plv.length ∧ Prs imm' plv' (addK f1 f2 ply best).1 (addK f1 f2 ply best).2) := by
  refine' con_enter [("records", .ref Rc), ("limit", .int l t1), ("side", .int side t2), ("ply", .int ply t3), ("depth", .int depth t4), ("earlier", .int earlier t5), ("best", .int best t6), ("tried", .ref Tr)] ?ho ?hcd ?hb ?hl ?hdis ?_ ?c1 ?c2 ?c3 ?c4; (case ho => k_is); (case hcd => k_is); (case hb => exact rfl); (case hl => exact locs rfl); (try (case hdis => exact List.forall_mem_nil _)); (case c1 => exact rfl); (case c2 => exact rfl); (case c3 => exact rfl); (case c4 => decide)
  case hdis =>
    have q : ∀ p ∈ ([(Rc, tupO [.ref D0, .ref Pl, .ref D2]), (Tr, listOf tvs.toArray tn)] ++ imm), p.1 ≠ D0 ∧ p.1 ≠ Pl ∧ p.1 ≠ D2 := fun p hp => by
      rcases List.mem_append.mp hp with hp | hp
      · simp only [List.mem_cons, List.not_mem_nil, or_false] at hp
        rcases hp with rfl | rfl
        · exact ⟨by show Rc ≠ D0; omega, by show Rc ≠ Pl; omega, by show Rc ≠ D2; omega⟩
        · exact ⟨by show Tr ≠ D0; omega, by show Tr ≠ Pl; omega, by show Tr ≠ D2; omega⟩
      · exact hoff p hp
    exact fun p hp z => by
      have := q p hp
      simp only [List.map_cons, List.map_nil, List.mem_cons, List.not_mem_nil, or_false] at z
      rcases z with z | z | z
      · exact this.1 z
      · exact this.2.1 z
      · exact this.2.2 z
  k_whole; intro dp un gd outer A₀ base g L h₁ H s mean mg mb B X T F N Tl Z hD hU; (try dsimp only); refine (let m9 : Str → Option Value := _; (fun (F : Fr _ _ _ m9) => ?_) F)
  k_fold
  have hRcg := Tl _ (.head _)
  have hTrg := Tl _ (.tail _ (.head _))
  have hig : AllAt g imm := fun p hp => Tl p (.tail _ (.tail _ hp))
  clear Tl
  k_with_none
  k_with "storeName" => (k_dflt (k_here; refine' store2 ?F ?N ?_ ?a ?b; (case F => k_asm); (case N => k_asm); (case a => rfl); (case b => rfl); k_whole; intro h' tk' F' N'; refine (let m9 : Str → Option Value := _; (fun (F' : Fr _ _ _ m9) => ?_) F'); (try k_sweep)))
  k_with "eval Constant int" => (k_dflt (first | with_reducible refine const_int3 ?_ | refine const_int3 ?_))
  k_with "binaryOp Add int int" => (k_dflt (first | with_reducible refine add_int3 ?_ | refine add_int3 ?_))
  k_with "binaryOp Sub int int" => (k_dflt (first | with_reducible refine sub_int3 ?_ | refine sub_int3 ?_))
  k_with "unaryOp USub int" => (k_dflt (first | with_reducible refine neg_int3 ?_ | refine neg_int3 ?_))
  k_with "om2" => (lia)
  have hTrL : Tr < L := Z.size ▸ Heap.lt_size (Z.back _ _ hTrg)
  k_with "assign Tuple" => (k_dflt ((refine' unpackN_ ?F ?N ?T ?k1 ?k2 ?k3 ?_; (case F => k_asm); (case N => k_asm); (case T => exact isTup_base (by k_asm) hRcg); (case k1 => exact rfl); (case k2 => exact rfl); (case k3 => exact rfl); k_whole; intro h' F' N'; (try k_sweep))))
  k_with "call builtin:len" => (k_dflt ((refine my_len (News.isList (by k_asm) (by k_mem)) rfl (by omega) ?_)))
  k_with "subscriptTail" => (k_dflt ((obtain ⟨tq, htq⟩ := hpv.get 0 _ rfl; refine my_item (isList_kept (by k_asm) (hig _ hpm)) (by decide) (by decide) htq ?_)))
  k_with "subscriptTail" => (k_dflt ((obtain ⟨pa, pvs, pk, hpe, hpm, hpv⟩ := hpr ply.toNat (by omega); refine my_item (News.isList (by k_asm) (by k_mem)) (by omega) (by omega) hpe ?_)))
  k_with "setItem ref int" => (k_dflt (((rename News _ _ _ _ => N9); (rename Fr _ _ _ _ => F9); refine' my_store (D := Pl) F9 N9 (by k_mem) (by omega) (by omega) (by omega) ?_; intro h' F' K9 hg9)))
  k_with "execs cons" => (k_dflt (((with_reducible show wpAny _ _ (execs (Stmt.If (Expr.BoolOp _ _ _) _ _ _ :: _) _) _ _ _); (rename Fr _ _ _ _ => F9); refine' if_join0 F9 (fun news' => ∃ plv' npl' ks, news' = (D0, o0) :: (Pl, listOf (List.toArray plv') npl') :: (D2, o2) :: ks ∧ plv'.length = plv.length ∧ Prs (imm ++ ks) plv' (addK f1 f2 ply best).1 (addK f1 f2 ply best).2 ∧ NoIt ks ∧ ∀ p ∈ ks, D2 < p.1) ?_ ?_; case' refine'_2 => (clear F9; intro h' tk' news' F' N' hJ; obtain ⟨plv', npl', ks1, rfl, hpl', hprs', hit', hlt'⟩ := hJ; have hT0 := h0.mono (imm' := imm ++ ks1) (fun p hp => List.mem_append_left _ hp)))))
  k_with "getMethod ref" => (k_dflt ((refine my_meth (News.get (by k_asm) (by k_mem)) (TD.ex (by assumption)) ?_)))
  have hbd : 0 ≤ 16 * depth * (depth + 2) ∧ 16 * depth * (depth + 2) = 16 * depth * depth + 32 * depth := by
    have : depth = 1 ∨ depth = 2 ∨ depth = 3 := by omega
    rcases this with rfl | rfl | rfl <;> decide
  have hbo : (if 16 * depth * (depth + 2) < l then 16 * depth * (depth + 2) else l) = bonusOf l depth := by unfold bonusOf; rw [hbd.2]; split <;> omega
  have hbb := bonus_bound (l := l) (depth := depth) (by omega) (by omega)
  have hsz : ∀ {x b : Int}, (-1000 ≤ x ∧ x ≤ 1000) → -l ≤ b ∧ b ≤ l → (-l ≤ x ∧ x ≤ l) → -1000 ≤ drawnBack x b l ∧ drawnBack x b l ≤ 1000 := fun _ hb hx => by have := drawnBack_bound (by omega) hx hb; omega
  have hst : ∀ {xs : TT} {c : List (Int × Int)} {m b : Int} {a : Addr} {t : Tok}, Agr c xs → (1 ≤ m ∧ m ≤ 3) → Agr (updC l c side m b) (storedH xs [side, m] a (.int (drawnBack (tlook xs [side, m]) b l) t)) := fun h hm => by
    rw [h side _ hs (by omega)]; exact h.upd hs (by omega)
  have hfold : ∀ (i : Nat) (mv : Int), tried[i]? = some mv → (tried.take (i + 1)).foldl (lowC l side best (bonusOf l depth)) (updC l c side best (bonusOf l depth)) = lowC l side best (bonusOf l depth) ((tried.take i).foldl (lowC l side best (bonusOf l depth)) (updC l c side best (bonusOf l depth))) mv := fun i mv e => by
    rw [List.take_add_one, e]; simp
  have hW : ∀ i, WFc l ((tried.take i).foldl (lowC l side best (bonusOf l depth)) (updC l c side best (bonusOf l depth))) := fun i =>
    WFc.lows (best := best) (by omega) hs hbb (tried.take i) (hc.upd (by omega) hs (mv := best) (by omega) (b := bonusOf l depth) (by omega)) (fun q hq => by have := htr q (List.mem_of_mem_take hq); omega)
  have hlk : ∀ {xs : TT} {c : List (Int × Int)} {m : Int}, Agr c xs → WFc l c → (1 ≤ m ∧ m ≤ 3) → -l ≤ tlook xs [side, m] ∧ tlook xs [side, m] ≤ l := fun h hw hm => by
    rw [h side _ hs (by omega)]; exact hw.look (by omega) _
  k_with "call builtin:dict.get" => (k_dflt (((rename News _ _ _ _ => N9); (rename Fr _ _ _ _ => F9); refine' my_getT ?hT ?hl ?hu ?ho ?hi ?hk tupKey ?_; (case ho => exact News.get N9 (by k_mem)); (case hk => exact News.get N9 (by k_mem)); (case hT => assumption); (case hl => assumption); (case hu => (show un + 1 < cLine); omega); (case hi => exact at_two F9 hig N9 (by (intro p9 hp9; repeat (first | exact hp9 | exact List.mem_append_left _ hp9 | exact List.mem_append_right _ hp9 | refine List.mem_append_left _ ?_ | refine List.Mem.tail _ ?_)))); intro t9)))
  k_with "call ref" => (k_dflt ((rename News _ _ _ _ => N9); (rename Fr _ _ _ _ => F9); (try k_fold); refine' con_use0 (drawn_back_ok ?x1 ?x2 ?x3) ?k1 ?k2 ?k3 ?k4 ?k5 ?kK ?ks ?kt ?kd ?ku ?_; (case k1 => k_asm); (case k2 => k_asm); (case k3 => k_asm); (case k4 => k_asm); (case k5 => k_asm); (case kK => exact rfl); (case ks => (first | (refine sub_of ?_; (repeat (first | refine List.Sublist.cons_cons _ ?_ | ((fail_if_success exact List.nil_sublist _); refine List.Sublist.cons _ ?_))); exact List.nil_sublist _) | ((repeat (refine all_cons (by k_mem) ?_)); exact List.forall_mem_nil _))); (case kt => first | exact List.forall_mem_nil _ | ((repeat (refine all_cons (by first | exact (News.get (by k_asm) (by k_mem)) | exact Fr.keep (by k_asm) _ _ (by assumption)) ?_)); exact List.forall_mem_nil _)); (case kd => omega); (case ku => omega); (case x1 => omega); (case x2 => (rw [hbo]; omega)); (case x3 => exact TD.look (by assumption)); k_whole; intro r9 h' tk' F' N' p9; obtain ⟨t9, rfl⟩ := p9; (try dsimp only); (try k_sweep)))
  k_with "setItem ref ref" => (k_dflt (((rename News _ _ _ _ => N9); (rename Fr _ _ _ _ => F9); refine' my_setT (imm' := imm ++ (_ :: ks1)) hT0 F9 N9 (by k_mem) (at_two F9 hig N9 (by (intro p9 hp9; repeat (first | exact hp9 | exact List.mem_append_left _ hp9 | exact List.mem_append_right _ hp9 | refine List.mem_append_left _ ?_ | refine List.Mem.tail _ ?_)))) (by (show un + 1 < cLine); omega) (News.get N9 (by k_mem)) tupKey mem_ins mem_mid ?hv hs (by omega) ?_; (case hv => (rw [hbo]; exact hsz (TD.look hT0) (by omega) (hlk a0 hc hb))); intro h' o9 F' K9 hg9 hT9; rw [hbo] at hT9; obtain ⟨xs9, hT9, hA9⟩ : ∃ xs9, TD w _ o9 xs9 ∧ Agr (updC l c side best (bonusOf l depth)) xs9 := ⟨_, hT9, hst a0 hb⟩; have N' := news_upd0 (Pl := Pl) (D2 := D2) N9 (by (intro p9 hp9; repeat (first | exact hp9 | exact List.mem_append_left _ hp9 | exact List.mem_append_right _ hp9 | refine List.mem_append_left _ ?_ | refine List.Mem.tail _ ?_))) (.head _) (by k_mem) (by k_mem) K9 hg9 (by omega) hlt' (by omega) (by k_mem))))
  k_with "setItem ref ref" => (k_dflt (((rename News _ _ _ _ => N9); (rename Fr _ _ _ _ => F9); refine' my_setT (imm' := imm ++ (_ :: cc.ks)) hT F9 N9 (by k_mem) (at_two F9 hig N9 (by (intro p9 hp9; repeat (first | exact hp9 | exact List.mem_append_left _ hp9 | exact List.mem_append_right _ hp9 | refine List.mem_append_left _ ?_ | refine List.Mem.tail _ ?_)))) (by (show un + 1 < cLine); omega) (News.get N9 (by k_mem)) tupKey mem_ins mem_mid ?hv hs (by omega) ?_; (case hv => (rw [hbo]; exact hsz (TD.look hT) (by omega) (hlk hA (hW i) hmr))); intro h' o9 F' K9 hg9 hT9; rw [hbo] at hT9; have hOb := news_own N9 (by (intro p9 hp9; repeat (first | exact List.mem_append_right _ hp9 | exact hp9 | refine List.Mem.tail _ ?_))) K9 ho (by ((repeat (refine all_cons (by simp) ?_)); exact List.forall_mem_nil _)); have N'' := news_app (news_upd0 (Pl := Pl) (D2 := D2) N9 (by (intro p9 hp9; repeat (first | exact hp9 | exact List.mem_append_left _ hp9 | exact List.mem_append_right _ hp9 | refine List.mem_append_left _ ?_ | refine List.Mem.tail _ ?_))) (.head _) (by k_mem) (by k_mem) K9 hg9 (by omega) hlt (by omega) (by k_mem)) hOb)))
  k_with "setItem ref ref" => (k_dflt (((rename News _ _ _ _ => N9); (rename Fr _ _ _ _ => F9); refine' my_setT (imm' := imm ++ (_ :: cc.ks)) hT2 F9 N9 (by k_mem) (at_two F9 hig N9 (by (intro p9 hp9; repeat (first | exact hp9 | exact List.mem_append_left _ hp9 | exact List.mem_append_right _ hp9 | refine List.mem_append_left _ ?_ | refine List.Mem.tail _ ?_)))) (by (show un + 1 < cLine); omega) (News.get N9 (by k_mem)) tupKey mem_ins mem_mid (by omega) hs (by omega) ?_; intro h' o9 F' K9 hg9 hT9; have N' := news_upd2 (D0 := D0) (Pl := Pl) N9 (by (intro p9 hp9; repeat (first | exact hp9 | exact List.mem_append_left _ hp9 | exact List.mem_append_right _ hp9 | refine List.mem_append_left _ ?_ | refine List.Mem.tail _ ?_))) (.head _) (by k_mem) (by k_mem) K9 hg9 d1 hlt (by omega) (by k_mem))))
  k_with "pyIter ref" => (k_dflt (((rename News _ _ _ _ => N9); (rename Fr _ _ _ _ => F9); refine' list_K (σ := NS) [D0] (fun cc => (D0, cc.o) :: (Pl, listOf (List.toArray plv') npl') :: (D2, o2) :: cc.ks) (fun _ => []) [] (fun i z => TD w (imm ++ z.ks) z.o z.xs ∧ Agr ((tried.take i).foldl (lowC l side best (bonusOf l depth)) (updC l c side best (bonusOf l depth))) z.xs ∧ NoIt z.ks ∧ (∀ p ∈ ks1, p ∈ z.ks) ∧ ∀ p ∈ z.ks, D2 < p.1) ⟨o9, xs9, _ :: ks1⟩ ?zhh (isList_kept F9 hTrg) ?zhlL F9 N9 ?zha ?zhp ?zhk ?zhno ?zturn ?zdone; (case zhh => exact rfl); (case zhlL => (show Tr ≠ L; omega)); (case zha => ((repeat (refine adr_cons (by omega) (live_of N9 (by k_mem)) ?_)); exact adr_nil)); (case zhp => exact ⟨hT9, hA9, noIt_cons (by rfl) hit', (fun p hp => .tail _ hp), List.forall_mem_cons.mpr ⟨by (show D2 < _); omega, hlt'⟩⟩); (case zhk => exact fun _ h => nomatch h); (case zhno => (intro i cc hP; exact noIt_cons (itCls_dict hP.1.ex.1) (noIt_cons (by rfl) (noIt_cons (itCls_dict h2.ex.1) hP.2.2.1)))); (case' zturn => (clear F9 N9; intro i v cc u h9 tk9 own hv ho hP F' N'; (try dsimp only); k_fold; refine an5 hP fun hT hA hI hsub hlt => ?_; clear hP; obtain ⟨mv, tm, hmv, rfl⟩ := ints_at ht hv; have hmr := htr mv (List.mem_of_getElem? hmv); simp only [List.cons_append] at N'; (try dsimp only at F'); (try dsimp only at N'); refine (let m9 : Str → Option Value := _; (fun (F' : Fr _ _ _ m9) => ?_) F'))); (case' zdone => (clear F9 N9; intro cc u h9 tk9 hP F' N'; refine an5 hP fun hT hA hI hsub hlt => ?_; clear hP; have hT2 := h2.mono (imm' := imm ++ cc.ks) (fun p hp => List.mem_append_left _ hp); rw [List.take_of_length_le (by rw [ht.length]; exact Nat.le_refl _)] at hA; (try dsimp only at F'); (try dsimp only at N'); refine (let m9 : Str → Option Value := _; (fun (F' : Fr _ _ _ m9) => ?_) F'))))))
  k_steps
  · (refine' back_intro ?bF ?bL ?_; (case bF => k_asm); (case bL => first | exact List.forall_mem_nil _ | ((repeat (refine all_cons (by first | exact .inr (News.get (by with_reducible assumption) (by k_mem)) | exact .inl (by simp)) ?_)); exact List.forall_mem_nil _)))
    obtain ⟨q1, q2, q3⟩ := note_fin (by k_asm) hig N' Z d1 (List.forall_mem_cons.mpr ⟨by (show D2 < _); omega, hlt⟩)
    exact ⟨rfl, _, _, _, _, _, _, _, q1, q2, fun _ hp => List.mem_append_left _ hp, q3, noIt_app hit (noIt_cons (by rfl) hI), hT.mono mem_ins, hT9, hA, by rw [if_pos (by assumption)]; exact a2.upd hs (by omega), hpl', hprs'.mono fun p hp => (List.mem_append.mp hp).elim (List.mem_append_left _) fun q => List.mem_append_right _ (.tail _ (hsub p q))⟩
  · (refine' back_intro ?bF ?bL ?_; (case bF => k_asm); (case bL => first | exact List.forall_mem_nil _ | ((repeat (refine all_cons (by first | exact .inr (News.get (by with_reducible assumption) (by k_mem)) | exact .inl (by simp)) ?_)); exact List.forall_mem_nil _)))
    obtain ⟨q1, q2, q3⟩ := note_fin (by k_asm) hig N' Z d1 hlt
    exact ⟨rfl, _, _, _, _, _, _, _, q1, q2, fun _ hp => List.mem_append_left _ hp, q3, noIt_app hit hI, hT, hT2, hA, by rw [if_neg (fun z => z (by assumption))]; exact a2, hpl', hprs'.mono fun p hp => (List.mem_append.mp hp).elim (List.mem_append_left _) fun q => List.mem_append_right _ (hsub p q)⟩
  · refine endK2 (σ := NS) ⟨o9, _, _ :: cc.ks⟩ (by k_asm) N'' (fun p hp => List.mem_append_right _ hp) (fun p hp => List.mem_append_left _ hp) ⟨hT9, ?_, noIt_cons (by rfl) hI, fun p hp => .tail _ (hsub p hp), List.forall_mem_cons.mpr ⟨by (show D2 < _); omega, hlt⟩⟩ (fun _ h => nomatch h) (by ((repeat (first | exact Out.st rfl | exact Out.kst (Out.st rfl) rfl | refine Out.ite ?_ rfl | refine Out.itf ?_ rfl | refine Out.stf ?_ rfl))))
    rw [hfold _ _ hmv]
    unfold lowC
    rw [if_pos (by assumption)]
    exact hst hA hmr
  · refine endK2 (σ := NS) cc (by k_asm) N' (fun p hp => (show p ∈ ((D0, cc.o) :: (Pl, _) :: (D2, o2) :: cc.ks) ++ own from List.mem_append_right _ hp)) (fun p hp => (show p ∈ ((D0, cc.o) :: (Pl, _) :: (D2, o2) :: cc.ks) ++ own from List.mem_append_left _ hp)) ⟨hT, ?_, hI, hsub, hlt⟩ (fun _ h => nomatch h) (by ((repeat (first | exact Out.st rfl | exact Out.kst (Out.st rfl) rfl | refine Out.ite ?_ rfl | refine Out.itf ?_ rfl | refine Out.stf ?_ rfl))))
    rw [hfold _ _ hmv]
    unfold lowC
    rw [if_neg (fun z => z (by assumption))]
    exact hA
  · refine if_back0 (by k_asm) (news' := (D0, o0) :: (Pl, _) :: (D2, o2) :: [_]) (news_keep N9 (by k_mem) K9 (by ((repeat (refine nmem_cons (by first | omega | ((try dsimp only); omega)) ?_)); exact nmem_nil)) (news_new N9 (by k_mem) hg9 (news_keep N9 (by k_mem) K9 (by ((repeat (refine nmem_cons (by first | omega | ((try dsimp only); omega)) ?_)); exact nmem_nil)) (news_keep N9 (.head _) K9 (by ((repeat (refine nmem_cons (by first | omega | ((try dsimp only); omega)) ?_)); exact nmem_nil)) News.nil)))) ⟨_, _, [_], rfl, by simp, ?_, noIt_cons (by rfl) noIt_nil, List.forall_mem_cons.mpr ⟨by (show D2 < _); omega, List.forall_mem_nil _⟩⟩
    exact prs_set hpr (by omega) (by omega) (by omega) (by omega) (by assumption) (.cons _ _ (.cons _ _ .nil))
  · refine if_back0 (by k_asm) (by k_asm) ⟨_, _, [], rfl, rfl, ?_, noIt_nil, fun _ h => nomatch h⟩
    unfold addK; rw [if_neg (fun z => z.2 (by assumption)), List.append_nil]; exact hpr
  · refine if_back0 (by k_asm) (by k_asm) ⟨_, _, [], rfl, rfl, ?_, noIt_nil, fun _ h => nomatch h⟩
    unfold addK; rw [if_neg (fun z => by omega), List.append_nil]; exact hpr
end
section
theorem on_Q0 : True := by
  k_with_none
  k_with "om2" => (lia)
  trivial
/-! sorted, over tuples of ints -/
section
variable {n : Nat}
def AllK (n : Nat) {α : Type} (P : α → Prop) : KasT α → Prop
  | .ret a => P a
  | .ask i j k => i < n ∧ j < n ∧ ∀ b, AllK n P (k b)
theorem AllK.bind {α β : Type} {P : α → Prop} {Q : β → Prop} {f : α → KasT β} : ∀ (t : KasT α), AllK n P t → (∀ a, P a → AllK n Q (f a)) → AllK n Q (t.bind f)
  | .ret a, h, hf => hf a h
  | .ask _ _ k, h, hf => ⟨h.1, h.2.1, fun b => AllK.bind (k b) (h.2.2 b) hf⟩
theorem AllK.wp {α : Type} {P : α → Prop} {cmp : Nat → Nat → (Bool → Shared → Prop) → Shared → Prop} {Q : α → Shared → Prop} {s : Shared} (hc : ∀ i j, i < n → j < n → ∀ C, (∀ b, C b s) → cmp i j C s) : ∀ (t : KasT α), AllK n P t → (∀ a, P a → Q a s) → t.kasWp cmp Q s
  | .ret a, h, hq => hq a h
  | .ask i j k, h, hq => hc i j h.1 h.2.1 _ fun b => AllK.wp hc (k b) (h.2.2 b) hq
def Pm (n : Nat) (p : Array Nat) : Prop := p.Perm (List.toArray (List.range n))
theorem Pm.size {p : Array Nat} (h : Pm n p) : p.size = n := by have := h.size_eq; simpa using this
theorem Pm.lt {p : Array Nat} (h : Pm n p) {i : Nat} (hi : i < n) : p.getD i 0 < n := by
  have hs := h.size
  have h1 : p.getD i 0 ∈ p.toList := by
    rw [Array.getD_eq_getD_getElem?, Array.getElem?_eq_getElem (by omega)]
    simp
  have h2 := (Array.perm_iff_toList_perm.mp h).mem_iff.mp h1
  simpa using h2
theorem all_asc {p : Array Nat} (h : Pm n p) : ∀ (f m : Nat), 1 ≤ m → m + f ≤ n → AllK n (fun r => m ≤ r ∧ r ≤ m + f) (kas_asc p f m)
  | 0, m, _, _ => ⟨Nat.le_refl _, Nat.le_refl _⟩
  | f + 1, m, h1, h2 => by
    refine ⟨h.lt (by omega), h.lt (by omega), fun b => ?_⟩
    cases b with
    | true => exact ⟨Nat.le_refl _, Nat.le_add_right _ _⟩
    | false =>
      refine (show AllK n _ (kas_asc p f (m + 1)) from ?_)
      have := all_asc h f (m + 1) (by omega) (by omega)
      refine imp _ this fun r hr => ⟨by omega, by omega⟩
where
  imp {α : Type} {P Q : α → Prop} : ∀ (t : KasT α), AllK n P t → (∀ a, P a → Q a) → AllK n Q t
    | .ret a, h, hq => hq a h
    | .ask _ _ k, h, hq => ⟨h.1, h.2.1, fun b => imp (k b) (h.2.2 b) hq⟩
theorem all_desc : ∀ (f : Nat) {p : Array Nat} (m q : Nat), Pm n p → 1 ≤ m → m + f ≤ n → AllK n (fun r : Array Nat × Nat × Nat => Pm n r.1 ∧ 1 ≤ r.2.1 ∧ r.2.1 ≤ n) (kas_desc f p m q)
  | 0, _, m, _, h, h1, h2 => ⟨h, h1, by show m ≤ n; omega⟩
  | f + 1, p, m, q, h, h1, h2 => by
    refine ⟨h.lt (by omega), h.lt (by omega), fun b => ?_⟩
    cases b with
    | true =>
      show AllK n _ (if q > 0 then kas_desc f (kas_rev p (m - (q + 1)) m) (m + 1) 0 else kas_desc f p (m + 1) 0)
      split
      · exact all_desc f (m + 1) 0 ((mirror_perm _ _ _ _).trans h) (by omega) (by omega)
      · exact all_desc f (m + 1) 0 h (by omega) (by omega)
    | false =>
      refine ⟨h.lt (by omega), h.lt (by omega), fun b => ?_⟩
      cases b with
      | true => exact ⟨h, h1, by show m ≤ n; omega⟩
      | false => exact all_desc f (m + 1) (q + 1) h (by omega) (by omega)
theorem all_tail {p : Array Nat} (h : Pm n p) {m : Nat} (h1 : 1 ≤ m) (h2 : m ≤ n) : AllK n (fun r : Nat × Array Nat => Pm n r.2 ∧ r.1 ≤ n) (kas_tail3 m n p) := by
  unfold kas_tail3
  refine AllK.bind _ (all_asc ((mirror_perm _ _ _ _).trans h) (n - m) m h1 (by omega)) fun r hr => ⟨(mirror_perm _ _ _ _).trans h, by show r ≤ n; omega⟩
theorem all_descPart {p : Array Nat} (h : Pm n p) {m : Nat} (h1 : 1 ≤ m) (h2 : m < n) : AllK n (fun r : Nat × Array Nat => Pm n r.2 ∧ r.1 ≤ n) (kas_descPart m n p) := by
  unfold kas_descPart
  refine AllK.bind _ (all_desc (n - (m + 1)) (m + 1) 0 h (by omega) (by omega)) fun r hr => ?_
  split
  · exact all_tail ((mirror_perm _ _ _ _).trans hr.1) hr.2.1 hr.2.2
  · exact all_tail hr.1 hr.2.1 hr.2.2
theorem all_count {p : Array Nat} (h : Pm n p) (h1 : 1 ≤ n) : AllK n (fun r : Nat × Array Nat => Pm n r.2 ∧ r.1 ≤ n) (kas_count n p) := by
  unfold kas_count
  refine AllK.bind _ (all_asc h (n - 1) 1 (by omega) (by omega)) fun r hr => ?_
  by_cases e : (r == n) = true
  · rw [if_pos e]; exact ⟨h, by show r ≤ n; omega⟩
  · rw [if_neg e]
    have hne : r ≠ n := fun q => e (by rw [q]; exact beq_self_eq_true _)
    split
    · refine ⟨h.lt (by omega), h.lt (by omega), fun b => ?_⟩
      cases b with
      | true => exact ⟨h, by show r ≤ n; omega⟩
      | false => exact all_descPart ((mirror_perm _ _ _ _).trans h) (by omega) (by omega)
    · exact all_descPart h (by omega) (by omega)
theorem all_place {p : Array Nat} (h : Pm n p) {k : Nat} (hk : k < n) : ∀ (f l r : Nat), r ≤ k → AllK n (fun _ => True) (kas_place p k f l r)
  | 0, _, _, _ => trivial
  | f + 1, l, r, h1 => by
    unfold kas_place
    split
    · exact trivial
    · refine ⟨h.lt hk, h.lt (by omega), fun b => ?_⟩
      cases b with
      | true => exact all_place h hk f l _ (by omega)
      | false => exact all_place h hk f _ r h1
theorem all_bin : ∀ (f : Nat) {p : Array Nat} (k : Nat), Pm n p → k + f ≤ n → AllK n (Pm n) (kas_bin f p k)
  | 0, _, _, h, _ => h
  | f + 1, p, k, h, h1 => by
    unfold kas_bin
    exact AllK.bind _ (all_place h (by omega) k 0 k (Nat.le_refl _)) fun l _ => all_bin f (k + 1) ((bubble_perm _ _ _).trans h) (by omega)
theorem all_sort (h1 : 1 ≤ n) : AllK n (Pm n) (kas_sort n) := by
  unfold kas_sort
  refine AllK.bind _ (all_count (Array.Perm.refl _) h1) fun r hr => ?_
  split
  · exact all_bin _ _ hr.1 (by omega)
  · exact hr.1
/-- two or three, told by what is less -/
theorem sort2 {cmp : Nat → Nat → (Bool → Shared → Prop) → Shared → Prop} {Q : Array Nat → Shared → Prop} {s : Shared} (lt : Nat → Nat → Bool) (hc : ∀ i j, i < 2 → j < 2 → ∀ C : Bool → Shared → Prop, C (lt i j) s → cmp i j C s)
    (ha : ∀ i j, lt i j = true → lt j i = false) (hq : ∀ p : Array Nat, (∃ i j, p.toList = [i, j] ∧ [i, j].Perm [0, 1] ∧ lt j i = false) → Q p s) : (kas_sort 2).kasWp cmp Q s := by
  refine hc 1 0 (by decide) (by decide) _ ?_
  cases h : lt 1 0 with
  | false => exact hq _ ⟨0, 1, rfl, by decide, h⟩
  | true => exact hq _ ⟨1, 0, rfl, by decide, ha _ _ h⟩
/-- i, j, k in order -/
def In3 (lt : Nat → Nat → Bool) (p : Array Nat) : Prop := ∃ i j k, p.toList = [i, j, k] ∧ [i, j, k].Perm [0, 1, 2] ∧ lt j i = false ∧ lt k j = false
theorem sort3 {cmp : Nat → Nat → (Bool → Shared → Prop) → Shared → Prop} {Q : Array Nat → Shared → Prop} {s : Shared} (lt : Nat → Nat → Bool) (hc : ∀ i j, i < 3 → j < 3 → ∀ C : Bool → Shared → Prop, C (lt i j) s → cmp i j C s)
    (ha : ∀ i j, lt i j = true → lt j i = false) (hd : ∀ i j, i < 3 → j < 3 → i ≠ j → lt i j = false → lt j i = true) (hq : ∀ p : Array Nat, In3 lt p → Q p s) : (kas_sort 3).kasWp cmp Q s := by
  refine hc 1 0 (by decide) (by decide) _ ?_
  cases h10 : lt 1 0 with
  | false =>
    refine hc 2 1 (by decide) (by decide) _ ?_
    cases h21 : lt 2 1 with
    | false => exact hq _ ⟨0, 1, 2, rfl, by decide, h10, h21⟩
    | true =>
      have h01 := hd 1 0 (by decide) (by decide) (by decide) h10
      refine hc 0 1 (by decide) (by decide) _ ?_
      rw [h01]
      refine hc 2 1 (by decide) (by decide) _ ?_
      rw [h21]
      refine hc 2 0 (by decide) (by decide) _ ?_
      cases h20 : lt 2 0 with
      | false => exact hq _ ⟨0, 2, 1, rfl, by decide, h20, ha _ _ h21⟩
      | true => exact hq _ ⟨2, 0, 1, rfl, by decide, ha _ _ h20, h10⟩
  | true =>
    refine hc 2 1 (by decide) (by decide) _ ?_
    cases h21 : lt 2 1 with
    | true => exact hq _ ⟨2, 1, 0, rfl, by decide, ha _ _ h21, ha _ _ h10⟩
    | false =>
      have h12 := hd 2 1 (by decide) (by decide) (by decide) h21
      refine hc 1 2 (by decide) (by decide) _ ?_
      rw [h12]
      refine hc 2 0 (by decide) (by decide) _ ?_
      cases h20 : lt 2 0 with
      | true =>
        refine hc 2 0 (by decide) (by decide) _ ?_
        rw [h20]
        refine hc 2 1 (by decide) (by decide) _ ?_
        rw [h21]
        exact hq _ ⟨1, 2, 0, rfl, by decide, h21, ha _ _ h20⟩
      | false => exact hq _ ⟨1, 0, 2, rfl, by decide, ha _ _ h10, h20⟩
end
/-! tuples compared -/
section
variable {prog : Program} {w : World} {A : Around} {E : Value → Shared → Prop} {s : Shared}
def lex : List Int → List Int → Bool
  | [], [] => false
  | [], _ => true
  | _, [] => false
  | a :: x, b :: y => if a == b then lex x y else decide (a < b)
theorem kat_ints (Q : Bool → Shared → Prop) {ns ms : List Int} {vs ws : List Value} (hv : IntsAre vs ns) (hw : IntsAre ws ms) (hl : ns.length = ms.length) (i : Nat) (h : Q (lex ns ms) s) : KatLex prog w A true false Q (vs.zip ws) i s := by
  induction hv generalizing i ws ms with
  | nil =>
    cases hw with
    | nil => exact h
    | cons _ _ _ => simp at hl
  | @cons a t vs ns h1 ih =>
    cases hw with
    | nil => simp at hl
    | @cons b u ws ms h2 =>
      refine kat_cons (wpAny_eqBool_int ?_)
      unfold lex at h
      cases e : (a == b) with
      | true =>
        rw [e] at h
        exact kat_yes (ih h2 (by simpa using hl) (i + 1) h)
      | false =>
        rw [e] at h
        refine kat_no ?_
        cases q : (true && i == 0) with
        | true => exact oneLt_int h
        | false => exact kat_one _ _ (lt_int (by (try unfold BoolBack); exact h))
theorem kat_ltI {Q : Bool → Shared → Prop} {x y : Addr} {vs ws : List Value} {ns ms : List Int} (hx : s.heap.get? x = some (tupO vs)) (hy : s.heap.get? y = some (tupO ws)) (hv : IntsAre vs ns) (hw : IntsAre ws ms) (hl : ns.length = ms.length) (h : Q (lex ns ms) s) :
    wpAny (model prog w) A (keyLt' (tuples' true) (.ref x) (.ref y)) Q E s := by
  refine kat_lt hx rfl hy rfl ?_
  have e : decide (vs.toArray.size < ws.toArray.size) = false := by
    have h1 := hv.length
    have h2 := hw.length
    simp
    omega
  rw [e]
  exact kat_ints Q hv hw hl 0 h
end
section
variable {prog : Program} {w : World} {A : Around} {E : Value → Shared → Prop} {s : Shared} {g : Heap} {L : Addr} {m : Str → Option Value} {news : List (Addr × Obj)} {vs : List Value}
/-- a list of one or none: nothing is asked -/
theorem sort_few {a : Addr} {n : Nat} {P : PySem.Fin → Shared → Prop} (ho : s.heap.get? a = some (seqObj "list" vs.toArray n)) (h2 : vs.length < 2)
    (h : ∀ h' c, (∀ b o, b ≠ a → s.heap.get? b = some o → h'.get? b = some o) → h'.get? a = some (seqObj "list" vs.toArray c) → P (.done (.ret .none)) { s with heap := h' }) :
    wpAny (model prog w) A (Builtin.«list.sort» ⟨[.ref a], []⟩) P E s := by
  have ha : a < s.heap.objs.size := Heap.lt_size ho
  have s1 := Heap.SameBut.update s.heap a (Obj.mapSeq fun _ => (#[] : Array Value))
  obtain ⟨e1, ho1⟩ : ∃ e1, (s.heap.update a (Obj.mapSeq fun _ => (#[] : Array Value))).get? a = some (seqObj "list" #[] e1) := ⟨_, get?_update_seq ho fun _ => #[]⟩
  have ho3 : (((s.heap.update a (Obj.mapSeq fun _ => (#[] : Array Value))).push (seqObj "tuple" vs.toArray 0)).push (seqObj "list" #[] 0)).get? a = some (seqObj "list" #[] e1) := Heap.get?_push_of_some _ (Heap.get?_push_of_some _ ho1)
  have k3 : ∀ b o, b ≠ a → s.heap.get? b = some o → (((s.heap.update a (Obj.mapSeq fun _ => (#[] : Array Value))).push (seqObj "tuple" vs.toArray 0)).push (seqObj "list" #[] 0)).get? b = some o := fun b o hb e =>
    Heap.get?_push_of_some _ (Heap.get?_push_of_some _ ((s1.2 b hb).trans e))
  rw [list_sort_plain]
  refine wpAny_bind (listItems_at ho rfl ?_)
  refine wpAny_bind (listUpdate_at ho rfl ?_ (by rw [List.size_toArray, sizeLine_eq]; omega) (Nat.zero_le _))
  refine wpAny_bind (seqEpoch_at ho1 rfl ?_)
  refine wpAny_bind (wpAny_newTuple ?_ (by show vs.length ≤ _; rw [sizeLine_eq]; omega))
  refine wpAny_bind (wpAny_newList ?_ (Nat.zero_le _))
  refine wpAny_holding ?_
  show wpAny (model prog w) A _ P E { s with heap := ((s.heap.update a (Obj.mapSeq fun _ => (#[] : Array Value))).push (seqObj "tuple" vs.toArray 0)).push (seqObj "list" #[] 0) }
  dsimp only
  have hn2 : vs.toArray.size < 2 := by rw [List.size_toArray]; omega
  rw [if_pos hn2, if_pos hn2]
  refine wpAny_bind (wpAny_pure ?_)
  rw [StateT.run_pure]
  refine wpAny_bind (wpAny_pure ?_)
  dsimp only
  have hz : (arrOf (SortSt.mk' general' (vs.toArray.zip vs.toArray) #[] 7 none)).map (·.2) = vs.toArray := by
    show (vs.toArray.zip vs.toArray).map (·.2) = vs.toArray
    apply Array.toList_inj.mp
    simp [List.map_snd_zip]
  refine wpAny_bind (seqEpoch_at ho3 rfl ?_)
  rw [hz]
  refine wpAny_bind (listUpdate_at ho3 rfl ?_ (Nat.zero_le _) (by rw [List.size_toArray, sizeLine_eq]; omega))
  simp only [bne_self_eq_false, Bool.false_eq_true, if_false]
  have s4 := Heap.SameBut.update (((s.heap.update a (Obj.mapSeq fun _ => (#[] : Array Value))).push (seqObj "tuple" vs.toArray 0)).push (seqObj "list" #[] 0)) a (Obj.mapSeq fun _ => vs.toArray)
  exact wpAny_pure (h _ _ (fun b o hb e => (s4.2 b hb).trans (k3 b o hb e)) (get?_update_seq ho3 fun _ => vs.toArray))
end
abbrev TU := Addr × List Value × List Int
def tu0 : TU := (0, [], [])
def tuR (u : TU) : Value := .ref u.1
def keyA (us : List TU) (i : Nat) : List Int := (us.getD i tu0).2.2
section
variable {prog : Program} {w : World} {A : Around} {E : Value → Shared → Prop} {s : Shared} {g : Heap} {L : Addr} {m : Str → Option Value} {news : List (Addr × Obj)} {us : List TU} {l : Addr} {k : Nat}
theorem tu_get {i : Nat} (h : i < us.length) : (us.map tuR).getD i Value.none = .ref (us.getD i tu0).1 := by
  rw [List.getD_eq_getElem?_getD, List.getElem?_map, List.getD_eq_getElem?_getD, List.getElem?_eq_getElem h]; rfl
theorem tu_mem {i : Nat} (h : i < us.length) : us.getD i tu0 ∈ us := by
  rw [List.getD_eq_getElem?_getD, List.getElem?_eq_getElem h]; exact List.getElem_mem h
theorem tu_map {p : Array Nat} (h : ∀ i ∈ p.toList, i < us.length) : (p.toList.map fun i => (us.map tuR).getD i Value.none) = (p.toList.map fun i => us.getD i tu0).map tuR := by
  rw [List.map_map]
  exact List.map_congr_left fun i hi => tu_get (h i hi)
theorem kat_tups_of {h : Heap} : ∀ {us : List TU}, (∀ u ∈ us, h.get? u.1 = some (tupO u.2.1)) → (∀ u ∈ us, IntsAre u.2.1 u.2.2) → (∀ u ∈ us, u.2.2.length = k + 1) → ∃ fs ns, KatTups h (us.map tuR) fs ∧ IntsAre fs ns ∧ fs.length = us.length
  | [], _, _, _ => ⟨[], [], .nil, .nil, rfl⟩
  | u :: us, h1, h2, h3 => by
    obtain ⟨fs, ns, a, b, c⟩ := kat_tups_of (us := us) (fun v hv => h1 v (.tail _ hv)) (fun v hv => h2 v (.tail _ hv)) fun v hv => h3 v (.tail _ hv)
    have hi := h2 u (.head _)
    have hlen := h3 u (.head _)
    have hg := h1 u (.head _)
    revert hi hlen hg
    generalize u.2.1 = vs
    generalize u.2.2 = ks
    intro hi hlen hg
    cases hi with
    | nil => simp at hlen
    | @cons n t vs ns' hr => exact ⟨.int n t :: fs, n :: ns, .cons hg rfl rfl rfl a, .cons _ _ b, by simp [c]⟩
theorem looks_int {M : Model} {h : Heap} {fs : List Value} {ns : List Int} (hi : IntsAre fs ns) : ∀ v ∈ fs, Looks M h (typeOf v) (.type "int") := by
  induction hi with
  | nil => exact fun _ h => nomatch h
  | cons n t _ ih => exact fun v hv => (List.mem_cons.mp hv).elim (fun e => e ▸ Looks.of_pure rfl) (ih v)
theorem sorted_core {Q : Value → Shared → Prop} {R : Array Nat → Prop} (F : Fr g L s.heap m) (N : News g L s.heap news) (hl : s.heap.IsList l (us.map tuR).toArray) (h64 : us.length < 64) (h2 : 2 ≤ us.length)
    (hT : ∀ h, Fr g L h m → News g L h news → ∀ u ∈ us, h.get? u.1 = some (tupO u.2.1)) (hI : ∀ u ∈ us, IntsAre u.2.1 u.2.2) (hk : ∀ u ∈ us, u.2.2.length = k + 1)
    (hR : ∀ (cmp : Nat → Nat → (Bool → Shared → Prop) → Shared → Prop) (Q : Array Nat → Shared → Prop) (s : Shared), (∀ i j, i < us.length → j < us.length → ∀ C : Bool → Shared → Prop, C (lex (keyA us i) (keyA us j)) s → cmp i j C s) → (∀ p, R p → Q p s) → (kas_sort us.length).kasWp cmp Q s)
    (hRp : ∀ p, R p → ∀ i ∈ p.toList, i < us.length)
    (h : ∀ D c h' p, R p → Fr g L h' m → News g L h' ((D, listOf ((p.toList.map fun i => us.getD i tu0).map tuR).toArray c) :: news) → (∀ q ∈ news, q.1 < D) → Q (.ref D) { s with heap := h' }) :
    wpAny (model prog w) A (call (.builtin "sorted") [.ref l]) Q E s := by
  refine kat_sorted F N hl (by simpa using h2) (by simpa using h64) fun D e1 h' F' N' hlt => ?_
  have hT' := hT h' F' fun p hp => N' p (.tail _ hp)
  obtain ⟨fs, ns, ht, hf, hlen⟩ := kat_tups_of hT' hI hk
  refine kat_kind (T := .type "int") ht (by omega) (looks_int hf) (by decide) ?_
  rw [List.length_map]
  refine hR _ _ _ (fun i j hi hj C hC => ?_) fun p hp => ?_
  · unfold kas_ask
    rw [tu_get hi, tu_get hj]
    exact kat_ltI (hT' _ (tu_mem hi)) (hT' _ (tu_mem hj)) (hI _ (tu_mem hi)) (hI _ (tu_mem hj)) ((hk _ (tu_mem hi)).trans (hk _ (tu_mem hj)).symm) hC
  · rw [tu_map (hRp p hp)]
    exact KasFin.intro F' N' (.head fun q hq => Nat.ne_of_lt (hlt q hq)) fun h'' c F'' N'' => h D c h'' p hp F'' N'' hlt
theorem sorted_few {Q : Value → Shared → Prop} {vs : List Value} (F : Fr g L s.heap m) (N : News g L s.heap news) (hl : s.heap.IsList l vs.toArray) (h2 : vs.length < 2)
    (h : ∀ D c h', Fr g L h' m → News g L h' ((D, listOf vs.toArray c) :: news) → (∀ q ∈ news, q.1 < D) → Q (.ref D) { s with heap := h' }) :
    wpAny (model prog w) A (call (.builtin "sorted") [.ref l]) Q E s := by
  refine Calls.call_function_entry kind_sorted plain_sorted entry_sorted (args_sorted1 _) ?_
  unfold Builtin.«sorted»
  refine wpAny_bind (m := checkCount "sorted" 1 1 _) (wpAny_pure ?_)
  refine wpAny_bind (collect_list hl ?_ (by rw [sizeLine_eq]; omega))
  refine wpAny_bind (wpAny_newList ?_ (by rw [sizeLine_eq]; omega))
  have hsz : ((s.heap.push (seqObj "list" #[] 0)).update s.heap.objs.size (Obj.mapSeq (· ++ vs.toArray))).objs.size = s.heap.objs.size + 1 := by
    rw [Heap.size_update, size_push']
  have hoL : (((s.heap.push (seqObj "list" #[] 0)).update s.heap.objs.size (Obj.mapSeq (· ++ vs.toArray))).push (seqObj "list" vs.toArray 0)).get? (s.heap.objs.size + 1) = some (seqObj "list" vs.toArray 0) := by
    rw [← hsz]; exact Heap.get?_push_size _ rfl
  have keep : ∀ b o, s.heap.get? b = some o → (((s.heap.push (seqObj "list" #[] 0)).update s.heap.objs.size (Obj.mapSeq (· ++ vs.toArray))).push (seqObj "list" vs.toArray 0)).get? b = some o := fun b o q => by
    have hlt : b < s.heap.objs.size := Heap.lt_size q
    rw [Heap.get?_push_ne _ _ _ (by rw [hsz]; exact Nat.ne_of_lt (Nat.lt_succ_of_lt hlt)), Heap.get?_update_ne _ _ _ _ (Nat.ne_of_lt hlt), Heap.get?_push_ne _ _ _ (Nat.ne_of_lt hlt)]
    exact q
  have hL : L < s.heap.objs.size := F.ns.lt
  show wpAny _ _ _ _ _ { s with heap := ((s.heap.push (seqObj "list" #[] 0)).update s.heap.objs.size (Obj.mapSeq (· ++ vs.toArray))).push (seqObj "list" vs.toArray 0) }
  rw [hsz]
  refine wpAny_bind (wpAny_holding (wpAny_call_entry slot_list_sort ⟨_, hoL, rfl⟩ entry_list_sort (sort_few hoL h2 fun h' c k' hg => ⟨_, rfl, ?_⟩) (args_list_sort _)))
  have k2 : ∀ b o, s.heap.get? b = some o → h'.get? b = some o := fun b o e => k' b o (Nat.ne_of_lt (Nat.lt_succ_of_lt (Heap.lt_size e))) (keep b o e)
  refine wpAny_pure ⟨_, rfl, h _ c h' (F.keeps k2) (fun p hp => ?_) fun q hq => Nat.lt_succ_of_lt (Heap.lt_size (N q hq).1)⟩
  rcases List.mem_cons.mp hp with rfl | hp
  · exact ⟨hg, Nat.ne_of_gt (Nat.lt_succ_of_lt hL), Heap.get?_none_of_le (Nat.le_trans F.above (Nat.le_succ_of_le (Nat.le_of_lt hL)))⟩
  · exact (N.grown k2) p hp
end
theorem range_getD (us : List TU) : (List.range us.length).map (fun i => us.getD i tu0) = us := by
  apply List.ext_getElem?
  intro i
  rw [List.getElem?_map]
  by_cases h : i < us.length
  · rw [List.getElem?_range h, List.getElem?_eq_getElem h, Option.map_some, List.getD_eq_getElem?_getD, List.getElem?_eq_getElem h]; rfl
  · rw [List.getElem?_eq_none (by simp; omega), List.getElem?_eq_none (by omega)]; rfl
theorem lex_asymm : ∀ x y : List Int, lex x y = true → lex y x = false
  | [], [], h => by simp [lex] at h
  | [], _ :: _, _ => rfl
  | _ :: _, [], h => by simp [lex] at h
  | a :: x, b :: y, h => by
    unfold lex at h ⊢
    by_cases e : a = b
    · subst e
      simp only [beq_self_eq_true, if_true] at h ⊢
      exact lex_asymm x y h
    · have e' : ¬ b = a := fun q => e q.symm
      simp only [beq_iff_eq, e, e', if_false, decide_eq_true_eq, decide_eq_false_iff_not] at h ⊢
      omega
theorem lex_total : ∀ x y : List Int, x.length = y.length → x ≠ y → lex x y = false → lex y x = true
  | [], [], _, h, _ => absurd rfl h
  | [], _ :: _, hl, _, _ => by simp at hl
  | _ :: _, [], hl, _, _ => by simp at hl
  | a :: x, b :: y, hl, hne, h => by
    unfold lex at h ⊢
    by_cases e : a = b
    · subst e
      simp only [beq_self_eq_true, if_true] at h ⊢
      exact lex_total x y (by simpa using hl) (fun q => hne (by rw [q])) h
    · have e' : ¬ b = a := fun q => e q.symm
      simp only [beq_iff_eq, e, e', if_false, decide_eq_true_eq, decide_eq_false_iff_not] at h ⊢
      omega
def Adj (us : List TU) : Prop := ∀ i, i + 1 < us.length → lex (keyA us (i + 1)) (keyA us i) = false
section
variable {prog : Program} {w : World} {A : Around} {E : Value → Shared → Prop} {s : Shared} {g : Heap} {L : Addr} {m : Str → Option Value} {news : List (Addr × Obj)} {us : List TU} {l : Addr} {k : Nat}
theorem sorted_perm {Q : Value → Shared → Prop} (F : Fr g L s.heap m) (N : News g L s.heap news) (hl : s.heap.IsList l (us.map tuR).toArray) (h64 : us.length < 64)
    (hT : ∀ h, Fr g L h m → News g L h news → ∀ u ∈ us, h.get? u.1 = some (tupO u.2.1)) (hI : ∀ u ∈ us, IntsAre u.2.1 u.2.2) (hk : ∀ u ∈ us, u.2.2.length = k + 1)
    (h : ∀ D c h' (us' : List TU), us'.Perm us → Fr g L h' m → News g L h' ((D, listOf (us'.map tuR).toArray c) :: news) → (∀ q ∈ news, q.1 < D) → Q (.ref D) { s with heap := h' }) :
    wpAny (model prog w) A (call (.builtin "sorted") [.ref l]) Q E s := by
  by_cases h2 : 2 ≤ us.length
  · refine sorted_core (R := Pm us.length) F N hl h64 h2 hT hI hk (fun cmp Q s hc hq => AllK.wp (fun i j hi hj C hC => hc i j hi hj C (hC _)) _ (all_sort (by omega)) hq) (fun p hp i hi => ?_) fun D c h' p hp F' N' hlt => h D c h' _ ?_ F' N' hlt
    · have := (Array.perm_iff_toList_perm.mp hp).mem_iff.mp hi
      simpa using this
    · have := (Array.perm_iff_toList_perm.mp hp).map fun i => us.getD i tu0
      rw [show (List.toArray (List.range us.length)).toList = List.range us.length from rfl, range_getD] at this
      exact this
  · exact sorted_few F N hl (by simp; omega) fun D c h' F' N' hlt => h D c h' us (List.Perm.refl _) F' N' hlt
theorem sorted_exact {Q : Value → Shared → Prop} (F : Fr g L s.heap m) (N : News g L s.heap news) (hl : s.heap.IsList l (us.map tuR).toArray) (h3 : us.length ≤ 3) (hnd : (us.map (·.2.2)).Nodup)
    (hT : ∀ h, Fr g L h m → News g L h news → ∀ u ∈ us, h.get? u.1 = some (tupO u.2.1)) (hI : ∀ u ∈ us, IntsAre u.2.1 u.2.2) (hk : ∀ u ∈ us, u.2.2.length = k + 1)
    (h : ∀ D c h' (us' : List TU), us'.Perm us → Adj us' → Fr g L h' m → News g L h' ((D, listOf (us'.map tuR).toArray c) :: news) → (∀ q ∈ news, q.1 < D) → Q (.ref D) { s with heap := h' }) :
    wpAny (model prog w) A (call (.builtin "sorted") [.ref l]) Q E s := by
  have ha : ∀ i j, lex (keyA us i) (keyA us j) = true → lex (keyA us j) (keyA us i) = false := fun i j => lex_asymm _ _
  have hd : ∀ i j, i < us.length → j < us.length → i ≠ j → lex (keyA us i) (keyA us j) = false → lex (keyA us j) (keyA us i) = true := fun i j hi hj hne => by
    refine lex_total _ _ ((hk _ (tu_mem hi)).trans (hk _ (tu_mem hj)).symm) fun e => hne ?_
    have e1 : ∀ i, i < us.length → (us.map (·.2.2))[i]? = some (keyA us i) := fun i hi => by
      unfold keyA
      rw [List.getElem?_map, List.getD_eq_getElem?_getD, List.getElem?_eq_getElem hi]; rfl
    exact (List.getElem?_inj (by simpa using hi) hnd).mp ((e1 i hi).trans (e ▸ (e1 j hj).symm))
  have hperm : ∀ l : List Nat, l.Perm (List.range us.length) → (l.map fun i => us.getD i tu0).Perm us := fun l hl => by
    have := hl.map fun i => us.getD i tu0
    rwa [range_getD] at this
  have hka : ∀ (l : List Nat) (i : Nat), i < l.length → keyA (l.map fun i => us.getD i tu0) i = keyA us (l.getD i 0) := fun l i hi => by
    unfold keyA
    rw [List.getD_eq_getElem?_getD, List.getElem?_map, List.getElem?_eq_getElem hi, Option.map_some, Option.getD_some, List.getD_eq_getElem?_getD (l := l), List.getElem?_eq_getElem hi, Option.getD_some]
  by_cases h2 : us.length = 3
  · refine sorted_core (R := In3 fun i j => lex (keyA us i) (keyA us j)) F N hl (by omega) (by omega) hT hI hk (fun cmp Q s hc hq => ?_) (fun p hp i hi => ?_) fun D c h' p hp F' N' hlt => h D c h' _ ?_ ?_ F' N' hlt
    · rw [h2] at hc hd ⊢
      exact sort3 _ hc ha hd hq
    · obtain ⟨i1, j1, k1, e, hp, _⟩ := hp
      rw [e] at hi
      have := hp.mem_iff.mp hi
      simp at this
      omega
    · obtain ⟨i1, j1, k1, e, hp, _⟩ := hp
      rw [e]
      exact hperm _ (by rw [h2]; exact hp)
    · obtain ⟨i1, j1, k1, e, hp, q1, q2⟩ := hp
      rw [e]
      intro i hi
      simp only [List.length_map, List.length_cons, List.length_nil] at hi
      rw [hka _ _ (by simp; omega), hka _ _ (by simp; omega)]
      have : i = 0 ∨ i = 1 := by omega
      rcases this with rfl | rfl
      · exact q1
      · exact q2
  · by_cases h2' : us.length = 2
    · refine sorted_core (R := fun p => ∃ i j, p.toList = [i, j] ∧ [i, j].Perm [0, 1] ∧ lex (keyA us j) (keyA us i) = false) F N hl (by omega) (by omega) hT hI hk (fun cmp Q s hc hq => ?_) (fun p hp i hi => ?_) fun D c h' p hp F' N' hlt => h D c h' _ ?_ ?_ F' N' hlt
      · rw [h2'] at hc hd ⊢
        exact sort2 (fun i j => lex (keyA us i) (keyA us j)) hc ha hq
      · obtain ⟨i1, j1, e, hp, _⟩ := hp
        rw [e] at hi
        have := hp.mem_iff.mp hi
        simp at this
        omega
      · obtain ⟨i1, j1, e, hp, _⟩ := hp
        rw [e]
        exact hperm _ (by rw [h2']; exact hp)
      · obtain ⟨i1, j1, e, hp, q1⟩ := hp
        rw [e]
        intro i hi
        simp only [List.length_map, List.length_cons, List.length_nil] at hi
        rw [hka _ _ (by simp; omega), hka _ _ (by simp; omega)]
        have : i = 0 := by omega
        subst this
        exact q1
    · exact sorted_few F N hl (by simp; omega) fun D c h' F' N' hlt => h D c h' us (List.Perm.refl _) (fun i hi => by omega) F' N' hlt
end
end
section
theorem on_Q1 : True := by
  k_with_none
  k_with "om2" => (lia)
  trivial
/-! the law's order: one sort of plain records -/
def markM (noisy : List Bool) (gains ps : List Int) (sc : Int → Int) (m : Int) : List Int :=
  if noisy.getD (m - 1).toNat false = true then [if gains.getD (m - 1).toNat 0 ≥ 0 then 1 else 4, -gains.getD (m - 1).toNat 0, m]
  else if m ∈ ps then [2, (ps.idxOf m : Nat), m] else [3, -sc m, m]
def tuE (u : TU) : Addr × Obj := (u.1, tupO u.2.1)
theorem noIt_U {T : List TU} : NoIt (T.map tuE) := fun p hp => by
  obtain ⟨x, _, rfl⟩ := List.mem_map.mp hp
  rfl
theorem my_append {prog : Program} {w : World} {A : Around} {E : Value → Shared → Prop} {s : Shared} {g : Heap} {L D : Addr} {m : Str → Option Value} {news : List (Addr × Obj)} {n : Nat} {vs : List Value} {v : Value} {Q : Value → Shared → Prop} (F : Fr g L s.heap m) (N : News g L s.heap news) (hm : (D, listOf vs.toArray n) ∈ news) (hz : vs.length ≤ 1000)
    (h : ∀ h', Fr g L h' m → Kept [D] s.heap h' → h'.get? D = some (listOf (vs ++ [v]).toArray (n + 1)) → Q .none { s with heap := h' }) : wpAny (model prog w) A (call (.builtin "list.append") [.ref D, v]) Q E s := by
  have z := N _ hm
  refine append_at (hsz := by rw [List.size_toArray, sizeLine_eq]; omega) z.1 fun h' hs ho' => h h' (F.change hs z.2.1 z.2.2) (kept_same' hs) ?_
  rw [ho']
  simp
theorem mark_key {noisy : List Bool} {gains ps : List Int} {sc : Int → Int} {m : Int} : (markM noisy gains ps sc m).getD 2 0 = m ∧ (markM noisy gains ps sc m).length = 3 := by
  unfold markM
  split
  · exact ⟨rfl, rfl⟩
  · split <;> exact ⟨rfl, rfl⟩
def AdjL (ms : List (List Int)) : Prop := ∀ i, i + 1 < ms.length → lex (ms.getD (i + 1) []) (ms.getD i []) = false
theorem range_small {n : Int} (h0 : 0 ≤ n) (h1 : n ≤ 100) : Builtin.Range.small 1 (n + 1) 1 = true := by
  have e : Builtin.Range.rangeSize 1 (n + 1) 1 = n := by
    unfold Builtin.Range.rangeSize
    simp
    omega
  unfold Builtin.Range.small Builtin.Range.rangeFitsLong
  rw [e]
  simp
  omega
theorem range_size {n : Int} (h0 : 0 ≤ n) : Builtin.Range.rangeSize 1 (n + 1) 1 = (n.toNat : Int) := by
  unfold Builtin.Range.rangeSize
  simp
  omega
theorem mk_push {g h h' : Heap} {L : Addr} {Mk ka n : Nat} {news : List (Addr × Obj)} {us : List TU} {vs : List Value} (N : News g L h news) (hm : (Mk, listOf (us.map tuR).toArray n) ∈ news) (hka : (ka, tupO vs) ∈ news) (hus : ∀ p ∈ us.map tuE, p ∈ news) (hne : ∀ u ∈ us, u.1 ≠ Mk) (hk : ka ≠ Mk) (K : Kept [Mk] h h')
    (hg : h'.get? Mk = some (listOf (us.map tuR ++ [Value.ref ka]).toArray (n + 1))) (ks : List Int) : News g L h' ((Mk, listOf ((us ++ [(ka, vs, ks)]).map tuR).toArray (n + 1)) :: (us ++ [(ka, vs, ks)]).map tuE) := by
  refine news_new N hm (by rw [List.map_append]; exact hg) ?_
  rw [List.map_append]
  refine news_app (news_chunk N hus K fun p hp => ?_) (news_keep N hka K (nmem_cons hk nmem_nil) News.nil)
  obtain ⟨u, hu, rfl⟩ := List.mem_map.mp hp
  exact nmem_cons (hne u hu) nmem_nil
theorem ints_inj {vs : List Value} {a b : List Int} (h1 : IntsAre vs a) (h2 : IntsAre vs b) : a = b := by
  induction h1 generalizing b with
  | nil => cases h2; rfl
  | cons n t _ ih => cases h2 with
    | cons m u h => rw [ih h]
theorem tup_is {h : Heap} {a : Addr} {vs : List Value} (q : h.get? a = some (tupO vs)) : IsTup h a vs.toArray := ⟨_, q, rfl, 0, rfl⟩
theorem tu_same {h : Heap} {u v : TU} (h1 : h.get? u.1 = some (tupO u.2.1)) (h2 : h.get? v.1 = some (tupO v.2.1)) (i1 : IntsAre u.2.1 u.2.2) (i2 : IntsAre v.2.1 v.2.2) (q : tuR u = tuR v) : u.2.2 = v.2.2 := by
  unfold tuR at q
  injection q with q
  rw [← q, h1] at h2
  have h2 := Option.some.inj h2
  unfold tupO at h2
  simp at h2
  rw [← h2] at i2
  exact ints_inj i1 i2
theorem my_methL {w : World} {A : Around} {E : Value → Shared → Prop} {s : Shared} {l : Addr} {vs : Array Value} {Q : Value × List Value → Shared → Prop} {pl : Sem Bool} (hl : s.heap.IsList l vs) (hn : ∃ n, s.heap.get? l = some (listOf vs n)) (h : Q (.builtin "list.index", [.ref l]) s) :
    wpAny (model PySem.Challenge.rw_nt0425_01.row.prog w) A (getMethod (.ref l) (Str.ofString "index") pl) Q E s :=
  getMethod_builtin hl.typeIs PySem.F.plainAttrs_list PySem.F.slot_list_index PySem.F.type_list_index (fun b e => by injection e with e; subst e; obtain ⟨n, hn⟩ := hn; exact ⟨_, hn, rfl⟩) h
theorem any_mem {ps : List Int} {k : Int} (h : (ps.any fun x => x == k) = true) : k ∈ ps := by
  obtain ⟨x, hx, e⟩ := List.any_eq_true.mp h
  exact (beq_iff_eq.mp e) ▸ hx
theorem any_not {ps : List Int} {k : Int} (h : (ps.any fun x => x == k) = false) : ¬ k ∈ ps := fun q => by
  rw [List.any_eq_false] at h
  exact h k q (beq_self_eq_true k)
theorem tups_at {g h : Heap} {L : Addr} {news : List (Addr × Obj)} {us : List TU} (N : News g L h news) (hs : ∀ p ∈ us.map tuE, p ∈ news) : ∀ u ∈ us, h.get? u.1 = some (tupO u.2.1) := fun u hu => (N _ (hs _ (List.mem_map_of_mem (f := tuE) hu))).1
theorem tups_at2 {g h : Heap} {L : Addr} {news : List (Addr × Obj)} {us us' : List TU} (N : News g L h news) (hs : ∀ p ∈ us.map tuE, p ∈ news) (hp : us'.Perm us) : ∀ u ∈ us', h.get? u.1 = some (tupO u.2.1) := fun u hu => tups_at N hs u (hp.mem_iff.mp hu)
theorem rangeKs_get {n i : Nat} (h : i < n) : (rangeKs 1 n)[i]? = some (1 + (i : Int)) := by
  unfold rangeKs
  rw [List.getElem?_map, List.getElem?_range h]; rfl
theorem forall_snoc {α : Type} {P : α → Prop} {l : List α} {x : α} (h : ∀ a ∈ l, P a) (hx : P x) : ∀ a ∈ l ++ [x], P a := fun a ha => (List.mem_append.mp ha).elim (h a) fun q => List.mem_singleton.mp q ▸ hx
theorem rangeKs_nodup (n : Nat) : (rangeKs 1 n).Nodup := by
  unfold rangeKs
  rw [List.nodup_iff_pairwise_ne, List.pairwise_map]
  exact (List.nodup_iff_pairwise_ne.mp List.nodup_range).imp fun h => by omega
theorem marks_nodup {noisy : List Bool} {gains ps : List Int} {sc : Int → Int} (n : Nat) : ((rangeKs 1 n).map (markM noisy gains ps sc)).Nodup := by
  rw [List.nodup_iff_pairwise_ne, List.pairwise_map]
  refine (List.nodup_iff_pairwise_ne.mp (rangeKs_nodup n)).imp fun {a b} h q => h ?_
  have := congrArg (fun x : List Int => x.getD 2 0) q
  simpa only [mark_key.1] using this
theorem ints_at2 {vs : List Value} {ns : List Int} {k : Nat} (h : IntsAre vs ns) (hk : k < ns.length) : ∃ t, vs[k]? = some (.int (ns.getD k 0) t) := h.get _ _ (by rw [List.getD_eq_getElem?_getD, List.getElem?_eq_getElem hk]; rfl)
theorem adj_keys {us : List TU} (h : Adj us) : AdjL (us.map (·.2.2)) := fun i hi => by
  have e : ∀ j, j < us.length → (us.map (·.2.2)).getD j [] = keyA us j := fun j hj => by
    unfold keyA
    rw [List.getD_eq_getElem?_getD, List.getElem?_map, List.getElem?_eq_getElem hj, List.getD_eq_getElem?_getD, List.getElem?_eq_getElem hj]; rfl
  rw [List.length_map] at hi
  rw [e _ hi, e _ (by omega)]
  exact h i hi
theorem law_order_ok {w : World} {count side : Int} {tc ts : Tok} {nb gb pr D0 kb kg kp : Nat} {bvs gvs pvs : List Value} {noisy : List Bool} {gains ps : List Int} {d0 : Obj} {xs : TT} {imm : List (Addr × Obj)}
    (hc : 0 ≤ count ∧ count ≤ 3) (hs : 0 ≤ side ∧ side ≤ 1) (hb : BoolsAre bvs noisy) (hg : IntsAre gvs gains) (hp : IntsAre pvs ps) (hnl : noisy.length = count) (hgl : gains.length = count) (hpl : PyData.layable0 (.list (ps.map .int)) = true) (h0 : TD w imm d0 xs) (l0 : (D0 == sysModules) = false) :
    Con w 368 [.int count tc, .ref nb, .ref gb, .ref pr, .ref D0, .int side ts] [] ([(nb, listOf bvs.toArray kb), (gb, listOf gvs.toArray kg), (pr, listOf pvs.toArray kp), (D0, d0)] ++ imm) [] 4 16
      (fun H r h' => ∃ b ms, r = .ref b ∧ H.get? b = none ∧ isL h' b (ms.map fun x => x.getD 2 0) ∧ ms.Perm ((rangeKs 1 count.toNat).map (markM noisy gains ps (fun m => tlook xs [side, m]))) ∧ AdjL ms) := by
  refine' con_enter [("count", .int count tc), ("noisy", .ref nb), ("gains", .ref gb), ("pair", .ref pr), ("scores", .ref D0), ("side", .int side ts)] ?ho ?hcd ?hb ?hl ?hdis ?_ ?c1 ?c2 ?c3 ?c4; (case ho => k_is); (case hcd => k_is); (case hb => exact rfl); (case hl => exact locs rfl); (try (case hdis => exact List.forall_mem_nil _)); (case c1 => exact rfl); (case c2 => exact rfl); (case c3 => exact rfl); (case c4 => decide)
  case hdis => exact fun _ _ h => nomatch h
  k_whole; intro dp un gd outer A₀ base g L h₁ H s mean mg mb B X T F N Tl Z hD hU; (try dsimp only); refine (let m9 : Str → Option Value := _; (fun (F : Fr _ _ _ m9) => ?_) F)
  k_fold
  have hnb := Tl _ (.head _)
  have hgb := Tl _ (.tail _ (.head _))
  have hpr := Tl _ (.tail _ (.tail _ (.head _)))
  have hD0 := Tl _ (.tail _ (.tail _ (.tail _ (.head _))))
  have hig : AllAt g imm := fun p hp => Tl p (List.mem_append_right _ hp)
  clear Tl
  k_with_none
  k_with "storeName" => (k_dflt (k_here; refine' store2 ?F ?N ?_ ?a ?b; (case F => k_asm); (case N => k_asm); (case a => rfl); (case b => rfl); k_whole; intro h' tk' F' N'; refine (let m9 : Str → Option Value := _; (fun (F' : Fr _ _ _ m9) => ?_) F'); (try k_sweep)))
  k_with "eval Constant int" => (k_dflt (first | with_reducible refine const_int3 ?_ | refine const_int3 ?_))
  k_with "binaryOp Add int int" => (k_dflt (first | with_reducible refine add_int3 ?_ | refine add_int3 ?_))
  k_with "binaryOp Sub int int" => (k_dflt (first | with_reducible refine sub_int3 ?_ | refine sub_int3 ?_))
  k_with "unaryOp USub int" => (k_dflt (first | with_reducible refine neg_int3 ?_ | refine neg_int3 ?_))
  k_with "om2" => (lia)
  have hcB : Bx (0 ≤ count ∧ count ≤ 3) := ⟨hc⟩
  have hnlB : Bx (noisy.length = count) := ⟨hnl⟩
  have hglB : Bx (gains.length = count) := ⟨hgl⟩
  have hgB : Bx (IntsAre gvs gains) := ⟨hg⟩
  have hpB : Bx (IntsAre pvs ps) := ⟨hp⟩
  clear hc hnl hgl hg hp
  have hTk : ∀ {us : List TU} {a : Addr} {vs : List Value} (i : Nat), i < count.toNat → us.map (·.2.2) = ((rangeKs 1 count.toNat).take i).map (markM noisy gains ps (fun m => tlook xs [side, m])) → (us ++ [(a, vs, (markM noisy gains ps (fun m => tlook xs [side, m])) (1 + i))]).map (·.2.2) = ((rangeKs 1 count.toNat).take (i + 1)).map (markM noisy gains ps (fun m => tlook xs [side, m])) := fun i hi h => by
    rw [List.map_append, h, List.take_add_one, rangeKs_get hi, List.map_append]; rfl
  have hnv : ∀ i : Nat, i < count.toNat → bvs[(1 + (i : Int) - 1).toNat]? = some (.bool (noisy.getD (1 + (i : Int) - 1).toNat false)) := fun i hi => hb.get (by have := hnlB.out; omega)
  have hgv : ∀ i : Nat, i < count.toNat → ∃ t, gvs[(1 + (i : Int) - 1).toNat]? = some (.int (gains.getD (1 + (i : Int) - 1).toNat 0) t) := fun i hi => hgB.out.get _ _ (by rw [List.getD_eq_getElem?_getD, List.getElem?_eq_getElem (by have := hglB.out; omega)]; rfl)
  k_with "pyIter ref" => (k_dflt (((rename News _ _ _ _ => N9); (rename Fr _ _ _ _ => F9); obtain ⟨Mk, hMk⟩ := name_ref F9 (Str.ofString "marks") rfl; subst hMk; refine' range_K (σ := List TU × Nat) (n := count.toNat) [Mk] (fun z => (Mk, listOf (z.1.map tuR).toArray z.2) :: z.1.map tuE) (fun _ => []) ["gain"] (fun i z => z.1.map (·.2.2) = ((rangeKs 1 count.toNat).take i).map (markM noisy gains ps (fun m => tlook xs [side, m])) ∧ (∀ u ∈ z.1, IntsAre u.2.1 u.2.2) ∧ (∀ u ∈ z.1, u.1 ≠ Mk)) ([], 0) ?zhh (by assumption) ?zsm ?zn F9 N9 ?zha ?zhp ?zhk ?zhno ?zturn ?zdone; (case zhh => exact rfl); (case zsm => have := hcB.out; exact range_small (by omega) (by omega)); (case zn => have := hcB.out; exact range_size (by omega)); (case zha => exact List.forall_mem_singleton.mpr (live_of N9 (.head _))); (case zhp => exact ⟨rfl, (fun _ h => nomatch h), fun _ h => nomatch h⟩); (case zhk => exact fun _ h => nomatch h); (case zhno => (intro i cc _; exact noIt_cons (by rfl) noIt_U)); (case' zturn => (clear F9 N9; intro i t cc u h9 tk9 own hi ho hP F' N'; (try dsimp only); k_fold; refine an3 hP fun hP1 hP2 hP3 => ?_; clear hP; have hi3 : i < 3 := (by have := hcB.out; omega); have hlen : cc.1.length ≤ 3 := (by have q := congrArg List.length hP1; simp at q; omega); simp only [List.cons_append] at N'; (try dsimp only at F'); (try dsimp only at N'); refine (let m9 : Str → Option Value := _; (fun (F' : Fr _ _ _ m9) => ?_) F'))); (case' zdone => (clear F9 N9; intro cc u h9 tk9 hP F' N'; refine an3 hP fun hP1 hP2 hP3 => ?_; clear hP; rw [List.take_of_length_le (by rw [rangeKs_length]; exact Nat.le_refl _)] at hP1; (try dsimp only at F'); (try dsimp only at N'); refine (let m9 : Str → Option Value := _; (fun (F' : Fr _ _ _ m9) => ?_) F'))))))
  k_with "subscriptTail" => (k_dflt ((refine my_item (isList_kept (by k_asm) hnb) (by omega) (by omega) (hnv i hi) ?_)))
  k_with "subscriptTail" => (k_dflt ((obtain ⟨tg, htg⟩ := hgv i hi; refine my_item (isList_kept (by k_asm) hgb) (by omega) (by omega) htg ?_)))
  k_with "call builtin:list.append" => (k_dflt (((rename News _ _ _ _ => N9); (rename Fr _ _ _ _ => F9); refine' my_append (D := Mk) (vs := cc.1.map tuR) F9 N9 (by k_mem) (by rw [List.length_map]; omega) ?_; intro h' F' K9 hg9; have hOb := news_own N9 (by (intro p9 hp9; repeat (first | exact List.mem_append_right _ hp9 | exact hp9 | refine List.Mem.tail _ ?_))) K9 ho (by ((repeat (refine all_cons (by simp) ?_)); exact List.forall_mem_nil _)); have N'' := fun ks => news_app (mk_push N9 (by k_mem) (.head _) (by (intro p9 hp9; repeat (first | exact hp9 | exact List.mem_append_left _ hp9 | exact List.mem_append_right _ hp9 | refine List.mem_append_left _ ?_ | refine List.Mem.tail _ ?_))) hP3 (by omega) K9 hg9 ks) hOb)))
  k_with "compareOp In int ref" => (k_dflt ((refine in_list_ints (isList_kept (by k_asm) hpr) hpB.out ?_)))
  k_with "getMethod ref" => (k_dflt ((refine my_meth (Fr.keep (by k_asm) _ _ hD0) h0.ex ?_)))
  k_with "getMethod ref" => (k_dflt ((refine my_methL (isList_kept (by k_asm) hpr) ⟨_, Fr.keep (by k_asm) _ _ hpr⟩ ?_)))
  k_with "call builtin:list.index" => (k_dflt ((refine index_list_ints (isList_kept (by k_asm) hpr) hpB.out hpl (any_mem (by assumption)) ?_)))
  k_with "call builtin:dict.get" => (k_dflt (((rename News _ _ _ _ => N9); (rename Fr _ _ _ _ => F9); refine my_getT h0 l0 (by (show un + 1 < cLine); omega) (F9.keep _ _ hD0) (fun p hp => F9.keep _ _ (hig p hp)) (News.get N9 (by k_mem)) tupKey ?_; intro t9)))
  k_with "call builtin:sorted" => (k_dflt (((rename News _ _ _ _ => N9); (rename Fr _ _ _ _ => F9); refine' sorted_exact (us := cc.1) (k := 2) F9 N9 (News.isList N9 (.head _)) ?zs3 ?znd ?zT hP2 ?zk ?_; (case zs3 => have q := congrArg List.length hP1; rw [List.length_map, List.length_map, rangeKs_length] at q; have := hcB.out; omega); (case znd => rw [hP1]; exact marks_nodup _); (case zT => exact fun h F N => tups_at N (by (intro p9 hp9; repeat (first | exact hp9 | exact List.mem_append_left _ hp9 | exact List.mem_append_right _ hp9 | refine List.mem_append_left _ ?_ | refine List.Mem.tail _ ?_)))); (case zk => intro u hu; have q := List.mem_map_of_mem (f := fun u : TU => u.2.2) hu; rw [hP1] at q; obtain ⟨m, _, e⟩ := List.mem_map.mp q; rw [← e]; exact mark_key.2); intro D9 c9 h' us' hpm hadj F' N' hlt)))
  k_with "pyIter ref" => (k_dflt (((rename News _ _ _ _ => N9); (rename Fr _ _ _ _ => F9); have hT9 := tups_at2 N9 (us := cc.1) (by (intro p9 hp9; repeat (first | exact hp9 | exact List.mem_append_left _ hp9 | exact List.mem_append_right _ hp9 | refine List.mem_append_left _ ?_ | refine List.Mem.tail _ ?_))) hpm; have hI9 : ∀ u ∈ us', IntsAre u.2.1 u.2.2 := (fun u hu => hP2 u (hpm.mem_iff.mp hu)); have hk9 : ∀ u ∈ us', u.2.2.length = 3 := (fun u hu => by have q := List.mem_map_of_mem (f := fun u : TU => u.2.2) (hpm.mem_iff.mp hu); rw [hP1] at q; obtain ⟨m, _, e⟩ := List.mem_map.mp q; rw [← e]; exact mark_key.2); refine' comp_list0 (vs := us'.map tuR) (fun v y => ∀ u ∈ us', v = tuR u → ∃ t, y = .int (u.2.2.getD 2 0) t) ?yhh (News.isList N9 (.head _)) ?yhsz ?yelt ?ydone; (case yhh => exact rfl); (case yhsz => (rw [sizeLine_eq]; have q := hpm.length_eq; have q2 := congrArg List.length hP1; rw [List.length_map, List.length_map, rangeKs_length] at q2; rw [List.length_map]; have := hcB.out; omega)); (case yelt => (intro C v s₃ m₃ E' hv hn hm hk; obtain ⟨u, hu, rfl⟩ := List.mem_map.mp hv; obtain ⟨t2, ht2⟩ := ints_at2 (hI9 u hu) (k := 2) (by rw [hk9 u hu]; decide); refine Subscript_ (wpAny_Name (wpAny_loadName_local rfl rfl hn hm (wpAny_Constant_int (my_tup (j := 2) (tup_is (hk _ _ (hT9 u hu))) (by decide) ht2 ⟨?_, s₃.heap, _, rfl, fun _ _ q => q⟩)))); intro u' hu' q; rw [← tu_same (hT9 u hu) (hT9 u' hu') (hI9 u hu) (hI9 u' hu') q]; exact ⟨_, rfl⟩)); (intro D n h' tk ys hD hg hp hk; have F' := F9.keeps hk; have N' := N9.grown hk; have hH9 := Z.fresh (fresh_base F9 hD) nmem_nil))))
  k_steps
  · (refine' back_intro ?bF ?bL ?_; (case bF => k_asm); (case bL => first | exact List.forall_mem_nil _ | ((repeat (refine all_cons (by first | exact .inr (News.get (by with_reducible assumption) (by k_mem)) | exact .inl (by simp)) ?_)); exact List.forall_mem_nil _)))
    exact ⟨D, us'.map (·.2.2), rfl, hH9, ⟨ys, _, hg, by rw [List.map_map]; exact ints_paired tuR (fun u => u.2.2.getD 2 0) hp⟩, by (have q := hpm.map fun u : TU => u.2.2); rw [hP1] at q; exact q, adj_keys hadj⟩
  all_goals (refine endK2 (σ := List TU × Nat) (cc.1 ++ [(_, _, (markM noisy gains ps (fun m => tlook xs [side, m])) (1 + i))], cc.2 + 1) (by k_asm) (N'' ((markM noisy gains ps (fun m => tlook xs [side, m])) (1 + i))) (fun p hp => List.mem_append_right _ hp) (fun p hp => List.mem_append_left _ hp) ⟨hTk i hi hP1, forall_snoc hP2 ?_, forall_snoc hP3 ?_⟩ (fun _ h => nomatch h) (by ((repeat (first | exact Out.st rfl | exact Out.kst (Out.st rfl) rfl | refine Out.ite ?_ rfl | refine Out.itf ?_ rfl | refine Out.stf ?_ rfl)))))
  all_goals first
    | (show (_ : Nat) ≠ Mk; omega)
    | (dsimp only [markM]; rw [if_pos (by assumption), if_pos (by assumption)]; exact .cons _ _ (.cons _ _ (.cons _ _ .nil)))
    | (dsimp only [markM]; rw [if_pos (by assumption), if_neg (by omega)]; exact .cons _ _ (.cons _ _ (.cons _ _ .nil)))
    | (dsimp only [markM]; rw [if_neg (by simp only [Bool.not_eq_true]; assumption), if_pos (any_mem (by assumption))]; exact .cons _ _ (.cons _ _ (.cons _ _ .nil)))
    | (dsimp only [markM]; rw [if_neg (by simp only [Bool.not_eq_true]; assumption), if_neg (any_not (by assumption))]; exact .cons _ _ (.cons _ _ (.cons _ _ .nil)))
end
section
theorem on_S0 : True := by
  k_with_none
  k_with "om2" => (lia)
  trivial
/-! the search: the plain value, what a search's answer says of it -/
def negs (f : Int → Int) : List Int → Int → Int
  | [], b => b
  | c :: r, b => negs f r (max b (-f c))
def plainM (T : Tre) : Nat → Nat → Int
  | 0, node => T.va.getD node 0
  | d + 1, node => match T.ch.getD node [] with
    | [] => T.va.getD node 0
    | c :: r => negs (fun x => plainM T d x.toNat) r (-plainM T d c.toNat)
theorem negs_ge (f : Int → Int) : ∀ (r : List Int) (b : Int), b ≤ negs f r b ∧ ∀ c ∈ r, -f c ≤ negs f r b
  | [], b => ⟨Int.le_refl _, fun _ h => nomatch h⟩
  | c :: r, b => by
    obtain ⟨h1, h2⟩ := negs_ge f r (max b (-f c))
    refine ⟨by unfold negs; omega, fun x hx => ?_⟩
    unfold negs
    rcases List.mem_cons.mp hx with rfl | hx
    · omega
    · exact h2 x hx
theorem negs_in (f : Int → Int) : ∀ (r : List Int) (b : Int), negs f r b = b ∨ ∃ c ∈ r, negs f r b = -f c
  | [], b => .inl rfl
  | c :: r, b => by
    unfold negs
    rcases negs_in f r (max b (-f c)) with h | ⟨x, hx, h⟩
    · rw [h]
      by_cases q : b ≤ -f c
      · exact .inr ⟨c, .head _, by omega⟩
      · exact .inl (by omega)
    · exact .inr ⟨x, .tail _ hx, h⟩
theorem plain_succ (T : Tre) (d node : Nat) : plainM T (d + 1) node = match T.ch.getD node [] with
    | [] => T.va.getD node 0
    | c :: r => negs (fun x => plainM T d x.toNat) r (-plainM T d c.toNat) := rfl
theorem plain_leaf {T : Tre} {d node : Nat} (h : d = 0 ∨ T.ch.getD node [] = []) : plainM T d node = T.va.getD node 0 := by
  cases d with
  | zero => rfl
  | succ d =>
    have h := h.resolve_left (Nat.succ_ne_zero _)
    rw [plain_succ, h]
theorem plain_ge {T : Tre} {d node : Nat} {c : Int} (h : c ∈ T.ch.getD node []) : -plainM T d c.toNat ≤ plainM T (d + 1) node := by
  rw [plain_succ]
  cases e : T.ch.getD node [] with
  | nil => rw [e] at h; cases h
  | cons x r =>
    rw [e] at h
    have q := negs_ge (fun x => plainM T d x.toNat) r (-plainM T d x.toNat)
    rcases List.mem_cons.mp h with rfl | h
    · exact q.1
    · exact q.2 c h
theorem plain_in {T : Tre} {d node : Nat} (h : T.ch.getD node [] ≠ []) : ∃ c ∈ T.ch.getD node [], plainM T (d + 1) node = -plainM T d c.toNat := by
  rw [plain_succ]
  cases e : T.ch.getD node [] with
  | nil => exact absurd e h
  | cons x r =>
    rcases negs_in (fun x => plainM T d x.toNat) r (-plainM T d x.toNat) with q | ⟨c, hc, q⟩
    · exact ⟨x, .head _, q⟩
    · exact ⟨c, .tail _ hc, q⟩
structure Spec (v a b t : Int) : Prop where
  lo : v ≤ a → t ≤ v
  hi : b ≤ v → v ≤ t
  eq : a < v → v < b → v = t
  bd : -1000 ≤ v ∧ v ≤ 1000
theorem Spec.same {v a b : Int} (h : -1000 ≤ v ∧ v ≤ 1000) : Spec v a b v := ⟨fun _ => Int.le_refl _, fun _ => Int.le_refl _, fun _ _ => rfl, h⟩
/-- the loop of the search: s j the value by the j-th move -/
structure LoopS (s : Nat → Int) (a b : Int) (i : Nat) (best alpha : Int) : Prop where
  al : alpha = max a best
  lt : best < b
  ab : a < b
  bd : -1000 ≤ best ∧ best ≤ 1000
  le : ∀ j, j < i → s j ≤ best
  at_ : a < best → ∃ j, j < i ∧ s j = best
theorem LoopS.start {s : Nat → Int} {a b : Int} (h : -1000 ≤ a ∧ a < b) : LoopS s a b 0 (-1000) a := ⟨by omega, by omega, by omega, by omega, fun _ h => absurd h (Nat.not_lt_zero _), fun q => by omega⟩
theorem neg_sp {v a b t : Int} (h : Spec v (-b) (-a) (-t)) : (b ≤ -v → -v ≤ t) ∧ (-v ≤ a → t ≤ -v) ∧ (a < -v → -v < b → -v = t) ∧ (-1000 ≤ -v ∧ -v ≤ 1000) := by
  obtain ⟨v1, v2, v3, v4⟩ := h
  exact ⟨fun q => Int.neg_le_of_neg_le (v1 (Int.le_neg_of_le_neg q)), fun q => Int.le_neg_of_le_neg (v2 (Int.neg_le_of_neg_le q)), fun q r => (congrArg Neg.neg (v3 (Int.neg_lt_of_neg_lt r) (Int.lt_neg_of_lt_neg q))).trans (Int.neg_neg t), Int.neg_le_neg v4.2, Int.neg_le_of_neg_le v4.1⟩
theorem LoopS.step {s : Nat → Int} {a b best alpha v : Int} {i : Nat} (h : LoopS s a b i best alpha) (hv : Spec v (-b) (-alpha) (-s i)) (hn : max best (-v) < b) : LoopS s a b (i + 1) (max best (-v)) (max alpha (-v)) := by
  obtain ⟨h1, h2, hab, h3, h4, h5⟩ := h
  obtain ⟨w1, w2, w3, w4⟩ := neg_sp hv
  revert w1 w2 w3 w4 hn
  generalize -v = u
  intro hn w1 w2 w3 w4
  have hub : u < b := Int.lt_of_le_of_lt (Int.le_max_right best u) hn
  have key : s i ≤ max best u := (Decidable.em (alpha < u)).elim (fun q => (w3 q hub) ▸ Int.le_max_right best u) (fun q => Int.le_trans (w2 (Int.not_lt.mp q)) (Int.le_max_right best u))
  refine ⟨by rw [h1]; exact Int.max_assoc a best u, hn, hab, ⟨Int.le_trans h3.1 (Int.le_max_left best u), Int.max_le.2 ⟨h3.2, w4.2⟩⟩, fun j hj => ?_, fun hb => ?_⟩
  · exact (Nat.lt_succ_iff_lt_or_eq.mp hj).elim (fun l => Int.le_trans (h4 j l) (Int.le_max_left best u)) (fun e => e ▸ key)
  · rcases Decidable.em (best < u) with q | q
    · rw [Int.max_eq_right (Int.le_of_lt q)] at hb ⊢
      exact ⟨i, Nat.lt_succ_self _, (w3 (by rw [h1]; exact Int.max_lt.2 ⟨hb, q⟩) hub).symm⟩
    · rw [Int.max_eq_left (Int.not_lt.mp q)] at hb ⊢
      obtain ⟨j, hj, e⟩ := h5 hb
      exact ⟨j, Nat.lt_succ_of_lt hj, e⟩
theorem LoopS.cut {s : Nat → Int} {a b best alpha v t : Int} {i : Nat} (h : LoopS s a b i best alpha) (hv : Spec v (-b) (-alpha) (-s i)) (hn : b ≤ max best (-v)) (ht : s i ≤ t) (hb : b ≤ 1000) : Spec (max best (-v)) a b t := by
  obtain ⟨h1, h2, hab, h3, h4, h5⟩ := h
  obtain ⟨w1, w2, w3, w4⟩ := neg_sp hv
  revert w1 w2 w3 w4 hn
  generalize -v = u
  intro hn w1 w2 w3 w4
  have hbu : b ≤ u := Int.not_lt.mp fun q => Int.not_lt.mpr hn (Int.max_lt.2 ⟨h2, q⟩)
  rw [Int.max_eq_right (Int.le_of_lt (Int.lt_of_lt_of_le h2 hbu))]
  exact ⟨fun q => absurd (Int.lt_of_lt_of_le hab hbu) (Int.not_lt.mpr q), fun _ => Int.le_trans (w1 hbu) ht, fun _ q => absurd q (Int.not_lt.mpr hbu), w4⟩
theorem LoopS.done {s : Nat → Int} {a b best alpha t : Int} {n : Nat} (h : LoopS s a b n best alpha) (h1 : ∀ j, j < n → s j ≤ t) (h2 : ∃ j, j < n ∧ t = s j) : Spec best a b t := by
  obtain ⟨_, q2, _, q3, q4, q5⟩ := h
  have hB5 : Bx (a < best → ∃ j, j < n ∧ s j = best) := ⟨q5⟩
  clear q5
  obtain ⟨j, hj, e⟩ := h2
  have := q4 j hj
  refine ⟨fun _ => by omega, fun _ => by omega, fun q _ => ?_, q3⟩
  obtain ⟨k, hk, e'⟩ := hB5.out q
  have := h1 k hk
  omega
end
section
theorem on_M1 : True := by
  k_with_none
  k_with "om2" => (lia)
  trivial
/-! the order of moves is the sort of the marks -/
def R2 (x y : Int × Int) : Prop := y.1 < x.1 ∨ (x.1 = y.1 ∧ x.2 < y.2)
theorem placeP_le (xs : List (Int × Int)) (sc : Int) : ∀ k, placeP xs sc k ≤ k
  | 0 => Nat.le_refl _
  | k + 1 => by
    unfold placeP
    split
    · exact Nat.le_succ_of_le (placeP_le xs sc k)
    · exact Nat.le_refl _
theorem placeP_hi (xs : List (Int × Int)) (sc : Int) : ∀ k j, placeP xs sc k ≤ j → j < k → (xs.getD j (0, 0)).1 < sc
  | 0, j, _, h => absurd h (Nat.not_lt_zero _)
  | k + 1, j, h1, h2 => by
    unfold placeP at h1
    split at h1
    · rename_i q
      by_cases e : j = k
      · subst e; exact q
      · exact placeP_hi xs sc k j h1 (by omega)
    · omega
theorem placeP_lo (xs : List (Int × Int)) (sc : Int) : ∀ k, placeP xs sc k = 0 ∨ sc ≤ (xs.getD (placeP xs sc k - 1) (0, 0)).1
  | 0 => .inl rfl
  | k + 1 => by
    unfold placeP
    split
    · exact placeP_lo xs sc k
    · rename_i q
      exact .inr (by simpa using q)
theorem getD_mem {xs : List (Int × Int)} {j : Nat} (h : j < xs.length) : xs[j]? = some (xs.getD j (0, 0)) := by
  rw [List.getD_eq_getElem?_getD, List.getElem?_eq_getElem h]; rfl
theorem insP_perm (xs : List (Int × Int)) (p : Int × Int) : (insP xs p).Perm (p :: xs) := by
  unfold insP
  have := @List.perm_middle _ p (xs.take (placeP xs p.1 xs.length)) (xs.drop (placeP xs p.1 xs.length))
  rwa [List.take_append_drop] at this
theorem insP_sorted {xs : List (Int × Int)} {p : Int × Int} (h : xs.Pairwise R2) (hm : ∀ x ∈ xs, x.2 < p.2) : (insP xs p).Pairwise R2 := by
  unfold insP
  have hk := placeP_le xs p.1 xs.length
  have hhi := placeP_hi xs p.1 xs.length
  have hlo := placeP_lo xs p.1 xs.length
  revert hk hhi hlo
  generalize placeP xs p.1 xs.length = k
  intro hk hhi hlo
  have h' := h
  rw [← List.take_append_drop k xs, List.pairwise_append] at h
  obtain ⟨h1, h2, h3⟩ := h
  refine List.pairwise_append.mpr ⟨h1, List.pairwise_cons.mpr ⟨fun y hy => ?_, h2⟩, fun a ha b hb => ?_⟩
  · obtain ⟨i, hi⟩ := List.mem_iff_getElem?.mp hy
    rw [List.getElem?_drop] at hi
    have hlt := (List.getElem?_eq_some_iff.mp hi).1
    have := hhi (k + i) (by omega) hlt
    rw [getD_mem hlt] at hi
    exact .inl (by rw [← Option.some.inj hi]; exact this)
  · rcases List.mem_cons.mp hb with rfl | hb
    · have hmem := hm a (List.mem_of_mem_take ha)
      obtain ⟨i, hi⟩ := List.mem_iff_getElem?.mp ha
      have hik : i < k := by have := (List.getElem?_eq_some_iff.mp hi).1; simp at this; omega
      rw [List.getElem?_take_of_lt hik] at hi
      have hil : i < xs.length := by omega
      have hia : xs.getD i (0, 0) = a := by rw [getD_mem hil] at hi; exact Option.some.inj hi
      have hge : b.1 ≤ a.1 := by
        rcases hlo with q | q
        · omega
        · by_cases e : i = k - 1
          · rw [← e, hia] at q; exact q
          · have hlast : k - 1 < xs.length := by omega
            have := List.pairwise_iff_getElem.mp h' i (k - 1) hil hlast (by omega)
            have e1 : xs[i] = a := by rw [← hia, List.getD_eq_getElem?_getD, List.getElem?_eq_getElem hil]; rfl
            have e2 : xs[k - 1] = xs.getD (k - 1) (0, 0) := by rw [List.getD_eq_getElem?_getD, List.getElem?_eq_getElem hlast]; rfl
            rw [e1, e2] at this
            unfold R2 at this
            omega
      unfold R2
      omega
    · exact h3 a ha b hb
/-- what the loop of order_moves keeps -/
structure Inv (noisy : List Bool) (gains : List Int) (p0 p1 : Int) (sc : Int → Int) (l : List Int) (a : AS) : Prop where
  perm : (a.good.map (·.2) ++ [a.k0, a.k1].filter (fun m => decide (m ≠ 0)) ++ a.quiet.map (·.2) ++ a.losing.map (·.2)).Perm l
  k0 : a.k0 = 0 ∨ (a.k0 = p0 ∧ a.k0 ∈ l ∧ ¬ noisy.getD (a.k0 - 1).toNat false = true)
  k1 : a.k1 = 0 ∨ (a.k1 = p1 ∧ a.k1 ≠ p0 ∧ a.k1 ∈ l ∧ ¬ noisy.getD (a.k1 - 1).toNat false = true)
  good : a.good.Pairwise R2
  quiet : a.quiet.Pairwise R2
  losing : a.losing.Pairwise R2
  gm : ∀ x ∈ a.good, x.2 ∈ l ∧ noisy.getD (x.2 - 1).toNat false = true ∧ x.1 = gains.getD (x.2 - 1).toNat 0 ∧ x.1 ≥ 0
  qm : ∀ x ∈ a.quiet, x.2 ∈ l ∧ ¬ noisy.getD (x.2 - 1).toNat false = true ∧ x.1 = sc x.2 ∧ x.2 ≠ p0 ∧ x.2 ≠ p1
  lm : ∀ x ∈ a.losing, x.2 ∈ l ∧ noisy.getD (x.2 - 1).toNat false = true ∧ x.1 = gains.getD (x.2 - 1).toNat 0 ∧ ¬ x.1 ≥ 0
theorem mem_insP {xs : List (Int × Int)} {p x : Int × Int} (h : x ∈ insP xs p) : x = p ∨ x ∈ xs := List.mem_cons.mp ((insP_perm xs p).mem_iff.mp h)
section
variable {noisy : List Bool} {gains : List Int} {p0 p1 : Int} {sc : Int → Int} {l : List Int} {a : AS} {m : Int}
theorem Inv.step (h : Inv noisy gains p0 p1 sc l a) (hm : ∀ x ∈ l, x < m) (h1 : 1 ≤ m) : Inv noisy gains p0 p1 sc (l ++ [m]) (stepM noisy gains p0 p1 sc a m) := by
  have hn : m ∉ l := fun q => by have := hm m q; omega
  have up : ∀ {x : Int}, x ∈ l → x ∈ l ++ [m] := fun q => List.mem_append_left _ q
  have last : m ∈ l ++ [m] := List.mem_append_right _ (.head _)
  have k0' := h.k0.imp id fun ⟨a, b, c⟩ => (⟨a, up b, c⟩ : _ ∧ _ ∧ _)
  have k1' := h.k1.imp id fun ⟨a, b, c, d⟩ => (⟨a, b, up c, d⟩ : _ ∧ _ ∧ _ ∧ _)
  have snoc : (m :: l).Perm (l ++ [m]) := (List.perm_append_comm (l₁ := [m]) (l₂ := l))
  unfold stepM
  by_cases hno : noisy.getD (m - 1).toNat false = true
  · rw [if_pos hno]
    by_cases hg : gains.getD (m - 1).toNat 0 ≥ 0
    · rw [if_pos hg]
      refine ⟨?_, k0', k1', insP_sorted h.good fun x hx => hm _ (h.gm x hx).1, h.quiet, h.losing, fun x hx => ?_, fun x hx => ⟨up (h.qm x hx).1, (h.qm x hx).2⟩, fun x hx => ⟨up (h.lm x hx).1, (h.lm x hx).2⟩⟩
      · refine List.Perm.trans ?_ ((h.perm.cons m).trans snoc)
        have := (insP_perm a.good (gains.getD (m - 1).toNat 0, m)).map (·.2)
        exact ((this.append_right _).append_right _).append_right _
      · rcases mem_insP hx with rfl | hx
        · exact ⟨last, hno, rfl, hg⟩
        · exact ⟨up (h.gm x hx).1, (h.gm x hx).2⟩
    · rw [if_neg hg]
      refine ⟨?_, k0', k1', h.good, h.quiet, insP_sorted h.losing fun x hx => hm _ (h.lm x hx).1, fun x hx => ⟨up (h.gm x hx).1, (h.gm x hx).2⟩, fun x hx => ⟨up (h.qm x hx).1, (h.qm x hx).2⟩, fun x hx => ?_⟩
      · refine List.Perm.trans ?_ ((h.perm.cons m).trans snoc)
        have := (insP_perm a.losing (gains.getD (m - 1).toNat 0, m)).map (·.2)
        exact (this.append_left _).trans List.perm_middle
      · rcases mem_insP hx with rfl | hx
        · exact ⟨last, hno, rfl, hg⟩
        · exact ⟨up (h.lm x hx).1, (h.lm x hx).2⟩
  · rw [if_neg hno]
    by_cases e0 : m = p0
    · rw [if_pos e0]
      have z : a.k0 = 0 := h.k0.resolve_right fun q => hn (by rw [e0, ← q.1]; exact q.2.1)
      refine ⟨?_, .inr ⟨e0, last, hno⟩, k1', h.good, h.quiet, h.losing, fun x hx => ⟨up (h.gm x hx).1, (h.gm x hx).2⟩, fun x hx => ⟨up (h.qm x hx).1, (h.qm x hx).2⟩, fun x hx => ⟨up (h.lm x hx).1, (h.lm x hx).2⟩⟩
      refine List.Perm.trans ?_ ((h.perm.cons m).trans snoc)
      have e : [m, a.k1].filter (fun m => decide (m ≠ 0)) = m :: [a.k0, a.k1].filter (fun m => decide (m ≠ 0)) := by
        rw [z]; simp [show m ≠ 0 by omega]
      show (a.good.map (·.2) ++ [m, a.k1].filter (fun m => decide (m ≠ 0)) ++ a.quiet.map (·.2) ++ a.losing.map (·.2)).Perm _
      rw [e]
      exact ((List.perm_middle.append_right _).append_right _)
    · rw [if_neg e0]
      by_cases e1 : m = p1
      · rw [if_pos e1]
        have z : a.k1 = 0 := h.k1.resolve_right fun q => hn (by rw [e1, ← q.1]; exact q.2.2.1)
        refine ⟨?_, k0', .inr ⟨e1, e0, last, hno⟩, h.good, h.quiet, h.losing, fun x hx => ⟨up (h.gm x hx).1, (h.gm x hx).2⟩, fun x hx => ⟨up (h.qm x hx).1, (h.qm x hx).2⟩, fun x hx => ⟨up (h.lm x hx).1, (h.lm x hx).2⟩⟩
        refine List.Perm.trans ?_ ((h.perm.cons m).trans snoc)
        have e : ([a.k0, m].filter (fun m => decide (m ≠ 0))).Perm (m :: [a.k0, a.k1].filter (fun m => decide (m ≠ 0))) := by
          rw [z]
          by_cases q : a.k0 = 0
          · simp [q, show m ≠ 0 by omega]
          · simp [q, show m ≠ 0 by omega]; exact List.Perm.swap _ _ _
        show (a.good.map (·.2) ++ [a.k0, m].filter (fun m => decide (m ≠ 0)) ++ a.quiet.map (·.2) ++ a.losing.map (·.2)).Perm _
        exact (((e.append_left _).trans List.perm_middle).append_right _).append_right _
      · rw [if_neg e1]
        refine ⟨?_, k0', k1', h.good, insP_sorted h.quiet fun x hx => hm _ (h.qm x hx).1, h.losing, fun x hx => ⟨up (h.gm x hx).1, (h.gm x hx).2⟩, fun x hx => ?_, fun x hx => ⟨up (h.lm x hx).1, (h.lm x hx).2⟩⟩
        · refine List.Perm.trans ?_ ((h.perm.cons m).trans snoc)
          have := (insP_perm a.quiet (sc m, m)).map (·.2)
          exact ((this.append_left _).trans List.perm_middle).append_right _
        · rcases mem_insP hx with rfl | hx
          · exact ⟨last, hno, rfl, e0, e1⟩
          · exact ⟨up (h.qm x hx).1, (h.qm x hx).2⟩
theorem Inv.all : ∀ n : Nat, Inv noisy gains p0 p1 sc (rangeKs 1 n) ((rangeKs 1 n).foldl (stepM noisy gains p0 p1 sc) ⟨[], [], [], 0, 0⟩)
  | 0 => ⟨.refl _, .inl rfl, .inl rfl, .nil, .nil, .nil, fun _ h => (nomatch h), fun _ h => (nomatch h), fun _ h => nomatch h⟩
  | n + 1 => by
    have e : rangeKs 1 (n + 1) = rangeKs 1 n ++ [1 + (n : Int)] := by
      unfold rangeKs; rw [List.range_succ, List.map_append]; rfl
    rw [e, List.foldl_append]
    refine (Inv.all n).step (fun x hx => ?_) (by omega)
    unfold rangeKs at hx
    obtain ⟨i, hi, rfl⟩ := List.mem_map.mp hx
    have := List.mem_range.mp hi
    omega
end
theorem lex_trans : ∀ x y z : List Int, x.length = y.length → y.length = z.length → lex y x = false → lex z y = false → lex z x = false
  | [], [], [], _, _, _, _ => rfl
  | a :: x, b :: y, c :: z, h1, h2, h3, h4 => by
    have ih := lex_trans x y z (by simpa using h1) (by simpa using h2)
    unfold lex at h3 h4 ⊢
    by_cases e1 : b = a
    · by_cases e2 : c = b
      · subst e1; subst e2
        simp only [beq_self_eq_true, if_true] at h3 h4 ⊢
        exact ih h3 h4
      · have e3 : ¬ c = a := by omega
        simp only [beq_iff_eq, e2, e3, if_false, decide_eq_false_iff_not] at h4 ⊢
        omega
    · by_cases e2 : c = b
      · have e3 : ¬ c = a := by omega
        simp only [beq_iff_eq, e1, e3, if_false, decide_eq_false_iff_not] at h3 ⊢
        omega
      · simp only [beq_iff_eq, e1, e2, if_false, decide_eq_false_iff_not] at h3 h4
        have e3 : ¬ c = a := by omega
        simp only [beq_iff_eq, e3, if_false, decide_eq_false_iff_not]
        omega
  | [], _ :: _, _, h, _, _, _ => by simp at h
  | _ :: _, [], _, h, _, _, _ => by simp at h
  | [], [], _ :: _, _, h, _, _ => by simp at h
  | _ :: _, _ :: _, [], _, h, _, _ => by simp at h
theorem adj_pairwise : ∀ {ms : List (List Int)}, AdjL ms → (∀ x ∈ ms, x.length = 3) → ms.Pairwise fun x y => lex y x = false
  | [], _, _ => .nil
  | [x], _, _ => List.pairwise_singleton _ _
  | x :: y :: r, h, hl => by
    have hr : AdjL (y :: r) := fun i hi => by
      have := h (i + 1) (by simpa using hi)
      simpa using this
    have hp := adj_pairwise hr fun z hz => hl z (.tail _ hz)
    have hxy : lex y x = false := by simpa using h 0 (by simp)
    refine List.pairwise_cons.mpr ⟨fun z hz => ?_, hp⟩
    rcases List.mem_cons.mp hz with rfl | hz
    · exact hxy
    · exact lex_trans x y z ((hl x (.head _)).trans (hl y (.tail _ (.head _))).symm) ((hl y (.tail _ (.head _))).trans (hl z (.tail _ (.tail _ hz))).symm) hxy ((List.pairwise_cons.mp hp).1 z hz)
theorem le3 {a b c a' b' c' : Int} (h : a < a' ∨ (a = a' ∧ (b < b' ∨ (b = b' ∧ c ≤ c')))) : lex [a', b', c'] [a, b, c] = false := by
  unfold lex
  by_cases e : a' = a
  · subst e
    have h : b < b' ∨ (b = b' ∧ c ≤ c') := by omega
    simp only [beq_self_eq_true, if_true]
    unfold lex
    by_cases e2 : b' = b
    · subst e2
      simp only [beq_self_eq_true, if_true]
      unfold lex
      by_cases e3 : c' = c
      · subst e3; simp [lex]
      · simp only [beq_iff_eq, e3, if_false, decide_eq_false_iff_not]; omega
    · simp only [beq_iff_eq, e2, if_false, decide_eq_false_iff_not]; omega
  · simp only [beq_iff_eq, e, if_false, decide_eq_false_iff_not]; omega
section
variable {noisy : List Bool} {gains ps : List Int} {p0 p1 : Int} {sc scT : Int → Int} {n : Nat}
/-- the law's order is the order of order_moves -/
theorem order_same {ms : List (List Int)} (hp : ms.Perm ((rangeKs 1 n).map (markM noisy gains ps scT))) (ha : AdjL ms) (hps : ps = [p0, p1] ∨ (ps = [] ∧ p0 = 0 ∧ p1 = 0)) (hsc : ∀ m ∈ rangeKs 1 n, scT m = sc m) :
    ms.map (fun x => x.getD 2 0) = orderM noisy gains p0 p1 sc (rangeKs 1 n) := by
  have I := Inv.all (noisy := noisy) (gains := gains) (p0 := p0) (p1 := p1) (sc := sc) n
  have hO : orderM noisy gains p0 p1 sc (rangeKs 1 n) = ((rangeKs 1 n).foldl (stepM noisy gains p0 p1 sc) ⟨[], [], [], 0, 0⟩).good.map (·.2) ++ [((rangeKs 1 n).foldl (stepM noisy gains p0 p1 sc) ⟨[], [], [], 0, 0⟩).k0, ((rangeKs 1 n).foldl (stepM noisy gains p0 p1 sc) ⟨[], [], [], 0, 0⟩).k1].filter (fun m => decide (m ≠ 0)) ++ ((rangeKs 1 n).foldl (stepM noisy gains p0 p1 sc) ⟨[], [], [], 0, 0⟩).quiet.map (·.2) ++ ((rangeKs 1 n).foldl (stepM noisy gains p0 p1 sc) ⟨[], [], [], 0, 0⟩).losing.map (·.2) := rfl
  rw [hO]
  revert I
  generalize (rangeKs 1 n).foldl (stepM noisy gains p0 p1 sc) ⟨[], [], [], 0, 0⟩ = a
  intro I
  have mkG : ∀ x ∈ a.good, markM noisy gains ps scT x.2 = [1, -x.1, x.2] := fun x hx => by
    obtain ⟨_, q2, q3, q4⟩ := I.gm x hx
    unfold markM; rw [if_pos q2, ← q3, if_pos q4]
  have mkL : ∀ x ∈ a.losing, markM noisy gains ps scT x.2 = [4, -x.1, x.2] := fun x hx => by
    obtain ⟨_, q2, q3, q4⟩ := I.lm x hx
    unfold markM; rw [if_pos q2, ← q3, if_neg q4]
  have mkQ : ∀ x ∈ a.quiet, markM noisy gains ps scT x.2 = [3, -x.1, x.2] := fun x hx => by
    obtain ⟨q1, q2, q3, q4, q5⟩ := I.qm x hx
    have : x.2 ∉ ps := by rcases hps with e | ⟨e, _⟩ <;> simp [e, q4, q5]
    unfold markM; rw [if_neg q2, if_neg this, hsc _ q1, ← q3]
  have mkK : ∀ k ∈ [a.k0, a.k1].filter (fun m => decide (m ≠ 0)), ∃ i : Int, markM noisy gains ps scT k = [2, i, k] ∧ (k = a.k0 → i = 0) ∧ (k = a.k1 → k ≠ a.k0 → i = 1) := fun k hk => by
    obtain ⟨hk, hz⟩ := List.mem_filter.mp hk
    have hz : k ≠ 0 := by simpa using hz
    simp only [List.mem_cons, List.not_mem_nil, or_false] at hk
    by_cases h0 : k = a.k0
    · have q := I.k0.resolve_left (fun e => hz (h0.trans e))
      have e : ps = [p0, p1] := hps.resolve_right fun e => hz (by rw [h0, q.1, e.2.1])
      refine ⟨0, ?_, fun _ => rfl, fun _ q => absurd h0 q⟩
      unfold markM
      rw [if_neg (by rw [h0]; exact q.2.2), if_pos (by rw [h0, q.1, e]; exact .head _), h0, q.1, e]
      simp
    · have h1 : k = a.k1 := hk.resolve_left h0
      have q := I.k1.resolve_left (fun e => hz (h1.trans e))
      have e : ps = [p0, p1] := hps.resolve_right fun e => hz (by rw [h1, q.1, e.2.2])
      refine ⟨1, ?_, fun q => absurd q h0, fun _ _ => rfl⟩
      unfold markM
      rw [if_neg (by rw [h1]; exact q.2.2.2), if_pos (by rw [h1, q.1, e]; exact .tail _ (.head _)), h1, q.1, e]
      have hne : ¬ p0 = p1 := fun z => q.2.1 (by rw [q.1, z])
      have hb : (p0 == p1) = false := by simpa using hne
      have : [p0, p1].idxOf p1 = 1 := by
        rw [List.idxOf_cons, hb, List.idxOf_cons, beq_self_eq_true]; rfl
      rw [this]; rfl
  have hnd : (rangeKs 1 n).Nodup := rangeKs_nodup n
  have hsorted : (a.good.map (·.2) ++ [a.k0, a.k1].filter (fun m => decide (m ≠ 0)) ++ a.quiet.map (·.2) ++ a.losing.map (·.2)).Pairwise fun x y => lex (markM noisy gains ps scT y) (markM noisy gains ps scT x) = false := by
    refine List.pairwise_append.mpr ⟨List.pairwise_append.mpr ⟨List.pairwise_append.mpr ⟨?_, ?_, ?_⟩, ?_, ?_⟩, ?_, ?_⟩
    · rw [List.pairwise_map]
      refine List.Pairwise.imp_of_mem (fun {x y} hx hy h => ?_) I.good
      rw [mkG x hx, mkG y hy]
      unfold R2 at h
      exact le3 (by omega)
    · have hsub : ([a.k0, a.k1].filter (fun m => decide (m ≠ 0))).Nodup := by
        have h1 := (I.perm.nodup_iff.mpr hnd)
        exact (List.nodup_append.mp (List.nodup_append.mp (List.nodup_append.mp h1).1).1).2.1
      have hp2 : ([a.k0, a.k1].filter (fun m => decide (m ≠ 0))).Pairwise fun x y => x = a.k0 ∧ y = a.k1 := List.Pairwise.filter _ (by simp)
      refine List.Pairwise.imp_of_mem (fun {x y} hx hy h => ?_) (hp2.and (List.nodup_iff_pairwise_ne.mp hsub))
      obtain ⟨i, e1, i0, _⟩ := mkK x hx
      obtain ⟨j, e2, _, j1⟩ := mkK y hy
      rw [e1, e2, i0 h.1.1, j1 h.1.2 (fun q => h.2 (h.1.1.trans q.symm))]
      exact le3 (by omega)
    · intro x hx k hk
      obtain ⟨g, hg, rfl⟩ := List.mem_map.mp hx
      obtain ⟨i, e, _⟩ := mkK k hk
      rw [mkG g hg, e]
      exact le3 (by omega)
    · rw [List.pairwise_map]
      refine List.Pairwise.imp_of_mem (fun {x y} hx hy h => ?_) I.quiet
      rw [mkQ x hx, mkQ y hy]
      unfold R2 at h
      exact le3 (by omega)
    · intro x hx y hy
      obtain ⟨q, hq, rfl⟩ := List.mem_map.mp hy
      rw [mkQ q hq]
      rcases List.mem_append.mp hx with hx | hx
      · obtain ⟨g, hg, rfl⟩ := List.mem_map.mp hx
        rw [mkG g hg]
        exact le3 (by omega)
      · obtain ⟨i, e, _⟩ := mkK x hx
        rw [e]
        exact le3 (by omega)
    · rw [List.pairwise_map]
      refine List.Pairwise.imp_of_mem (fun {x y} hx hy h => ?_) I.losing
      rw [mkL x hx, mkL y hy]
      unfold R2 at h
      exact le3 (by omega)
    · intro x hx y hy
      obtain ⟨q, hq, rfl⟩ := List.mem_map.mp hy
      rw [mkL q hq]
      rcases List.mem_append.mp hx with hx | hx
      · rcases List.mem_append.mp hx with hx | hx
        · obtain ⟨g, hg, rfl⟩ := List.mem_map.mp hx
          rw [mkG g hg]
          exact le3 (by omega)
        · obtain ⟨i, e, _⟩ := mkK x hx
          rw [e]
          exact le3 (by omega)
      · obtain ⟨g, hg, rfl⟩ := List.mem_map.mp hx
        rw [mkQ g hg]
        exact le3 (by omega)
  have h3 : ∀ x ∈ ms, x.length = 3 := fun x hx => by
    obtain ⟨m, _, rfl⟩ := List.mem_map.mp (hp.mem_iff.mp hx)
    exact mark_key.2
  have key : ms = (a.good.map (·.2) ++ [a.k0, a.k1].filter (fun m => decide (m ≠ 0)) ++ a.quiet.map (·.2) ++ a.losing.map (·.2)).map (markM noisy gains ps scT) := by
    refine List.Perm.eq_of_pairwise (le := fun x y => lex y x = false) (fun x y hx hy h1 h2 => ?_) (adj_pairwise ha h3) (List.pairwise_map.mpr hsorted) (hp.trans (I.perm.map _).symm)
    by_cases e : x = y
    · exact e
    · obtain ⟨m, _, rfl⟩ := List.mem_map.mp hy
      have := lex_total x _ ((h3 x hx).trans mark_key.2.symm) e h2
      rw [h1] at this; cases this
  rw [key, List.map_map]
  conv => rhs; rw [← List.map_id (a.good.map (·.2) ++ [a.k0, a.k1].filter (fun m => decide (m ≠ 0)) ++ a.quiet.map (·.2) ++ a.losing.map (·.2))]
  exact List.map_congr_left fun m _ => mark_key.1
theorem order_perm : (orderM noisy gains p0 p1 sc (rangeKs 1 n)).Perm (rangeKs 1 n) := (Inv.all n).perm
end
end
section
theorem on_S1 : True := by
  k_with_none
  k_with "om0" => (first | with_reducible assumption | exact cj0 (by with_reducible assumption) | exact cj1 (by with_reducible assumption) | exact cj2 (by with_reducible assumption) | exact cj3 (by with_reducible assumption) | exact cj4 (by with_reducible assumption) | exact cj5 (by with_reducible assumption) | exact cj6 (by with_reducible assumption) | exact cj7 (by with_reducible assumption) | exact cj8 (by with_reducible assumption) | exact cj9 (by with_reducible assumption) | exact cj10 (by with_reducible assumption) | exact cj11 (by with_reducible assumption) | exact cj12 (by with_reducible assumption) | exact ce1 (by with_reducible assumption) | exact ce2 (by with_reducible assumption) | exact ce3 (by with_reducible assumption) | exact ce4 (by with_reducible assumption) | exact ce5 (by with_reducible assumption) | exact ce6 (by with_reducible assumption) | exact ce7 (by with_reducible assumption) | exact ce8 (by with_reducible assumption) | exact ce9 (by with_reducible assumption) | exact ce10 (by with_reducible assumption) | exact ce11 (by with_reducible assumption) | exact ce12 (by with_reducible assumption))
  k_with "om2" => (first | k_extra "om0" | ((with_reducible refine Nat.ne_of_lt ?_); k_extra "om0") | ((with_reducible refine Nat.ne_of_gt ?_); k_extra "om0") | ((with_reducible refine Ne.symm ?_); k_extra "om0") | ((with_reducible refine' Nat.lt_of_le_of_lt (Nat.add_le_add_left ?p9 _) ?q9); (case q9 => with_reducible assumption); (case p9 => decide)) | ((with_reducible refine' Nat.le_trans ?p9 ?q9); (case p9 => k_extra "om0"); (case q9 => decide)) | ((with_reducible refine' Nat.lt_of_le_of_lt ?p9 ?q9); (case p9 => k_extra "om0"); (case q9 => decide)) | ((with_reducible refine' Int.le_trans ?p9 ?q9); (case p9 => k_extra "om0"); (case q9 => decide)) | ((with_reducible refine' Int.le_trans ?p9 ?q9); (case q9 => k_extra "om0"); (case p9 => decide)) | ((with_reducible refine' Int.lt_of_le_of_lt ?p9 ?q9); (case p9 => k_extra "om0"); (case q9 => decide)) | ((with_reducible refine' Int.lt_of_lt_of_le ?p9 ?q9); (case q9 => k_extra "om0"); (case p9 => decide)) | ((with_reducible refine And.intro ?_ ?_) <;> omega) | lia)
  trivial
/-! the search over the world -/
section
variable {w : World} {a : Ad} {σ : St}
theorem step_set2 {H h' : Heap} {σ' : St} {wr : List Addr} (us : List (Nat × Addr × Obj)) (nd : a.fix.Nodup) (hA : AllAt H (WL a σ)) (K : Kept wr H h') (e : WX a σ' = us.foldl (fun l u => l.set u.1 u.2) (WX a σ))
    (hw : ∀ b ∈ wr, b ∈ a.fix ∧ ∃ u ∈ us, u.2.1 = b) (hu : ∀ u ∈ us, a.fix[u.1]? = some u.2.1 ∧ h'.get? u.2.1 = some u.2.2) (hi : AllAt h' σ'.imm) (h1 : ∀ p ∈ σ'.imm, p ∈ σ.imm ∨ H.get? p.1 = none) (h2 : ∀ p ∈ σ.imm, p ∈ σ'.imm) : Step a H σ h' σ' := by
  refine ⟨fun p hp => ?_, h1, h2⟩
  rcases List.mem_append.mp hp with hp | hp
  · rw [e] at hp
    refine at_set us (by rw [WX_fix]; exact nd) (by rw [WX_fix]; exact hu) (fun p hp hn => K _ _ (hA p (List.mem_append_left _ hp)) fun q => ?_) p hp
    obtain ⟨_, u, hu, e⟩ := hw _ q
    exact hn u hu e.symm
  · exact hi p hp
theorem Rws.mono {imm imm' : List (Addr × Obj)} (h : Rws a imm) (hs : ∀ p ∈ imm, p ∈ imm') : Rws a imm' :=
  ⟨h.n, h.va, h.nva, h.lch, fun i hi => let ⟨nb, vs, k, e, hm, hv⟩ := h.ch i hi; ⟨nb, vs, k, e, hs _ hm, hv⟩, fun i hi => let ⟨nb, vs, k, e, hm, hv⟩ := h.no i hi; ⟨nb, vs, k, e, hs _ hm, hv⟩, fun i hi => let ⟨nb, vs, k, e, hm, hv⟩ := h.ga i hi; ⟨nb, vs, k, e, hs _ hm, hv⟩, h.lens, h.kids, h.vals⟩
theorem off_new {H : Heap} {imm' : List (Addr × Obj)} (hA : AllAt H (WL a σ)) (off : ∀ p ∈ σ.imm, p.1 ∉ a.fix) (h1 : ∀ p ∈ imm', p ∈ σ.imm ∨ H.get? p.1 = none) : ∀ p ∈ imm', p.1 ∉ a.fix := fun p hp => by
  rcases h1 p hp with q | q
  · exact off p q
  · intro hf
    obtain ⟨x, hx, e⟩ := fix_in σ hf
    have := hA x hx
    rw [e, q] at this; cases this
theorem note_W (h : WB w a σ) {c rc : List (Int × Int)} {f1 f2 tried : List Int} {side ply depth earlier best : Int} {t1 t2 t3 t4 t5 t6 : Tok} {Tr tn : Nat} {tvs : List Value}
    (hs : 0 ≤ side ∧ side ≤ 1) (hp : 0 ≤ ply ∧ ply ≤ 8) (hdp : 1 ≤ depth ∧ depth ≤ 3) (hea : 0 ≤ earlier ∧ earlier ≤ 3) (hb : 1 ≤ best ∧ best ≤ 3) (hc : WFc a.l c) (a0 : Agr c σ.xs) (a2 : Agr rc σ.ys) (hpr : Prs σ.imm σ.plv f1 f2) (e1 : f1.length = σ.plv.length) (e2 : f2.length = σ.plv.length)
    (ht : IntsAre tvs tried) (htr : ∀ m ∈ tried, 1 ≤ m ∧ m ≤ 3) (hT : a.D2 < Tr) (hsc : σ.sc = rewC a.l c side depth best tried) (hrc : σ.rc = if earlier ≠ 0 then kdfPut rc (side * 65536 + earlier) best else rc) (hf1 : σ.f1 = (addK f1 f2 ply best).1) (hf2 : σ.f2 = (addK f1 f2 ply best).2) :
    Con w 375 [.ref a.Rc, .int a.l t1, .int side t2, .int ply t3, .int depth t4, .int earlier t5, .int best t6, .ref Tr] ((Tr, listOf tvs.toArray tn) :: WL a σ) [] [a.D0, a.Pl, a.D2] 4 16
      (fun H r h' => r = .none ∧ ∃ σ', Step a H σ h' σ' ∧ WF w a σ' ∧ σ'.path = σ.path) := by
  have o := h.ord.o2
  have hpls := h.ord.pls
  have hfx : ∀ x ∈ [a.D0, a.Pl, a.D2], x ∈ a.fix := fun x hx => by
    simp only [List.mem_cons, List.not_mem_nil, or_false] at hx
    rcases hx with rfl | rfl | rfl <;> (unfold Ad.fix; k_mem)
  have hoff : ∀ p ∈ σ.imm, p.1 ≠ a.D0 ∧ p.1 ≠ a.Pl ∧ p.1 ≠ a.D2 := fun p hp => ⟨fun e => h.off p hp (e ▸ hfx _ (.head _)), fun e => h.off p hp (e ▸ hfx _ (.tail _ (.head _))), fun e => h.off p hp (e ▸ hfx _ (.tail _ (.tail _ (.head _))))⟩
  refine ((law_note_ok (t1 := t1) (t2 := t2) (t3 := t3) (t4 := t4) (t5 := t5) (t6 := t6) (npl := σ.npl) (tn := tn) h.ord.lim hs hp hdp hea hb h.ord.l0 h.ord.l2 h.t0 h.t2 hc a0 a2 hpr (by have := h.lpl; omega) e1 e2 ht htr h.noit (by omega) hoff (by omega) hT).frame (W := (Tr, listOf tvs.toArray tn) :: WL a σ) ?_ ?_).post fun H r h' hA K p => ?_
  · exact fun p hp => .tail _ (wx (sub_re p (by
      simp only [List.mem_cons, List.not_mem_nil, or_false] at hp
      rcases hp with rfl | rfl | rfl <;> k_mem)))
  · intro p hp
    rcases List.mem_append.mp hp with hp | hp
    · simp only [List.mem_cons, List.not_mem_nil, or_false] at hp
      rcases hp with rfl | rfl
      · exact .tail _ (wx (sub_re _ (by k_mem)))
      · exact .head _
    · exact .tail _ (wim hp)
  obtain ⟨rfl, o0', o2', plv', npl', xs', ys', imm', q1, q2, q3, q4, q5, q6, q7, q8, q9, q10, q11⟩ := p
  have hA' : AllAt H (WL a σ) := fun p hp => hA p (.tail _ hp)
  refine ⟨rfl, { σ with d0 := o0', xs := xs', plv := plv', npl := npl', d2 := o2', ys := ys', imm := imm' }, step_set2 [(18, a.D0, o0'), (19, a.Pl, listOf plv'.toArray npl'), (20, a.D2, o2')] h.ord.nd hA' K rfl ?_ ?_ q2 q4 q3, ⟨⟨h.ord, h.rws.mono q3, off_new hA' h.off q4, h.path, h.k1, h.k2, h.e1, h.e2, h.hi, h.wsc, h.cn, h.wrc, q6, q7, (by rw [q10]; exact h.lpl), q5, h.kb⟩, by rw [hsc]; exact q8, by rw [hrc]; exact q9, by rw [hf1, hf2]; exact q11⟩, rfl⟩
  · intro b hb
    refine ⟨hfx b hb, ?_⟩
    simp only [List.mem_cons, List.not_mem_nil, or_false] at hb
    rcases hb with rfl | rfl | rfl
    · exact ⟨_, .head _, rfl⟩
    · exact ⟨_, .tail _ (.head _), rfl⟩
    · exact ⟨_, .tail _ (.tail _ (.head _)), rfl⟩
  · intro u hu
    simp only [List.mem_cons, List.not_mem_nil, or_false] at hu
    rcases hu with rfl | rfl | rfl
    · exact ⟨rfl, q1 (a.D0, o0') (.head _)⟩
    · exact ⟨rfl, q1 (a.Pl, _) (.tail _ (.head _))⟩
    · exact ⟨rfl, q1 (a.D2, o2') (.tail _ (.tail _ (.head _)))⟩
theorem WF.onPath (h : WF w a σ) {pvs : List Value} {np : Nat} {path : List Int} (hp : IntsAre pvs path) : WF w a { σ with pvs := pvs, np := np, path := path } :=
  ⟨⟨h.ord, h.rws, h.off, hp, h.k1, h.k2, h.e1, h.e2, h.hi, h.wsc, h.cn, h.wrc, h.t0, h.t2, h.lpl, h.noit, h.kb⟩, h.agr, h.agr2, h.prs⟩
/-- the world at the end of a frame, told from its start -/
theorem step_end {g h' H : Heap} {L : Addr} {σ' : St} {own : List (Addr × Obj)} (Z : From H g (WL a σ) L) (N : News g L h' (own ++ WL a σ')) (off : ∀ p ∈ σ'.imm, p.1 ∉ a.fix) (mono : ∀ p ∈ σ.imm, p ∈ σ'.imm) : Step a H σ h' σ' := by
  refine ⟨fun p hp => (N p (List.mem_append_right _ hp)).1, fun p hp => ?_, mono⟩
  have q := N p (List.mem_append_right _ (wim hp))
  by_cases hm : p.1 ∈ (WL a σ).map (·.1)
  · obtain ⟨x, hx, e⟩ := List.mem_map.mp hm
    rcases WL_addr hx with h1 | h1
    · exact absurd (e ▸ h1) (off p hp)
    · have q2 := N x (List.mem_append_right _ (wim (mono x h1)))
      have : p = x := by
        obtain ⟨p1, p2⟩ := p
        obtain ⟨x1, x2⟩ := x
        have e : x1 = p1 := e
        subst e
        have h3 := q.1.symm.trans q2.1
        exact Prod.ext rfl (Option.some.inj h3)
      exact .inl (this ▸ h1)
  · exact .inr (Z.fresh q.2.2 hm)
theorem AtN.of_path {σ' : St} {node : Nat} {ply : Int} (h : AtN a σ node ply) (e : σ'.path = σ.path) : AtN a σ' node ply := ⟨h.lt, by rw [e]; exact h.last, by rw [e]; exact h.len, h.ply⟩
theorem AtN.down {σ' : St} {node kid : Nat} {ply : Int} (h : AtN a σ node ply) (e : σ'.path = σ.path ++ [(kid : Int)]) (hk : kid < a.T.ch.length) (hp : ply ≤ 5) : AtN a σ' kid (ply + 1) := by
  have hl := h.len
  have hp0 := h.ply
  refine ⟨hk, ?_, ?_, by omega⟩
  · rw [e, List.length_append]
    have : (-1 + ((σ.path.length + [(kid : Int)].length : Nat) : Int)).toNat = σ.path.length := by simp; omega
    rw [this, List.getD_eq_getElem?_getD, List.getElem?_append_right (Nat.le_refl _)]
    simp
  · rw [e, List.length_append]; simp; omega
theorem addK_len {f1 f2 : List Int} {ply m : Int} : (addK f1 f2 ply m).1.length = f1.length ∧ (addK f1 f2 ply m).2.length = f2.length := by
  unfold addK
  split <;> simp
theorem addK_kb {f1 f2 : List Int} {ply m : Int} (h : (∀ x ∈ f1, 0 ≤ x ∧ x ≤ 3) ∧ ∀ x ∈ f2, 0 ≤ x ∧ x ≤ 3) (hm : 0 ≤ m ∧ m ≤ 3) : (∀ x ∈ (addK f1 f2 ply m).1, 0 ≤ x ∧ x ≤ 3) ∧ ∀ x ∈ (addK f1 f2 ply m).2, 0 ≤ x ∧ x ≤ 3 := by
  unfold addK
  split
  · refine ⟨fun x hx => ?_, fun x hx => ?_⟩
    · rcases List.mem_or_eq_of_mem_set hx with q | q
      · exact h.1 x q
      · exact q ▸ hm
    · rcases List.mem_or_eq_of_mem_set hx with q | q
      · exact h.2 x q
      · rw [q, List.getD_eq_getElem?_getD]
        by_cases z : ply.toNat < f1.length
        · rw [List.getElem?_eq_getElem z]; exact h.1 _ (List.getElem_mem z)
        · rw [List.getElem?_eq_none (by omega)]; exact ⟨by decide, by decide⟩
  · exact h
theorem WFc.rew {l : Int} {c : List (Int × Int)} (h : WFc l c) (hl : 1 ≤ l) {side depth best : Int} {tried : List Int} (hs : 0 ≤ side ∧ side ≤ 1) (hd : 0 ≤ depth ∧ depth ≤ 3) (hm : 0 ≤ best ∧ best ≤ 3) (ht : ∀ m ∈ tried, 0 ≤ m ∧ m ≤ 3) : WFc l (rewC l c side depth best tried) :=
  WFc.lows hl hs (bonus_bound hl hd) tried (h.upd hl hs hm (by have := bonus_bound hl hd; omega)) ht
theorem WB.rewarded (h : WB w a σ) {side depth ply best : Int} {tried : List Int} {vs1 vs2 : List Value} {n1 n2 : Nat} {so : Obj} {skv : List (Int × Value)} (hs : 0 ≤ side ∧ side ≤ 1) (hd : 0 ≤ depth ∧ depth ≤ 3) (hm : 0 ≤ best ∧ best ≤ 3) (ht : ∀ m ∈ tried, 0 ≤ m ∧ m ≤ 3)
    (i1 : IntsAre vs1 (addK σ.f1 σ.f2 ply best).1) (i2 : IntsAre vs2 (addK σ.f1 σ.f2 ply best).2) (i3 : intD w so skv (rewC a.l σ.sc side depth best tried)) :
    WB w a { σ with vs1 := vs1, n1 := n1, f1 := (addK σ.f1 σ.f2 ply best).1, vs2 := vs2, n2 := n2, f2 := (addK σ.f1 σ.f2 ply best).2, so := so, skv := skv, sc := rewC a.l σ.sc side depth best tried } :=
  ⟨h.ord, h.rws, h.off, h.path, i1, i2, by (show ((addK σ.f1 σ.f2 ply best).1.length : Int) = a.pl); rw [addK_len.1]; exact h.e1, by (show ((addK σ.f1 σ.f2 ply best).2.length : Int) = a.pl); rw [addK_len.2]; exact h.e2, i3, h.wsc.rew (by have := h.ord.lim; omega) hs hd hm ht, h.cn, h.wrc, h.t0, h.t2, h.lpl, h.noit, addK_kb h.kb hm⟩
theorem WB.counted (h : WB w a σ) {side earlier mv : Int} {ro : Obj} {rkv : List (Int × Value)} (hs : 0 ≤ side ∧ side ≤ 1) (he : 0 ≤ earlier ∧ earlier ≤ 3) (hm : 0 ≤ mv ∧ mv ≤ 3) (i : intD w ro rkv (if earlier ≠ 0 then kdfPut σ.rc (side * 65536 + earlier) mv else σ.rc)) :
    WB w a { σ with ro := ro, rkv := rkv, rc := if earlier ≠ 0 then kdfPut σ.rc (side * 65536 + earlier) mv else σ.rc } :=
  ⟨h.ord, h.rws, h.off, h.path, h.k1, h.k2, h.e1, h.e2, h.hi, h.wsc, i, by
    show WFc 3 (if earlier ≠ 0 then kdfPut σ.rc (side * 65536 + earlier) mv else σ.rc)
    split
    · exact h.wrc.put (key_mem hs he) (by omega)
    · exact h.wrc, h.t0, h.t2, h.lpl, h.noit, h.kb⟩
theorem step_news2 {g h h' : Heap} {L : Addr} {m : Str → Option Value} {σ' : St} {ow news : List (Addr × Obj)} {wr : List Addr} (F : Fr g L h m) (N : News g L h news) (hs : ∀ p ∈ WL a σ, p ∈ news) (how : ∀ p ∈ ow, p ∈ news) (K : Kept wr h h') (ho : ∀ p ∈ ow, p.1 ∉ wr) (S : Step a h σ h' σ') : News g L h' (ow ++ WL a σ') :=
  step_news F (fun p hp => N p ((List.mem_append.mp hp).elim (how p) (hs p))) K ho S
theorem step_news3 {g h h' : Heap} {L Tr : Addr} {o : Obj} {m : Str → Option Value} {σ' : St} {own news : List (Addr × Obj)} {wr : List Addr} (F : Fr g L h m) (N : News g L h news) (hs : ∀ p ∈ WL a σ, p ∈ news) (hT : (Tr, o) ∈ news) (how : ∀ p ∈ own, p ∈ news) (K : Kept wr h h') (ho : ∀ p ∈ (Tr, o) :: own, p.1 ∉ wr) (S : Step a h σ h' σ') : News g L h' ((Tr, o) :: (WL a σ' ++ own)) := fun p hp =>
  step_news2 (ow := (Tr, o) :: own) F N hs (fun _ hq => (List.mem_cons.mp hq).elim (fun e => e ▸ hT) (how _)) K ho S p (by
    rcases List.mem_cons.mp hp with rfl | hp
    · exact .head _
    · exact (List.mem_append.mp hp).elim (fun q => List.mem_append_right _ q) fun q => .tail _ (List.mem_append_left _ q))
theorem step_off {h h' : Heap} {σ' : St} {Tr : Addr} (S : Step a h σ h' σ') (hq : ∀ p ∈ σ.imm, p.1 ≠ Tr) (hl : (h.get? Tr).isSome = true) : ∀ p ∈ σ'.imm, p.1 ≠ Tr := fun p hp e => by
  rcases S.imm p hp with q | q
  · exact hq p q e
  · rw [e] at q; rw [q] at hl; cases hl
theorem WL_off {Tr : Addr} (hf : ∀ x ∈ a.fix, x ≠ Tr) (hq : ∀ p ∈ σ.imm, p.1 ≠ Tr) : ∀ p ∈ WL a σ, p.1 ≠ Tr := fun p hp => by
  rcases WL_addr hp with h1 | h1
  · exact hf _ h1
  · exact hq p h1
theorem push3 {g h h' : Heap} {L Tr : Addr} {o o' : Obj} {rest : List (Addr × Obj)} (N : News g L h ((Tr, o) :: rest)) (K : Kept [Tr] h h') (hg : h'.get? Tr = some o') (hn : ∀ p ∈ rest, p.1 ≠ Tr) : News g L h' ((Tr, o') :: rest) := fun p hp => by
  rcases List.mem_cons.mp hp with rfl | hp
  · exact ⟨hg, (N _ (.head _)).2⟩
  · have q := N p (.tail _ hp)
    exact ⟨K _ _ q.1 fun z => hn p hp (List.mem_singleton.mp z), q.2⟩
theorem ne_fresh {g h : Heap} {L b : Addr} {news : List (Addr × Obj)} (N : News g L h news) (hs : ∀ p ∈ WL a σ, p ∈ news) (hn : h.get? b = none) : ∀ x ∈ a.fix, x ≠ b := fun x hx e => by
  obtain ⟨p, hp, q⟩ := fix_in σ hx
  have := (N p (hs p hp)).1
  rw [q, e, hn] at this; cases this
theorem news_two {g h : Heap} {L b : Addr} {o : Obj} {news l : List (Addr × Obj)} (N : News g L h news) (hm : (b, o) ∈ news) (hs : ∀ p ∈ l, p ∈ news) : News g L h ((b, o) :: l) := fun p hp => (List.mem_cons.mp hp).elim (fun e => e ▸ N _ hm) fun q => N p (hs p q)
theorem wr_fix {x : Addr} (hx : x ∈ [a.P, a.F1, a.F2, a.S, a.R, a.D0, a.Pl, a.D2]) : x ∈ a.fix := by
  simp only [List.mem_cons, List.not_mem_nil, or_false] at hx
  rcases hx with rfl | rfl | rfl | rfl | rfl | rfl | rfl | rfl <;> (unfold Ad.fix; k_mem)
theorem own_wr {own : List (Addr × Obj)} {Tr : Addr} {o : Obj} {adr : List Addr} (hT : ∀ x ∈ adr, x ≠ Tr) (ho : OwnOff own (Tr :: adr)) : ∀ p ∈ (Tr, o) :: own, p.1 ∉ adr := fun p hp q => by
  rcases List.mem_cons.mp hp with rfl | hp
  · exact hT _ q rfl
  · exact ho p hp _ (.tail _ q) rfl
theorem pair_join {prog : Program} {w : World} {A : Around} {E : Value → Shared → Prop} {s : Shared} {env : Env} {st : Stmt} {rest : List Stmt} {Q : Flow → Shared → Prop} {g : Heap} {L : Addr} {m : Str → Option Value} (x : Str) (_F : Fr g L s.heap m) (P : Addr → List (Addr × Obj) → Prop)
    (h1 : wpAny (model prog w) A (exec st env) (fun fl s' => JQ g L (fun m' n' => ∃ pr, m' = (fun y => if y = x then some (.ref pr) else m y) ∧ P pr n') s fl s') E s)
    (h2 : ∀ h' tk' pr news', Fr g L h' (fun y => if y = x then some (.ref pr) else m y) → News g L h' news' → P pr news' → wpAny (model prog w) A (execs rest env) Q E { s with heap := h', toks := tk' }) : wpAny (model prog w) A (execs (st :: rest) env) Q E s :=
  if_join _F _ h1 fun h' tk' m' news' F' N' j => by obtain ⟨pr, rfl, p⟩ := j; exact h2 h' tk' pr news' F' N' p
theorem pair_back {g h' : Heap} {L : Addr} {m : Str → Option Value} {s : Shared} {x : Str} {P : Addr → List (Addr × Obj) → Prop} {tk' : Nat} {news' : List (Addr × Obj)} {pr : Addr} (F : Fr g L h' (fun y => if y = x then some (.ref pr) else m y)) (N : News g L h' news') (p : P pr news') :
    JQ g L (fun m' n' => ∃ pr, m' = (fun y => if y = x then some (.ref pr) else m y) ∧ P pr n') s .next { s with heap := h', toks := tk' } := if_back F N ⟨pr, rfl, p⟩
abbrev wrW (a : Ad) : List Addr := [a.P, a.F1, a.F2, a.S, a.R, a.D0, a.Pl, a.D2]
theorem WX_same {σ' : St} : ∀ p ∈ WX a σ, p.1 ∈ wrW a ∨ p ∈ WX a σ' := by
  (repeat (refine all_cons (by first | exact .inl (by k_mem) | exact .inr (by k_mem)) ?_))
  exact List.forall_mem_nil _
theorem WL_kept {σ' : St} {g h' : Heap} {L : Addr} {nn : List (Addr × Obj)} (N : News g L h' nn) (hs : ∀ p ∈ WL a σ', p ∈ nn) (mono : ∀ p ∈ σ.imm, p ∈ σ'.imm) : ∀ p ∈ WL a σ, p.1 ∈ wrW a ∨ h'.get? p.1 = some p.2 := fun p hp => by
  rcases List.mem_append.mp hp with q | q
  · exact (WX_same (σ' := σ') p q).imp id fun z => (N p (hs p (wx z))).1
  · exact .inr (N p (hs p (wim (mono p q)))).1
theorem seek_post {H g h' : Heap} {L D : Addr} {σ' : St} {nn : List (Addr × Obj)} {v alpha beta T : Int} {tv : Tok} {ok : Obj} (Z : From H g (WL a σ) L) (N : News g L h' nn) (hs : ∀ p ∈ WL a σ', p ∈ nn) (hD : (D, ok) ∈ nn) (hok : ok = tupO [.int v tv, .bool true]) (hlt : ∀ p ∈ WL a σ', p.1 < D)
    (hW : WF w a σ') (mono : ∀ p ∈ σ.imm, p ∈ σ'.imm) (hp : σ'.path = σ.path) (S : Spec v alpha beta T) :
    ∃ v σ' ra tv, Value.ref D = .ref ra ∧ H.get? ra = none ∧ h'.get? ra = some (tupO [.int v tv, .bool true]) ∧ Step a H σ h' σ' ∧ WF w a σ' ∧ σ'.path = σ.path ∧ Spec v alpha beta T := by
  subst hok
  refine ⟨v, σ', D, tv, rfl, Z.fresh (N _ hD).2.2 fun hm => ?_, (N _ hD).1, step_end (own := []) Z (fun p q => N p (hs p q)) hW.off mono, hW, hp, S⟩
  obtain ⟨x, hx, e⟩ := List.mem_map.mp hm
  rcases WL_addr hx with h1 | h1
  · obtain ⟨y, hy, e2⟩ := fix_in σ' h1
    have := hlt y hy
    rw [e2, e] at this; exact Nat.lt_irrefl _ this
  · have := hlt x (wim (mono x h1))
    rw [e] at this; exact Nat.lt_irrefl _ this
end
end
section
theorem on_S4 : True := by
  k_with_none
  k_with "om2" => (lia)
  trivial
/-! the ends of the search's loop, plain -/
theorem range_mem {n : Nat} {k : Nat} (h : k < n) : ((k : Int) + 1) ∈ rangeKs 1 n := by
  unfold rangeKs
  exact List.mem_map.mpr ⟨k, List.mem_range.mpr h, by omega⟩
theorem range_in {n : Nat} {m : Int} (h : m ∈ rangeKs 1 n) : 1 ≤ m ∧ m ≤ n := by
  unfold rangeKs at h
  obtain ⟨j, hj, rfl⟩ := List.mem_map.mp h
  have := List.mem_range.mp hj
  omega
theorem getD_inI {xs : List Int} {k : Nat} (h : k < xs.length) : xs.getD k 0 ∈ xs := by
  rw [List.getD_eq_getElem?_getD, List.getElem?_eq_getElem h]; exact List.getElem_mem h
def seekS (T : Tre) (node d : Nat) (ord : List Int) (j : Nat) : Int := -plainM T d ((T.ch.getD node []).getD (ord.getD j 0 - 1).toNat 0).toNat
theorem seek_le {T : Tre} {node d j : Nat} {ord : List Int} (hp : ord.Perm (rangeKs 1 (T.ch.getD node []).length)) (hd : d ≠ 0) (h : j < ord.length) : seekS T node (d - 1) ord j ≤ plainM T d node := by
  obtain ⟨e, rfl⟩ := Nat.exists_eq_succ_of_ne_zero hd
  have q := range_in (hp.mem_iff.mp (getD_inI h))
  exact plain_ge (getD_inI (by omega))
theorem seek_one {T : Tre} {node d : Nat} {ord : List Int} (hp : ord.Perm (rangeKs 1 (T.ch.getD node []).length)) (hd : d ≠ 0) (hne : (T.ch.getD node []).length ≠ 0) : ∃ j, j < ord.length ∧ plainM T d node = seekS T node (d - 1) ord j := by
  obtain ⟨e, rfl⟩ := Nat.exists_eq_succ_of_ne_zero hd
  obtain ⟨c, hc, q⟩ := plain_in (d := e) (fun z => hne (by rw [z]; rfl))
  obtain ⟨k, hk, rfl⟩ := List.getElem_of_mem hc
  obtain ⟨j, hj, z⟩ := List.getElem_of_mem (hp.mem_iff.mpr (range_mem hk))
  refine ⟨j, hj, q.trans ?_⟩
  unfold seekS
  rw [List.getD_eq_getElem?_getD (l := ord), List.getElem?_eq_getElem hj, Option.getD_some, z, show ((k : Int) + 1 - 1).toNat = k by omega, List.getD_eq_getElem?_getD (l := T.ch.getD node []), List.getElem?_eq_getElem hk]
  rfl
theorem seek_at {T : Tre} {node d i : Nat} {ord : List Int} {mv : Int} (h : ord[i]? = some mv) : -seekS T node d ord i = plainM T d ((T.ch.getD node []).getD (mv - 1).toNat 0).toNat := by
  unfold seekS
  rw [List.getD_eq_getElem?_getD (l := ord), h, Option.getD_some]
  omega
theorem max_if (b v : Int) : (if v > b then v else b) = max b v := by split <;> omega
theorem turn_cut {T : Tre} {node d i : Nat} {ord : List Int} {mv v alpha beta best al : Int} (h : LoopS (seekS T node (d - 1) ord) alpha beta i best al) (hS : Spec v (-beta) (-al) (plainM T (d - 1) ((T.ch.getD node []).getD (mv - 1).toNat 0).toNat)) (hm : ord[i]? = some mv) (hp : ord.Perm (rangeKs 1 (T.ch.getD node []).length)) (hd : d ≠ 0) (hb : beta ≤ 1000)
    (hn : beta ≤ if -v > best then -v else best) : Spec (if -v > best then -v else best) alpha beta (plainM T d node) := by
  rw [max_if] at hn ⊢
  refine h.cut ?_ hn (seek_le hp hd (List.getElem?_eq_some_iff.mp hm).1) hb
  rw [seek_at hm]; exact hS
theorem turn_step {T : Tre} {node d i : Nat} {ord : List Int} {mv v alpha beta best al : Int} (h : LoopS (seekS T node (d - 1) ord) alpha beta i best al) (hS : Spec v (-beta) (-al) (plainM T (d - 1) ((T.ch.getD node []).getD (mv - 1).toNat 0).toNat)) (hm : ord[i]? = some mv)
    (hn : ¬ beta ≤ if -v > best then -v else best) : LoopS (seekS T node (d - 1) ord) alpha beta (i + 1) (if -v > best then -v else best) (if -v > al then -v else al) := by
  rw [max_if] at hn ⊢
  rw [max_if]
  refine h.step ?_ (by omega)
  rw [seek_at hm]; exact hS
theorem turn_done {T : Tre} {node d n : Nat} {ord : List Int} {alpha beta best al : Int} (h : LoopS (seekS T node (d - 1) ord) alpha beta n best al) (hn : n = ord.length) (hp : ord.Perm (rangeKs 1 (T.ch.getD node []).length)) (hd : d ≠ 0) (hne : (T.ch.getD node []).length ≠ 0) : Spec best alpha beta (plainM T d node) := by
  subst hn
  exact h.done (fun j hj => seek_le hp hd hj) (seek_one hp hd hne)
theorem endJ_brk {h₀ : Heap} {L : Addr} {own : List (Addr × Obj)} {J : (Str → Option Value) → List (Addr × Obj) → Prop} {s₁ s₂ : Shared} {Q : Flow → Shared → Prop} (h : Q .next s₂) : EndJ h₀ L own J s₁ Q .brk s₂ := h
section
variable {w : World} {a : Ad} {σ σ' : St} {node : Nat} {ply : Int}
theorem leaf_val {alpha beta : Int} (h : WF w a σ) (n : AtN a σ node ply) : Spec (a.T.va.getD node 0) alpha beta (a.T.va.getD node 0) :=
  Spec.same (by have := h.rws.vals _ (getD_inI (xs := a.T.va) (k := node) (by rw [h.rws.nva]; exact n.lt)); omega)
theorem make_S (h : WF w a σ) (n : AtN a σ node ply) {mv : Int} {t1 : Tok} (hm : 1 ≤ mv ∧ mv ≤ (a.T.ch.getD node []).length) : Con w 276 [.ref a.G, .int mv t1] (WL a σ) [] [a.P] 2 8
    (fun H r h' => r = .none ∧ ∃ σ', Step a H σ h' σ' ∧ WF w a σ' ∧ σ'.path = σ.path ++ [(a.T.ch.getD node []).getD (mv - 1).toNat 0]) :=
  (make_W h.toWB n hm).post fun H r h' _ _ p => by
    obtain ⟨rfl, pvs, np, S, I⟩ := p
    exact ⟨rfl, _, S, h.onPath I, rfl⟩
theorem undo_S (h : WF w a σ) {path : List Int} {x : Int} (hp : σ.path = path ++ [x]) (hl : 1 ≤ path.length ∧ path.length ≤ 10) : Con w 283 [.ref a.G] (WL a σ) [] [a.P] 2 8
    (fun H r h' => r = .none ∧ ∃ σ', Step a H σ h' σ' ∧ WF w a σ' ∧ σ'.path = path) :=
  (undo_W h.toWB hp hl).post fun H r h' _ _ p => by
    obtain ⟨rfl, pvs, np, S, I⟩ := p
    exact ⟨rfl, _, S, h.onPath I, rfl⟩
/-- between the tables' reward and the records' note -/
structure Mid (a : Ad) (σ σ' : St) (side ply depth best : Int) (tried : List Int) (rc : List (Int × Int)) : Prop where
  sc : σ'.sc = rewC a.l σ.sc side depth best tried
  rc : σ'.rc = rc
  f1 : σ'.f1 = (addK σ.f1 σ.f2 ply best).1
  f2 : σ'.f2 = (addK σ.f1 σ.f2 ply best).2
  xs : σ'.xs = σ.xs
  ys : σ'.ys = σ.ys
  plv : σ'.plv = σ.plv
  imm : σ'.imm = σ.imm
  path : σ'.path = σ.path
theorem reward_S (h : WF w a σ) {side depth best : Int} {t1 t2 t3 t4 : Tok} {Tr tn : Nat} {tvs : List Value} {tried : List Int} (hs : 0 ≤ side ∧ side ≤ 1) (hm : 0 ≤ best ∧ best ≤ 3) (hdp : 0 ≤ depth ∧ depth ≤ 3) (hp : 0 ≤ ply ∧ ply ≤ 10)
    (ht : IntsAre tvs tried) (htr : ∀ m ∈ tried, 1 ≤ m ∧ m ≤ 3) (hT : a.F2 < Tr ∧ a.S < Tr) :
    Con w 205 [.ref a.Hx, .ref a.Kx, .int side t1, .int ply t2, .int depth t3, .int best t4, .ref Tr] ((Tr, listOf tvs.toArray tn) :: WL a σ) [] [a.S, a.F1, a.F2] 5 20
     (fun H r h' => r = .none ∧ ∃ σ', Step a H σ h' σ' ∧ WB w a σ' ∧ Mid a σ σ' side ply depth best tried σ.rc) :=
  have htr' : ∀ m ∈ tried, 0 ≤ m ∧ m ≤ 3 := fun m q => by have := htr m q; omega
  (reward_W h.toWB hs hm hdp hp ht htr' hT h.ord.oS).post fun H r h' _ _ p => by
    obtain ⟨rfl, vs1, n1, vs2, n2, so, skv, S, i1, i2, i3⟩ := p
    exact ⟨rfl, _, S, h.toWB.rewarded hs hdp hm htr' i1 i2 i3, ⟨rfl, rfl, rfl, rfl, rfl, rfl, rfl, rfl, rfl⟩⟩
theorem rcount_S (h : WB w a σ') {side depth best earlier : Int} {tried : List Int} (M : Mid a σ σ' side ply depth best tried σ.rc) {t1 t2 t3 : Tok} (hs : 0 ≤ side ∧ side ≤ 1) (he : 0 ≤ earlier ∧ earlier ≤ 3) (hm : 0 ≤ best ∧ best ≤ 3) : Con w 212 [.ref a.Cx, .int side t1, .int earlier t2, .int best t3] (WL a σ') [] [a.R] 4 16
    (fun H r h' => r = .none ∧ ∃ σ₂, Step a H σ' h' σ₂ ∧ WB w a σ₂ ∧ Mid a σ σ₂ side ply depth best tried (if earlier ≠ 0 then kdfPut σ.rc (side * 65536 + earlier) best else σ.rc)) :=
  (rcount_W h hs (by omega)).post fun H r h' _ _ p => by
    obtain ⟨rfl, ro, rkv, S, i⟩ := p
    refine ⟨rfl, _, S, h.counted hs he hm i, ⟨M.sc, ?_, M.f1, M.f2, M.xs, M.ys, M.plv, M.imm, M.path⟩⟩
    show (if earlier ≠ 0 then kdfPut σ'.rc (side * 65536 + earlier) best else σ'.rc) = _
    rw [M.rc]
theorem note_S (hW : WF w a σ) (h : WB w a σ') {side depth best earlier : Int} {tried : List Int} (M : Mid a σ σ' side ply depth best tried (if earlier ≠ 0 then kdfPut σ.rc (side * 65536 + earlier) best else σ.rc)) {t1 t2 t3 t4 t5 t6 : Tok} {Tr tn : Nat} {tvs : List Value}
    (hs : 0 ≤ side ∧ side ≤ 1) (hp : 0 ≤ ply ∧ ply ≤ 8) (hdp : 1 ≤ depth ∧ depth ≤ 3) (hea : 0 ≤ earlier ∧ earlier ≤ 3) (hb : 1 ≤ best ∧ best ≤ 3) (ht : IntsAre tvs tried) (htr : ∀ m ∈ tried, 1 ≤ m ∧ m ≤ 3) (hT : a.D2 < Tr) :
    Con w 375 [.ref a.Rc, .int a.l t1, .int side t2, .int ply t3, .int depth t4, .int earlier t5, .int best t6, .ref Tr] ((Tr, listOf tvs.toArray tn) :: WL a σ') [] [a.D0, a.Pl, a.D2] 4 16
      (fun H r h' => r = .none ∧ ∃ σ₂, Step a H σ' h' σ₂ ∧ WF w a σ₂ ∧ σ₂.path = σ.path) :=
  (note_W h (c := σ.sc) (rc := σ.rc) (f1 := σ.f1) (f2 := σ.f2) hs hp hdp hea hb hW.wsc (by rw [M.xs]; exact hW.agr) (by rw [M.ys]; exact hW.agr2) (by rw [M.imm, M.plv]; exact hW.prs) (by rw [M.plv]; have z1 := hW.e1; have z2 := hW.lpl; omega) (by rw [M.plv]; have z1 := hW.e2; have z2 := hW.lpl; omega) ht htr hT M.sc M.rc M.f1 M.f2).post fun H r h' _ _ p => by
    obtain ⟨rfl, σ₂, S, hW₂, e⟩ := p
    exact ⟨rfl, σ₂, S, hW₂, e.trans M.path⟩
end
end
section
theorem on_S2 : True := by
  k_with_none
  k_with "om2" => (lia)
  trivial
/-! _law_seek -/
def SeekC (w : World) (a : Ad) (d : Nat) : Prop := ∀ {σ : St} {node : Nat} {nd dp ply alpha beta earlier : Int} {t1 t2 t3 t4 t5 t6 : Tok}, WF w a σ → AtN a σ node ply → nd = (node : Int) → dp = (d : Int) → ply + d ≤ 4 → -1000 ≤ alpha ∧ alpha < beta ∧ beta ≤ 1000 → 0 ≤ earlier ∧ earlier ≤ 3 →
  Con w 382 [.ref a.G, .ref a.Rw, .int nd t1, .int dp t2, .int alpha t3, .int beta t4, .int ply t5, .int earlier t6, .ref a.Tb, .ref a.Rc] (WL a σ) [] (wrW a) (8 * d + 8) (80 * d + 80)
    (fun H r h' => ∃ v σ' ra tv, r = .ref ra ∧ H.get? ra = none ∧ h'.get? ra = some (tupO [.int v tv, .bool true]) ∧ Step a H σ h' σ' ∧ WF w a σ' ∧ σ'.path = σ.path ∧ Spec v alpha beta (plainM a.T d node))
theorem news_at {g h : Heap} {L : Addr} {a : Ad} {σ : St} {news : List (Addr × Obj)} (N : News g L h news) (hs : ∀ p ∈ WL a σ, p ∈ news) {b : Addr} {o : Obj} (hp : (b, o) ∈ WL a σ) : h.get? b = some o := (N _ (hs _ hp)).1
theorem order_tl {h : Heap} {imm : List (Addr × Obj)} {n1 n2 n3 n4 : Nat} {o1 o2 o3 o4 : Obj} (h1 : h.get? n1 = some o1) (h2 : h.get? n2 = some o2) (h3 : h.get? n3 = some o3) (h4 : h.get? n4 = some o4) (hi : ∀ p ∈ imm, h.get? p.1 = some p.2) : ∀ p ∈ [((n1 : Addr), o1), (n2, o2), (n3, o3), (n4, o4)] ++ imm, h.get? p.1 = some p.2 := fun p hp => by
  rcases List.mem_append.mp hp with hp | hp
  · simp only [List.mem_cons, List.not_mem_nil, or_false] at hp
    rcases hp with rfl | rfl | rfl | rfl <;> assumption
  · exact hi p hp
theorem lay2 {a b : Int} (ha : 0 ≤ a ∧ a ≤ 3) (hb : 0 ≤ b ∧ b ≤ 3) : PyData.layable0 (.list ([a, b].map .int)) = true := by
  have h1 : a = 0 ∨ a = 1 ∨ a = 2 ∨ a = 3 := by omega
  have h2 : b = 0 ∨ b = 1 ∨ b = 2 ∨ b = 3 := by omega
  rcases h1 with rfl | rfl | rfl | rfl <;> rcases h2 with rfl | rfl | rfl | rfl <;> decide +kernel
theorem lay0 : PyData.layable0 (.list (([] : List Int).map .int)) = true := by decide +kernel
theorem kb_get {f : List Int} {i : Nat} (h : ∀ x ∈ f, 0 ≤ x ∧ x ≤ 3) : 0 ≤ f.getD i 0 ∧ f.getD i 0 ≤ 3 := by
  rw [List.getD_eq_getElem?_getD]
  by_cases q : i < f.length
  · rw [List.getElem?_eq_getElem q]; exact h _ (List.getElem_mem q)
  · rw [List.getElem?_eq_none (by omega)]; exact ⟨by decide, by decide⟩
/-- the moves in the order in which they are tried -/
def seekO (a : Ad) (σ : St) (node : Nat) (ply : Int) : List Int := orderM (a.T.no.getD node []) (a.T.ga.getD node []) (σ.f1.getD ply.toNat 0) (σ.f2.getD ply.toNat 0) (fun m => kdfLook σ.sc (ply % 2 * 65536 + m) 0) (rangeKs 1 (a.T.ch.getD node []).length)
theorem lt_fix {a : Ad} {σ : St} {Tr : Addr} (q : AllLt Tr (WL a σ)) : ∀ x ∈ a.fix, x ≠ Tr := fun x hx => by
  obtain ⟨p, hp, e⟩ := fix_in σ hx
  have := of_allLt q p hp
  rw [e] at this
  exact Nat.ne_of_lt this
theorem lt_three {a : Ad} {σ : St} {Tr : Addr} (q : AllLt Tr (WL a σ)) : a.F2 < Tr ∧ a.S < Tr ∧ a.D2 < Tr := by
  have key : ∀ x ∈ a.fix, x < Tr := fun x hx => by
    obtain ⟨p, hp, e⟩ := fix_in σ hx
    exact e ▸ of_allLt q p hp
  exact ⟨key _ (by unfold Ad.fix; k_mem), key _ (by unfold Ad.fix; k_mem), key _ (by unfold Ad.fix; k_mem)⟩
theorem tried_in {tr : List Int} {mv : Int} (h : ∀ m ∈ tr, 1 ≤ m ∧ m ≤ 3) (hm : 1 ≤ mv ∧ mv ≤ 3) : ∀ m ∈ tr ++ [mv], 1 ≤ m ∧ m ≤ 3 := fun m hq => (List.mem_append.mp hq).elim (h m) fun q => List.mem_singleton.mp q ▸ hm
theorem ge_zero {tr : List Int} (h : ∀ m ∈ tr, 1 ≤ m ∧ m ≤ 3) : ∀ m ∈ tr, 0 ≤ m ∧ m ≤ 3 := fun m q => by have := h m q; omega
theorem of_allLtA {D : Addr} {l r : List (Addr × Obj)} (h : AllLt D (l ++ r)) : ∀ p ∈ l, p.1 < D := fun p hp => of_allLt h p (List.mem_append_left _ hp)
theorem lt_imm {a : Ad} {σ : St} {Tr : Addr} (q : AllLt Tr (WL a σ)) : ∀ p ∈ σ.imm, p.1 ≠ Tr := fun _ hp => Nat.ne_of_lt (of_allLt q _ (wim hp))
theorem lt_wr {a : Ad} {σ : St} {Tr : Addr} (q : AllLt Tr (WL a σ)) : ∀ x ∈ wrW a, x ≠ Tr := fun x hx => by
  obtain ⟨p, hp, e⟩ := fix_in σ (wr_fix hx)
  have := of_allLt q p hp
  rw [e] at this
  exact Nat.ne_of_lt this
theorem live_wr {g h : Heap} {L : Addr} {a : Ad} {σ : St} {news : List (Addr × Obj)} (N : News g L h news) (hs : ∀ p ∈ WL a σ, p ∈ news) {x : Addr} (hx : x ∈ wrW a) : (h.get? x).isSome = true := by
  obtain ⟨p, hp, e⟩ := fix_in σ (wr_fix hx)
  rw [← e, (N p (hs p hp)).1]; rfl
theorem name_tok {h₀ h : Heap} {L : Addr} {m : Str → Option Value} (_F : Fr h₀ L h m) (y : Str) {v : Int} {t : Tok} (e : m y = some (.int v t)) : ∃ t', m y = some (.int v t') := ⟨t, e⟩
theorem seek_mv {o : List Int} {n i : Nat} {m : Int} (hp : o.Perm (rangeKs 1 n)) (h : o[i]? = some m) : 1 ≤ m ∧ m ≤ n := by
  have := hp.mem_iff.mp (List.mem_of_getElem? h)
  unfold rangeKs at this
  obtain ⟨j, hj, rfl⟩ := List.mem_map.mp this
  have := List.mem_range.mp hj
  omega
theorem seek_lt {o : List Int} {n i : Nat} {m : Int} (hp : o.Perm (rangeKs 1 n)) (h : o[i]? = some m) : i < n := by
  have e := hp.length_eq
  unfold rangeKs at e
  rw [List.length_map, List.length_range] at e
  obtain ⟨z, _⟩ := List.getElem?_eq_some_iff.mp h
  omega
theorem getD_in {xs : List Int} {k : Nat} (h : k < xs.length) : xs.getD k 0 ∈ xs := by
  rw [List.getD_eq_getElem?_getD, List.getElem?_eq_getElem h]; exact List.getElem_mem h
theorem order_sc {c : List (Int × Int)} {xs : TT} {ply : Int} {n : Nat} (h : Agr c xs) (hp : 0 ≤ ply) (hn : n ≤ 3) (m : Int) (hm : m ∈ rangeKs 1 n) : tlook xs [ply.fmod 2, m] = kdfLook c (ply % 2 * 65536 + m) 0 := by
  rw [Int.fmod_eq_emod_of_nonneg _ (by omega)]
  unfold rangeKs at hm
  obtain ⟨i, hi, rfl⟩ := List.mem_map.mp hm
  have := List.mem_range.mp hi
  exact h _ _ (by omega) (by omega)
theorem wr_a {a : Ad} : ∀ x ∈ ([a.S, a.F1, a.F2] : List Addr), x ∈ wrW a := by (repeat (refine all_cons (by unfold wrW; k_mem) ?_)); exact List.forall_mem_nil _
theorem wr_b {a : Ad} : ∀ x ∈ ([a.R] : List Addr), x ∈ wrW a := by (repeat (refine all_cons (by unfold wrW; k_mem) ?_)); exact List.forall_mem_nil _
theorem wr_c {a : Ad} : ∀ x ∈ ([a.D0, a.Pl, a.D2] : List Addr), x ∈ wrW a := by (repeat (refine all_cons (by unfold wrW; k_mem) ?_)); exact List.forall_mem_nil _
set_option genInjectivity false
set_option genSizeOf false
structure LS where
  s : St
  best : Int
  alpha : Int
  tb : Tok
  ta : Tok
  tvs : List Value
  tried : List Int
  ntr : Nat
set_option maxHeartbeats 6000000 in
theorem seek_step {w : World} {a : Ad} {d : Nat} (ih : ∀ d', d = d' + 1 → SeekC w a d') (hd3 : d ≤ 3) : SeekC w a d := by
  intro σ node nd dp ply alpha beta earlier t1 t2 t3 t4 t5 t6 h n hnd hdp hpd hab hea
  subst hnd hdp
  have hply := n.ply
  have hcnt := (h.rws.lens node n.lt).2.2
  refine ex3 (h.rws.ch node n.lt) fun cnb cvs ck z₉ => an3 z₉ fun ce ci cv => ?_; clear z₉
  refine ex3 (h.rws.no node n.lt) fun nnb nvs nk z₉ => an3 z₉ fun ne ni nv => ?_; clear z₉
  refine ex3 (h.rws.ga node n.lt) fun gnb gvs gk z₉ => an3 z₉ fun ge gi gv => ?_; clear z₉
  have hlens := h.rws.lens node n.lt
  have hlpl := h.lpl
  have hpls := h.ord.pls
  have hB : Bx (WF w a σ) := ⟨h⟩
  have hNB : Bx (AtN a σ node ply) := ⟨n⟩
  have hn20 : node < 13 := by have := h.rws.n; have := n.lt; omega
  have hnit := noIt_WL h.toWB
  clear h n
  refine' con_enter [("game", .ref a.G), ("rows", .ref a.Rw), ("node", .int (node : Int) t1), ("depth", .int (d : Int) t2), ("alpha", .int alpha t3), ("beta", .int beta t4), ("ply", .int ply t5), ("earlier", .int earlier t6), ("tables", .ref a.Tb), ("records", .ref a.Rc)] ?ho ?hcd ?hb ?hl ?hdis ?_ ?c1 ?c2 ?c3 ?c4; (case ho => k_is); (case hcd => k_is); (case hb => exact rfl); (case hl => exact locs rfl); (try (case hdis => exact List.forall_mem_nil _)); (case c1 => exact rfl); (case c2 => exact rfl); (case c3 => exact rfl); (case c4 => decide); k_whole; intro dp un gd outer A₀ base g L h₁ H s mean mg mb B X T F N Tl Z hD hU; (try dsimp only); refine (let m9 : Str → Option Value := _; (fun (F : Fr _ _ _ m9) => ?_) F)
  k_fold
  k_with_none
  k_with "storeName" => (k_dflt (k_here; refine' store2 ?F ?N ?_ ?a ?b; (case F => k_asm); (case N => k_asm); (case a => rfl); (case b => rfl); k_whole; intro h' tk' F' N'; refine (let m9 : Str → Option Value := _; (fun (F' : Fr _ _ _ m9) => ?_) F'); (try k_sweep)))
  k_with "eval Constant int" => (k_dflt (first | with_reducible refine const_int3 ?_ | refine const_int3 ?_))
  k_with "binaryOp Add int int" => (k_dflt (first | with_reducible refine add_int3 ?_ | refine add_int3 ?_))
  k_with "binaryOp Sub int int" => (k_dflt (first | with_reducible refine sub_int3 ?_ | refine sub_int3 ?_))
  k_with "unaryOp USub int" => (k_dflt (first | with_reducible refine neg_int3 ?_ | refine neg_int3 ?_))
  k_with "om2" => (lia)
  have hWL : ∀ p ∈ WL a σ, p.1 < L := Z.lt
  k_with "assign Tuple" => (k_dflt (((rename News _ _ _ _ => N9); (rename Fr _ _ _ _ => F9); refine' unpackN_ F9 N9 (tup_is (N9 _ (wx sub_rw)).1) ?k1 ?k2 ?k3 ?_; (case k1 => exact rfl); (case k2 => exact rfl); (case k3 => exact rfl); k_whole; intro h' F' N'; refine (let m9 : Str → Option Value := _; (fun (F' : Fr _ _ _ m9) => ?_) F'); (try k_sweep))))
  have hcvB : Bx (IntsAre cvs (a.T.ch.getD node [])) := ⟨cv⟩
  have hgvB : Bx (IntsAre gvs (a.T.ga.getD node [])) := ⟨gv⟩
  have hlenB : Bx ((a.T.no.getD node []).length = (a.T.ch.getD node []).length ∧ (a.T.ga.getD node []).length = (a.T.ch.getD node []).length ∧ (a.T.ch.getD node []).length ≤ 3) := ⟨hlens⟩
  clear cv gv hlens hcnt
  k_with "call ref" => (k_dflt ((rename News _ _ _ _ => N9); (rename Fr _ _ _ _ => F9); (try k_fold); refine' con_use0 (value_W hB.out.toWB hNB.out) ?k1 ?k2 ?k3 ?k4 ?k5 ?kK ?ks ?kt ?kd ?ku ?_; (case k1 => k_asm); (case k2 => k_asm); (case k3 => k_asm); (case k4 => k_asm); (case k5 => k_asm); (case kK => exact rfl); (case ks => (intro p9 hp9; repeat (first | exact hp9 | exact List.mem_append_left _ hp9 | exact List.mem_append_right _ hp9 | refine List.mem_append_left _ ?_ | refine List.Mem.tail _ ?_))); (case kt => exact List.forall_mem_nil _); (case kd => omega); (case ku => omega); k_whole; intro r9 h' tk' F' N' p9; obtain ⟨t9, rfl⟩ := p9; (try dsimp only); (try k_sweep)))
  k_with "subscriptTail" => (k_dflt (((with_reducible show wpAny _ _ (subscriptTail (Expr.Name (Str.ofString "children") _) _ _ _) _ _ _); (rename News _ _ _ _ => N9); refine my_item (isList_of (news_at (σ := σ) N9 (by (intro p9 hp9; repeat (first | exact hp9 | exact List.mem_append_left _ hp9 | exact List.mem_append_right _ hp9 | refine List.mem_append_left _ ?_ | refine List.Mem.tail _ ?_))) (wx (sub_ro _ (.head _))))) (by omega) (by omega) ce ?_)))
  k_with "subscriptTail" => (k_dflt (((with_reducible show wpAny _ _ (subscriptTail (Expr.Name (Str.ofString "noisy") _) _ _ _) _ _ _); (rename News _ _ _ _ => N9); refine my_item (isList_of (news_at (σ := σ) N9 (by (intro p9 hp9; repeat (first | exact hp9 | exact List.mem_append_left _ hp9 | exact List.mem_append_right _ hp9 | refine List.mem_append_left _ ?_ | refine List.Mem.tail _ ?_))) (wx (sub_ro _ (.tail _ (.tail _ (.head _))))))) (by omega) (by omega) ne ?_)))
  k_with "subscriptTail" => (k_dflt (((with_reducible show wpAny _ _ (subscriptTail (Expr.Name (Str.ofString "gains") _) _ _ _) _ _ _); (rename News _ _ _ _ => N9); refine my_item (isList_of (news_at (σ := σ) N9 (by (intro p9 hp9; repeat (first | exact hp9 | exact List.mem_append_left _ hp9 | exact List.mem_append_right _ hp9 | refine List.mem_append_left _ ?_ | refine List.Mem.tail _ ?_))) (wx (sub_ro _ (.tail _ (.tail _ (.tail _ (.head _)))))))) (by omega) (by omega) ge ?_)))
  k_with "truthy ref" => (k_dflt (((rename News _ _ _ _ => N9); refine' truthy_list_made (isList_of (news_at (σ := σ) N9 (by (intro p9 hp9; repeat (first | exact hp9 | exact List.mem_append_left _ hp9 | exact List.mem_append_right _ hp9 | refine List.mem_append_left _ ?_ | refine List.Mem.tail _ ?_))) (wim ci))) (IntsAre.carried hcvB.out) ?zb ?_; (case zb => (rw [List.length_map]; have := hlenB.out; omega)); rw [List.length_map])))
  k_with "subscriptTail" => (k_dflt (((with_reducible show wpAny _ _ (subscriptTail (Expr.Name (Str.ofString "records") _) (Expr.Constant (Const.int 1) _ _) _ _) _ _ _); (rename News _ _ _ _ => N9); refine my_tup (l := [.ref a.D0, .ref a.Pl, .ref a.D2]) (j := 1) (tup_is (news_at (σ := σ) N9 (by (intro p9 hp9; repeat (first | exact hp9 | exact List.mem_append_left _ hp9 | exact List.mem_append_right _ hp9 | refine List.mem_append_left _ ?_ | refine List.Mem.tail _ ?_))) (wx (sub_re _ (.tail _ (.tail _ (.tail _ (.tail _ (.head _))))))))) (by decide) rfl ?_)))
  k_with "subscriptTail" => (k_dflt (((with_reducible show wpAny _ _ (subscriptTail (Expr.Name (Str.ofString "records") _) (Expr.Constant (Const.int 0) _ _) _ _) _ _ _); (rename News _ _ _ _ => N9); refine my_tup (l := [.ref a.D0, .ref a.Pl, .ref a.D2]) (j := 0) (tup_is (news_at (σ := σ) N9 (by (intro p9 hp9; repeat (first | exact hp9 | exact List.mem_append_left _ hp9 | exact List.mem_append_right _ hp9 | refine List.mem_append_left _ ?_ | refine List.Mem.tail _ ?_))) (wx (sub_re _ (.tail _ (.tail _ (.tail _ (.tail _ (.head _))))))))) (by decide) rfl ?_)))
  k_with "call builtin:len" => (k_dflt (((rename News _ _ _ _ => N9); refine my_len (isList_of (news_at (σ := σ) N9 (by (intro p9 hp9; repeat (first | exact hp9 | exact List.mem_append_left _ hp9 | exact List.mem_append_right _ hp9 | refine List.mem_append_left _ ?_ | refine List.Mem.tail _ ?_))) (wx (sub_re _ (.tail _ (.tail _ (.head _))))))) rfl (by omega) ?_)))
  k_with "call builtin:len" => (k_dflt (((rename News _ _ _ _ => N9); refine my_len (isList_of (news_at (σ := σ) N9 (by (intro p9 hp9; repeat (first | exact hp9 | exact List.mem_append_left _ hp9 | exact List.mem_append_right _ hp9 | refine List.mem_append_left _ ?_ | refine List.Mem.tail _ ?_))) (wim ci))) hcvB.out.length (by have := hlenB.out; omega) ?_)))
  k_with "subscriptTail" => (k_dflt (((with_reducible show wpAny _ _ (subscriptTail (Expr.Subscript (Expr.Name (Str.ofString "records") _) _ _) _ _ _) _ _ _); (rename News _ _ _ _ => N9); obtain ⟨pa, pvs, pk, hpe, hpm, hpv⟩ := hB.out.prs ply.toNat (by omega); refine my_item (isList_of (news_at (σ := σ) N9 (by (intro p9 hp9; repeat (first | exact hp9 | exact List.mem_append_left _ hp9 | exact List.mem_append_right _ hp9 | refine List.mem_append_left _ ?_ | refine List.Mem.tail _ ?_))) (wx (sub_re _ (.tail _ (.tail _ (.head _))))))) (by omega) (by omega) hpe ?_)))
  k_with "call ref" => (k_dflt ((rename News _ _ _ _ => N9); (rename Fr _ _ _ _ => F9); (try k_fold); refine' con_use0 (moves_W hB.out.toWB hNB.out) ?k1 ?k2 ?k3 ?k4 ?k5 ?kK ?ks ?kt ?kd ?ku ?_; (case k1 => k_asm); (case k2 => k_asm); (case k3 => k_asm); (case k4 => k_asm); (case k5 => k_asm); (case kK => exact rfl); (case ks => (intro p9 hp9; repeat (first | exact hp9 | exact List.mem_append_left _ hp9 | exact List.mem_append_right _ hp9 | refine List.mem_append_left _ ?_ | refine List.Mem.tail _ ?_))); (case kt => exact List.forall_mem_nil _); (case kd => omega); (case ku => omega); k_whole; intro r9 h' tk' F' N' p9; obtain ⟨Mv, rfl, hnMv, mvs, mn, hgMv, hiMv⟩ := p9; have hiMvB : Bx (IntsAre mvs _) := ⟨hiMv⟩; clear hiMv; have N' := news_made F9 hnMv hgMv N'; (try dsimp only); (try k_sweep)))
  k_with "call ref" => (k_dflt ((rename News _ _ _ _ => N9); (rename Fr _ _ _ _ => F9); (try k_fold); refine' con_use0 (order_moves_W hB.out.toWB hNB.out hiMvB.out) ?k1 ?k2 ?k3 ?k4 ?k5 ?kK ?ks ?kt ?kd ?ku ?_; (case k1 => k_asm); (case k2 => k_asm); (case k3 => k_asm); (case k4 => k_asm); (case k5 => k_asm); (case kK => exact rfl); (case ks => (intro p9 hp9; repeat (first | exact hp9 | exact List.mem_append_left _ hp9 | exact List.mem_append_right _ hp9 | refine List.mem_append_left _ ?_ | refine List.Mem.tail _ ?_))); (case kt => exact List.forall_mem_nil _); (case kd => omega); (case ku => omega); k_whole; intro r9 h' tk' F' N' p9; obtain ⟨Od, rfl, hnOd, ovs, on, hgOd, hiOd⟩ := p9; have hiOdB : Bx (IntsAre ovs _) := ⟨hiOd⟩; clear hiOd; have hOdW := ne_fresh (σ := σ) N9 (by (intro p9 hp9; repeat (first | exact hp9 | exact List.mem_append_left _ hp9 | exact List.mem_append_right _ hp9 | refine List.mem_append_left _ ?_ | refine List.Mem.tail _ ?_))) hnOd; have N' := news_made F9 hnOd hgOd N'; (try dsimp only); (try k_sweep)))
  have hps : ∀ {pvs : List Value}, ply < σ.plv.length → IntsAre pvs [σ.f1.getD ply.toNat 0, σ.f2.getD ply.toNat 0] → ∃ ps, IntsAre pvs ps ∧ PyData.layable0 (.list (ps.map .int)) = true ∧ (ps = [σ.f1.getD ply.toNat 0, σ.f2.getD ply.toNat 0] ∨ (ps = [] ∧ σ.f1.getD ply.toNat 0 = 0 ∧ σ.f2.getD ply.toNat 0 = 0)) := fun _ hi => ⟨_, hi, lay2 (kb_get hB.out.kb.1) (kb_get hB.out.kb.2), .inl rfl⟩
  have hpn : ¬ ply < σ.plv.length → σ.f1.getD ply.toNat 0 = 0 ∧ σ.f2.getD ply.toNat 0 = 0 := fun hn => by
    have q1 := hB.out.e1
    have q2 := hB.out.e2
    constructor
    · rw [List.getD_eq_getElem?_getD, List.getElem?_eq_none (by omega)]; rfl
    · rw [List.getD_eq_getElem?_getD, List.getElem?_eq_none (by omega)]; rfl
  k_with "execs cons" => (k_dflt (((with_reducible show wpAny _ _ (execs (Stmt.Assign [Expr.Name (Str.ofString "pair") _] _ _ :: _) _) _ _ _); (rename News _ _ _ _ => N9); (rename Fr _ _ _ _ => F9); refine' pair_join (Str.ofString "pair") F9 (fun pr n' => ∃ pvs kp ps, n' = (pr, listOf (List.toArray pvs) kp) :: (Od, listOf ovs.toArray on) :: (Mv, listOf mvs.toArray mn) :: WL a σ ∧ IntsAre pvs ps ∧ PyData.layable0 (.list (ps.map .int)) = true ∧ (ps = [σ.f1.getD ply.toNat 0, σ.f2.getD ply.toNat 0] ∨ (ps = [] ∧ σ.f1.getD ply.toNat 0 = 0 ∧ σ.f2.getD ply.toNat 0 = 0))) ?_ ?_; case' refine'_2 => (clear F9 N9; intro h' tk' pr news' F' N' hJ; refine (let m9 : Str → Option Value := _; (fun (F' : Fr _ _ _ m9) => ?_) F'); obtain ⟨pvs, kp, ps, rfl, hip, hlp, hpsB⟩ := hJ; have hipB : Bx (IntsAre pvs ps) := ⟨hip⟩; clear hip))))
  k_with "call ref" => (k_dflt ((rename News _ _ _ _ => N9); (rename Fr _ _ _ _ => F9); (try k_fold); refine' con_use0 (law_order_ok (xs := σ.xs) (imm := σ.imm) (d0 := σ.d0) (kb := nk) (kg := gk) (kp := kp) ?x1 ?x2 nv hgvB.out hipB.out ?x3 ?x4 hlp hB.out.t0 hB.out.ord.l0) ?k1 ?k2 ?k3 ?k4 ?k5 ?kK ?ks ?kt ?kd ?ku ?_; (case k1 => k_asm); (case k2 => k_asm); (case k3 => k_asm); (case k4 => k_asm); (case k5 => k_asm); (case kK => exact rfl); (case ks => (first | (refine sub_of ?_; (repeat (first | refine List.Sublist.cons_cons _ ?_ | ((fail_if_success exact List.nil_sublist _); refine List.Sublist.cons _ ?_))); exact List.nil_sublist _) | ((repeat (refine all_cons (by k_mem) ?_)); exact List.forall_mem_nil _))); (case kt => exact order_tl (news_at (σ := σ) N9 (by (intro p9 hp9; repeat (first | exact hp9 | exact List.mem_append_left _ hp9 | exact List.mem_append_right _ hp9 | refine List.mem_append_left _ ?_ | refine List.Mem.tail _ ?_))) (wim ni)) (news_at (σ := σ) N9 (by (intro p9 hp9; repeat (first | exact hp9 | exact List.mem_append_left _ hp9 | exact List.mem_append_right _ hp9 | refine List.mem_append_left _ ?_ | refine List.Mem.tail _ ?_))) (wim gi)) (News.get N9 (by k_mem)) (news_at (σ := σ) N9 (by (intro p9 hp9; repeat (first | exact hp9 | exact List.mem_append_left _ hp9 | exact List.mem_append_right _ hp9 | refine List.mem_append_left _ ?_ | refine List.Mem.tail _ ?_))) (wx (sub_re _ (.tail _ (.head _))))) (fun p hp => news_at (σ := σ) N9 (by (intro p9 hp9; repeat (first | exact hp9 | exact List.mem_append_left _ hp9 | exact List.mem_append_right _ hp9 | refine List.mem_append_left _ ?_ | refine List.Mem.tail _ ?_))) (wim hp))); (case kd => omega); (case ku => omega); (case x1 => (have := hlenB.out; omega)); (case x2 => (rw [Int.fmod_eq_emod_of_nonneg _ (by omega)]; omega)); (case x3 => (have := hlenB.out; omega)); (case x4 => (have := hlenB.out; omega)); k_whole; intro r9 h' tk' F' N' p9; obtain ⟨Lb, ms, rfl, hnL, ⟨lvs, ln, hgL, hiL⟩, hpm, hadj⟩ := p9; rw [Int.toNat_natCast] at hpm; have hord := order_same (sc := fun m => kdfLook σ.sc (ply % 2 * 65536 + m) 0) hpm hadj hpsB (fun m hm => order_sc hB.out.agr (by omega) (by have := hlenB.out; omega) m hm); have hiLB : Bx (IntsAre lvs _) := ⟨hiL⟩; clear hiL hpm hadj; have N' := news_made F9 hnL hgL N'; (try dsimp only); (try k_sweep)))
  k_with "compareOp Eq ref ref" => (k_dflt ((((rename News _ _ _ _ => N9); refine eq_intsK (News.isList N9 (a := Od) (by k_mem)) hiOdB.out (News.isList N9 (a := Lb) (by k_mem)) hiLB.out (by (show un + 64 < cLine); omega) ?_; rw [decide_eq_true hord.symm]; have hiOdX := hiOdB.out))))
  have hkidB : ∀ c ∈ a.T.ch.getD node [], 0 ≤ c ∧ c < a.T.ch.length := hB.out.rws.kids node hNB.out.lt
  have hlw : ∀ x ∈ wrW a, x < L := fun x hx => by
    obtain ⟨p, hp, e⟩ := fix_in σ (wr_fix hx)
    exact e ▸ hWL p hp
  k_with "pyIter ref" => (k_dflt ((((rename News _ _ _ _ => N9); (rename Fr _ _ _ _ => F9); obtain ⟨Tr, hTr⟩ := name_ref F9 (Str.ofString "tried") rfl; subst hTr; obtain ⟨tb0, htb⟩ := name_tok F9 (Str.ofString "best") rfl; obtain ⟨ta0, hta⟩ := name_tok F9 (Str.ofString "alpha") rfl; have hTrA : AllLt Tr (WL a σ) := (by (have z : Lb < Tr ∧ pr < Tr ∧ Od < Tr ∧ Mv < Tr ∧ AllLt Tr (WL a σ) := (by assumption)); exact z.2.2.2.2); have hTrF : ∀ x ∈ a.fix, x ≠ Tr := lt_fix hTrA; have hTrW : ∀ x ∈ wrW a, x ≠ Tr := lt_wr hTrA; have hTrI := lt_imm hTrA; have hTrL := lt_three hTrA; clear hTrA; refine' list_K (σ := LS) (Tr :: wrW a) (fun c => (Tr, listOf c.tvs.toArray c.ntr) :: WL a c.s) (fun c => [(Str.ofString "best", .int c.best c.tb), (Str.ofString "alpha", .int c.alpha c.ta), (Str.ofString "ok", .bool true)]) ["value", "same"] (fun i c => WF w a c.s ∧ c.s.path = σ.path ∧ (∀ p ∈ σ.imm, p ∈ c.s.imm) ∧ LoopS (seekS a.T node (d - 1) (seekO a σ node ply)) alpha beta i c.best c.alpha ∧ IntsAre c.tvs c.tried ∧ (∀ m ∈ c.tried, 1 ≤ m ∧ m ≤ 3) ∧ c.tried.length ≤ i ∧ (∀ p ∈ c.s.imm, p.1 ≠ Tr)) ⟨σ, -1000, alpha, tb0, ta0, [], [], 0⟩ ?zhh (News.isList N9 (a := Od) (by k_mem)) ?zhlL F9 (news_two N9 (.head _) (by (intro p9 hp9; repeat (first | exact hp9 | exact List.mem_append_left _ hp9 | exact List.mem_append_right _ hp9 | refine List.mem_append_left _ ?_ | refine List.Mem.tail _ ?_)))) ?zha ?zhp ?zhk ?zhno ?zturn ?zdone; (case zhh => exact rfl); (case zhlL => exact (N9 (Od, listOf ovs.toArray on) (by k_mem)).2.1); (case zha => exact List.forall_mem_cons.mpr ⟨⟨by (show Tr ≠ Od); omega, live_of N9 (.head _)⟩, fun x hx => ⟨hOdW x (wr_fix hx), live_wr (σ := σ) N9 (by (intro p9 hp9; repeat (first | exact hp9 | exact List.mem_append_left _ hp9 | exact List.mem_append_right _ hp9 | refine List.mem_append_left _ ?_ | refine List.Mem.tail _ ?_))) hx⟩⟩); (case zhp => exact ⟨hB.out, rfl, fun _ h => h, LoopS.start (by omega), .nil, (fun _ h => nomatch h), Nat.le_refl _, hTrI⟩); (case zhk => exact List.forall_mem_cons.mpr ⟨htb, List.forall_mem_cons.mpr ⟨hta, List.forall_mem_cons.mpr ⟨rfl, List.forall_mem_nil _⟩⟩⟩); (case zhno => exact fun i c hP => noIt_cons (by rfl) (noIt_WL hP.1.toWB)); (case' zturn => (clear F9 N9 htb hta; intro i v c u h9 tk9 own hv ho hP F' N'; (try dsimp only); k_fold; refine an8 hP fun hWc hpc hmc hLS htc htm htl hqc => ?_; clear hP; obtain ⟨mv, tm, hmv, rfl⟩ := ints_at hiOdB.out hv; have hmr := seek_mv (n := (a.T.ch.getD node []).length) order_perm hmv; have hi3 := seek_lt (n := (a.T.ch.getD node []).length) order_perm hmv; have hm3 : mv ≤ 3 := (by have := hlenB.out; omega); obtain ⟨tkd, hkt⟩ := ints_at2 hcvB.out (k := (mv - 1).toNat) (by omega); have hnvb := nv.get (i := (mv - 1).toNat) (by have := hlenB.out; omega); have hkr := hkidB _ (getD_in (xs := a.T.ch.getD node []) (k := (mv - 1).toNat) (by omega)); have hN1 := hNB.out.of_path hpc; have hOw := own_wr (o := listOf c.tvs.toArray c.ntr) hTrW ho; have htcB : Bx (IntsAre c.tvs c.tried) := ⟨htc⟩; clear htc; (try dsimp only at F'); (try dsimp only at N'); simp only [List.cons_append] at N'; refine (let m9 : Str → Option Value := _; (fun (F' : Fr _ _ _ m9) => ?_) F'))); (case' zdone => (clear F9 N9; intro c u h9 tk9 hP F' N'; refine an8 hP fun hWc hpc hmc hLS htc htm htl hqc => ?_; clear hP; dsimp only at F' N' ⊢; refine (let m9 : Str → Option Value := _; (fun (F' : Fr _ _ _ m9) => ?_) F')))))))
  k_with "call ref" => (k_dflt ((rename News _ _ _ _ => N9); (rename Fr _ _ _ _ => F9); (try k_fold); refine' con_use (make_S hWc hN1 ?x1) ?k1 ?k2 ?k3 ?k4 ?k5 ?kK ?ks ?kt ?kd ?ku ?_; (case k1 => k_asm); (case k2 => k_asm); (case k3 => k_asm); (case k4 => k_asm); (case k5 => k_asm); (case kK => exact rfl); (case ks => (intro p9 hp9; repeat (first | exact hp9 | exact List.mem_append_left _ hp9 | exact List.mem_append_right _ hp9 | refine List.mem_append_left _ ?_ | refine List.Mem.tail _ ?_))); (case kt => exact List.forall_mem_nil _); (case kd => omega); (case ku => omega); (case x1 => omega); k_whole; intro r9 h' tk' F' K9 p9; obtain ⟨rfl, σ1, hS1, hW1, hp1⟩ := p9; have hq1 := step_off hS1 hqc (live_of (o := listOf c.tvs.toArray c.ntr) N9 (.head _)); have N' := step_news3 (own := own) (o := listOf c.tvs.toArray c.ntr) F9 N9 (by (intro p9 hp9; repeat (first | exact hp9 | exact List.mem_append_left _ hp9 | exact List.mem_append_right _ hp9 | refine List.mem_append_left _ ?_ | refine List.Mem.tail _ ?_))) (.head _) (fun p hp => .tail _ (List.mem_append_right _ hp)) K9 (fun p hp q => hOw p hp (by rw [List.mem_singleton.mp q]; exact .head _)) hS1; (try dsimp only); (try k_sweep)))
  k_with "subscriptTail" => (k_dflt (((with_reducible show wpAny _ _ (subscriptTail (Expr.Name (Str.ofString "children") _) _ _ _) _ _ _); (rename News _ _ _ _ => N9); refine my_item (isList_of (news_at (σ := σ1) N9 (by (intro p9 hp9; repeat (first | exact hp9 | exact List.mem_append_left _ hp9 | exact List.mem_append_right _ hp9 | refine List.mem_append_left _ ?_ | refine List.Mem.tail _ ?_))) (wx (sub_ro _ (.head _))))) (by omega) (by omega) ce ?_)))
  k_with "subscriptTail" => (k_dflt (((with_reducible show wpAny _ _ (subscriptTail (Expr.Name (Str.ofString "_") _) _ _ _) _ _ _); (rename News _ _ _ _ => N9); refine my_item (isList_of (news_at (σ := σ1) N9 (by (intro p9 hp9; repeat (first | exact hp9 | exact List.mem_append_left _ hp9 | exact List.mem_append_right _ hp9 | refine List.mem_append_left _ ?_ | refine List.Mem.tail _ ?_))) (wim (hS1.mono _ (hmc _ ci))))) (by omega) (by omega) hkt ?_)))
  k_with "call ref" => (k_dflt ((rename News _ _ _ _ => N9); (rename Fr _ _ _ _ => F9); (try k_fold); refine' con_use (ih (d - 1) (by omega) hW1 (hN1.down (kid := ((a.T.ch.getD node []).getD (mv - 1).toNat 0).toNat) (by rw [Int.toNat_of_nonneg hkr.1]; exact hp1) (by omega) (by omega)) (Int.toNat_of_nonneg hkr.1).symm ?x1 ?x2 ?x3 ?x4) ?k1 ?k2 ?k3 ?k4 ?k5 ?kK ?ks ?kt ?kd ?ku ?_; (case k1 => k_asm); (case k2 => k_asm); (case k3 => k_asm); (case k4 => k_asm); (case k5 => k_asm); (case kK => exact rfl); (case ks => (intro p9 hp9; repeat (first | exact hp9 | exact List.mem_append_left _ hp9 | exact List.mem_append_right _ hp9 | refine List.mem_append_left _ ?_ | refine List.Mem.tail _ ?_))); (case kt => exact List.forall_mem_nil _); (case kd => omega); (case ku => omega); (case x1 => omega); (case x2 => omega); (case x3 => (have := hLS.al; have := hLS.lt; have := hLS.bd; omega)); (case x4 => omega); k_whole; intro r9 h' tk' F' K9 p9; obtain ⟨v, σ2, ra, tv, rfl, hnr, hgr, hS2, hW2, hp2, hSp⟩ := p9; have hq2 := step_off hS2 hq1 (live_of (o := listOf c.tvs.toArray c.ntr) N9 (.head _)); have N' := news_made F9 hnr hgr (step_news3 (own := own) (o := listOf c.tvs.toArray c.ntr) F9 N9 (by (intro p9 hp9; repeat (first | exact hp9 | exact List.mem_append_left _ hp9 | exact List.mem_append_right _ hp9 | refine List.mem_append_left _ ?_ | refine List.Mem.tail _ ?_))) (.head _) (fun p hp => .tail _ (List.mem_append_right _ hp)) K9 hOw hS2); (try dsimp only); (try k_sweep)))
  k_with "assign Tuple" => (k_dflt (((rename News _ _ _ _ => N9); (rename Fr _ _ _ _ => F9); refine' unpackN_ F9 N9 (tup_is (vs := [.int v tv, .bool true]) (News.get N9 (a := ra) (.head _))) ?k1 ?k2 ?k3 ?_; (case k1 => exact rfl); (case k2 => exact rfl); (case k3 => exact rfl); k_whole; intro h' F' N'; refine (let m9 : Str → Option Value := _; (fun (F' : Fr _ _ _ m9) => ?_) F'); (try k_sweep))))
  k_with "call ref" => (k_dflt ((rename News _ _ _ _ => N9); (rename Fr _ _ _ _ => F9); (try k_fold); refine' con_use (undo_S hW2 (path := c.s.path) (hp2.trans hp1) (by have := hN1.plen; omega)) ?k1 ?k2 ?k3 ?k4 ?k5 ?kK ?ks ?kt ?kd ?ku ?_; (case k1 => k_asm); (case k2 => k_asm); (case k3 => k_asm); (case k4 => k_asm); (case k5 => k_asm); (case kK => exact rfl); (case ks => (intro p9 hp9; repeat (first | exact hp9 | exact List.mem_append_left _ hp9 | exact List.mem_append_right _ hp9 | refine List.mem_append_left _ ?_ | refine List.Mem.tail _ ?_))); (case kt => exact List.forall_mem_nil _); (case kd => omega); (case ku => omega); k_whole; intro r9 h' tk' F' K9 p9; obtain ⟨rfl, σ3, hS3, hW3, hp3⟩ := p9; have hq3 := step_off hS3 hq2 (live_of (o := listOf c.tvs.toArray c.ntr) N9 (.tail _ (.head _))); have hm3' : ∀ p ∈ σ.imm, p ∈ σ3.imm := (fun p hp => hS3.mono p (hS2.mono p (hS1.mono p (hmc p hp)))); have N' := step_news3 (own := own) (o := listOf c.tvs.toArray c.ntr) F9 N9 (by (intro p9 hp9; repeat (first | exact hp9 | exact List.mem_append_left _ hp9 | exact List.mem_append_right _ hp9 | refine List.mem_append_left _ ?_ | refine List.Mem.tail _ ?_))) (.tail _ (.head _)) (fun p hp => .tail _ (.tail _ (List.mem_append_right _ hp))) K9 (fun p hp q => hOw p hp (by rw [List.mem_singleton.mp q]; exact .head _)) hS3; clear hS1 hS2 hS3 hW1 hW2 hq1 hq2 hp1 hp2; (try dsimp only); (try k_sweep)))
  k_with "subscriptTail" => (k_dflt (((with_reducible show wpAny _ _ (subscriptTail (Expr.Name (Str.ofString "noisy") _) _ _ _) _ _ _); (rename News _ _ _ _ => N9); refine my_item (isList_of (news_at (σ := σ3) N9 (by (intro p9 hp9; repeat (first | exact hp9 | exact List.mem_append_left _ hp9 | exact List.mem_append_right _ hp9 | refine List.mem_append_left _ ?_ | refine List.Mem.tail _ ?_))) (wx (sub_ro _ (.tail _ (.tail _ (.head _))))))) (by omega) (by omega) ne ?_)))
  k_with "subscriptTail" => (k_dflt (((with_reducible show wpAny _ _ (subscriptTail (Expr.Name (Str.ofString "_") _) _ _ _) _ _ _); (rename News _ _ _ _ => N9); refine my_item (isList_of (news_at (σ := σ3) N9 (by (intro p9 hp9; repeat (first | exact hp9 | exact List.mem_append_left _ hp9 | exact List.mem_append_right _ hp9 | refine List.mem_append_left _ ?_ | refine List.Mem.tail _ ?_))) (wim (hm3' _ ni)))) (by omega) (by omega) hnvb ?_)))
  k_with "call builtin:list.append" => (k_dflt ((((rename News _ _ _ _ => N9); (rename Fr _ _ _ _ => F9); refine' my_append (D := Tr) (vs := c.tvs) F9 N9 (by k_mem) (by have := htcB.out.length; have := hlenB.out; omega) ?_; intro h' F' K9 hg9; have N' := push3 (o' := listOf (c.tvs ++ [Value.int mv tm]).toArray (c.ntr + 1)) (rest := WL a σ3 ++ own) (fun p hp => N9 p (by revert p; (intro p9 hp9; repeat (first | exact hp9 | exact List.mem_append_left _ hp9 | exact List.mem_append_right _ hp9 | refine List.mem_append_left _ ?_ | refine List.Mem.tail _ ?_)))) K9 hg9 (fun p hp => (List.mem_append.mp hp).elim (WL_off (σ := σ3) hTrF hq3 p) (fun q => ho p q _ (.head _))); have htnB : Bx (IntsAre (c.tvs ++ [Value.int mv tm]) (c.tried ++ [mv])) := ⟨htcB.out.append (.cons mv tm .nil)⟩; have htn := tried_in htm (mv := mv) (by omega); (try dsimp only); (try k_sweep)))))
  k_with "call ref" => (k_dflt (((rename News _ _ _ _ => N9); (rename Fr _ _ _ _ => F9); (try k_fold); refine' con_use (reward_S hW3 (tried := c.tried ++ [mv]) (tvs := c.tvs ++ [Value.int mv tm]) (tn := c.ntr + 1) (Tr := Tr) ?x1 ?x2 ?x3 ?x4 htnB.out htn ?x5) ?k1 ?k2 ?k3 ?k4 ?k5 ?kK ?ks ?kt ?kd ?ku ?_; (case k1 => k_asm); (case k2 => k_asm); (case k3 => k_asm); (case k4 => k_asm); (case k5 => k_asm); (case kK => exact rfl); (case ks => (intro p9 hp9; repeat (first | exact hp9 | exact List.mem_append_left _ hp9 | exact List.mem_append_right _ hp9 | refine List.mem_append_left _ ?_ | refine List.Mem.tail _ ?_))); (case kt => exact List.forall_mem_nil _); (case kd => omega); (case ku => omega); (case x1 => (rw [Int.fmod_eq_emod_of_nonneg _ (by omega)]; omega)); (case x2 => omega); (case x3 => omega); (case x4 => omega); (case x5 => exact ⟨hTrL.1, hTrL.2.1⟩); k_whole; intro r9 h' tk' F' K9 p9; obtain ⟨rfl, σ4, hS4, hW4, hM4⟩ := p9; have hsd : 0 ≤ ply.fmod 2 ∧ ply.fmod 2 ≤ 1 := (by rw [Int.fmod_eq_emod_of_nonneg _ (by omega)]; omega); have N' := step_news3 (own := own) (o := listOf (c.tvs ++ [Value.int mv tm]).toArray (c.ntr + 1)) F9 N9 (by (intro p9 hp9; repeat (first | exact hp9 | exact List.mem_append_left _ hp9 | exact List.mem_append_right _ hp9 | refine List.mem_append_left _ ?_ | refine List.Mem.tail _ ?_))) (by k_mem) (fun p hp => .tail _ (List.mem_append_right _ hp)) K9 (fun p hp q => own_wr (o := listOf (c.tvs ++ [Value.int mv tm]).toArray (c.ntr + 1)) hTrW ho p hp (wr_a _ q)) hS4; (try dsimp only); (try k_sweep))))
  k_with "call ref" => (k_dflt (((rename News _ _ _ _ => N9); (rename Fr _ _ _ _ => F9); (try k_fold); refine' con_use (rcount_S hW4 hM4 hsd ?x1 ?x2) ?k1 ?k2 ?k3 ?k4 ?k5 ?kK ?ks ?kt ?kd ?ku ?_; (case k1 => k_asm); (case k2 => k_asm); (case k3 => k_asm); (case k4 => k_asm); (case k5 => k_asm); (case kK => exact rfl); (case ks => (intro p9 hp9; repeat (first | exact hp9 | exact List.mem_append_left _ hp9 | exact List.mem_append_right _ hp9 | refine List.mem_append_left _ ?_ | refine List.Mem.tail _ ?_))); (case kt => exact List.forall_mem_nil _); (case kd => omega); (case ku => omega); (case x1 => omega); (case x2 => omega); k_whole; intro r9 h' tk' F' K9 p9; obtain ⟨rfl, σ5, hS5, hW5, hM5⟩ := p9; have N' := step_news3 (own := own) (o := listOf (c.tvs ++ [Value.int mv tm]).toArray (c.ntr + 1)) F9 N9 (by (intro p9 hp9; repeat (first | exact hp9 | exact List.mem_append_left _ hp9 | exact List.mem_append_right _ hp9 | refine List.mem_append_left _ ?_ | refine List.Mem.tail _ ?_))) (by k_mem) (fun p hp => .tail _ (List.mem_append_right _ hp)) K9 (fun p hp q => own_wr (o := listOf (c.tvs ++ [Value.int mv tm]).toArray (c.ntr + 1)) hTrW ho p hp (wr_b _ q)) hS5; have N' := news_two N' (b := a.Hd) (o := dictOf [⟨a.hh 11, .str (Str.ofString "limit") (a.kk 11), .int a.l (a.kk 21)⟩, ⟨a.hh 12, .str (Str.ofString "scores") (a.kk 12), .ref a.S⟩] (a.nn 6)) (.tail _ (List.mem_append_left _ (wx (sub_hi _ (.head _))))) (fun _ hp => hp); have N' := news_two N' (b := a.Hx) (o := instObj 117 a.Hd) (.tail _ (.tail _ (List.mem_append_left _ (wx (sub_hi _ (.tail _ (.head _))))))) (fun _ hp => hp); (try dsimp only); (try k_sweep))))
  k_with "call ref" => (k_dflt (((rename News _ _ _ _ => N9); (rename Fr _ _ _ _ => F9); (try k_fold); refine' con_use (note_S hW3 hW5 hM5 (tvs := c.tvs ++ [Value.int mv tm]) (Tr := Tr) (tn := c.ntr + 1) hsd ?x1 ?x2 hea ?x3 htnB.out htn hTrL.2.2) ?k1 ?k2 ?k3 ?k4 ?k5 ?kK ?ks ?kt ?kd ?ku ?_; (case k1 => k_asm); (case k2 => k_asm); (case k3 => k_asm); (case k4 => k_asm); (case k5 => k_asm); (case kK => exact rfl); (case ks => (intro p9 hp9; repeat (first | exact hp9 | exact List.mem_append_left _ hp9 | exact List.mem_append_right _ hp9 | refine List.mem_append_left _ ?_ | refine List.Mem.tail _ ?_))); (case kt => exact List.forall_mem_nil _); (case kd => omega); (case ku => omega); (case x1 => omega); (case x2 => omega); (case x3 => omega); k_whole; intro r9 h' tk' F' K9 p9; obtain ⟨rfl, σ6, hS6, hW6, hp6⟩ := p9; have hm6 : ∀ p ∈ σ.imm, p ∈ σ6.imm := (fun p hp => hS6.mono p (by rw [hM5.imm]; exact hm3' p hp)); have N' := step_news3 (own := own) (o := listOf (c.tvs ++ [Value.int mv tm]).toArray (c.ntr + 1)) F9 N9 (by (intro p9 hp9; repeat (first | exact hp9 | exact List.mem_append_left _ hp9 | exact List.mem_append_right _ hp9 | refine List.mem_append_left _ ?_ | refine List.Mem.tail _ ?_))) (by k_mem) (by (intro p9 hp9; repeat (first | exact hp9 | exact List.mem_append_left _ hp9 | exact List.mem_append_right _ hp9 | refine List.mem_append_left _ ?_ | refine List.Mem.tail _ ?_))) K9 (fun p hp q => own_wr (o := listOf (c.tvs ++ [Value.int mv tm]).toArray (c.ntr + 1)) hTrW ho p hp (wr_c _ q)) hS6; (try dsimp only); (try k_sweep))))
  k_steps
  all_goals (try (dsimp only; refine endJ_brk ?_; (try dsimp only); k_steps))
  · (rename News _ _ _ _ => N9)
    refine' back_intro ?bF ?bL ?_
    case bF => k_asm
    case bL => exact WL_kept (σ' := σ) N9 (by (intro p9 hp9; repeat (first | exact hp9 | exact List.mem_append_left _ hp9 | exact List.mem_append_right _ hp9 | refine List.mem_append_left _ ?_ | refine List.Mem.tail _ ?_))) (fun _ h => h)
    exact seek_post (σ' := σ) Z N9 (by (intro p9 hp9; repeat (first | exact hp9 | exact List.mem_append_left _ hp9 | exact List.mem_append_right _ hp9 | refine List.mem_append_left _ ?_ | refine List.Mem.tail _ ?_))) (.head _) rfl (by assumption) hB.out (fun _ h => h) rfl (by rw [plain_leaf (T := a.T) (d := d) (node := node) (.inl (by omega))]; exact leaf_val hB.out hNB.out)
  · (rename News _ _ _ _ => N9)
    refine' back_intro ?bF ?bL ?_
    case bF => k_asm
    case bL => exact WL_kept (σ' := c.s) N9 (by (intro p9 hp9; repeat (first | exact hp9 | exact List.mem_append_left _ hp9 | exact List.mem_append_right _ hp9 | refine List.mem_append_left _ ?_ | refine List.Mem.tail _ ?_))) hmc
    exact seek_post (σ' := c.s) Z N9 (by (intro p9 hp9; repeat (first | exact hp9 | exact List.mem_append_left _ hp9 | exact List.mem_append_right _ hp9 | refine List.mem_append_left _ ?_ | refine List.Mem.tail _ ?_))) (.head _) rfl (of_allLt (by (have z : Tr < _ ∧ AllLt _ (WL a c.s) := (by assumption)); exact z.2)) hWc hmc hpc (turn_done hLS hiOdB.out.length order_perm (by omega) (by omega))
  · (rename News _ _ _ _ => N9)
    refine' back_intro ?bF ?bL ?_
    case bF => k_asm
    case bL => exact WL_kept (σ' := σ3) N9 (by (intro p9 hp9; repeat (first | exact hp9 | exact List.mem_append_left _ hp9 | exact List.mem_append_right _ hp9 | refine List.mem_append_left _ ?_ | refine List.Mem.tail _ ?_))) hm3'
    exact seek_post (σ' := σ3) Z N9 (by (intro p9 hp9; repeat (first | exact hp9 | exact List.mem_append_left _ hp9 | exact List.mem_append_right _ hp9 | refine List.mem_append_left _ ?_ | refine List.Mem.tail _ ?_))) (.head _) rfl (of_allLtA (by (have z : Tr < _ ∧ AllLt _ (WL a σ3 ++ own) := (by assumption)); exact z.2)) hW3 hm3' (hp3.trans hpc) (turn_cut hLS hSp (show (seekO a σ node ply)[i]? = some mv from hmv) order_perm (by omega) hab.2.2 (by assumption))
  · (rename News _ _ _ _ => N9)
    rename Fr _ _ _ _ => F9
    obtain ⟨tbe, hbe⟩ := name_tok F9 (Str.ofString "best") rfl
    obtain ⟨tae, hae⟩ := name_tok F9 (Str.ofString "alpha") rfl
    refine' endK2 (σ := LS) ⟨σ3, if -v > c.best then -v else c.best, if -v > c.alpha then -v else c.alpha, tbe, tae, c.tvs, c.tried, c.ntr⟩ F9 N9 ?eo ?el ?ep ?eh ?ez
    case eh => exact List.forall_mem_cons.mpr ⟨hbe, List.forall_mem_cons.mpr ⟨hae, List.forall_mem_cons.mpr ⟨rfl, List.forall_mem_nil _⟩⟩⟩
    case eo => exact fun p hp => .tail _ (List.mem_append_right _ hp)
    case el => exact fun p hp => (List.mem_cons.mp hp).elim (fun e => e ▸ .head _) fun q => .tail _ (List.mem_append_left _ q)
    case ep => exact ⟨hW3, hp3.trans hpc, hm3', turn_step hLS hSp (show (seekO a σ node ply)[i]? = some mv from hmv) (by assumption), htcB.out, htm, by exact Nat.le_succ_of_le htl, hq3⟩
    case ez => ((repeat (first | exact Out.st rfl | exact Out.kst (Out.st rfl) rfl | refine Out.ite ?_ rfl | refine Out.itf ?_ rfl | refine Out.stf ?_ rfl)))
  · (rename News _ _ _ _ => N9)
    refine' back_intro ?bF ?bL ?_
    case bF => k_asm
    case bL => exact WL_kept (σ' := σ6) N9 (by (intro p9 hp9; repeat (first | exact hp9 | exact List.mem_append_left _ hp9 | exact List.mem_append_right _ hp9 | refine List.mem_append_left _ ?_ | refine List.Mem.tail _ ?_))) hm6
    exact seek_post (σ' := σ6) Z N9 (by (intro p9 hp9; repeat (first | exact hp9 | exact List.mem_append_left _ hp9 | exact List.mem_append_right _ hp9 | refine List.mem_append_left _ ?_ | refine List.Mem.tail _ ?_))) (.head _) rfl (of_allLtA (by (have z : Tr < _ ∧ AllLt _ (WL a σ6 ++ own) := (by assumption)); exact z.2)) hW6 hm6 (hp6.trans (hp3.trans hpc)) (turn_cut hLS hSp (show (seekO a σ node ply)[i]? = some mv from hmv) order_perm (by omega) hab.2.2 (by assumption))
  · (rename News _ _ _ _ => N9)
    rename Fr _ _ _ _ => F9
    obtain ⟨tbe, hbe⟩ := name_tok F9 (Str.ofString "best") rfl
    obtain ⟨tae, hae⟩ := name_tok F9 (Str.ofString "alpha") rfl
    refine' endK2 (σ := LS) ⟨σ3, if -v > c.best then -v else c.best, if -v > c.alpha then -v else c.alpha, tbe, tae, c.tvs ++ [Value.int mv tm], c.tried ++ [mv], c.ntr + 1⟩ F9 N9 ?eo ?el ?ep ?eh ?ez
    case eh => exact List.forall_mem_cons.mpr ⟨hbe, List.forall_mem_cons.mpr ⟨hae, List.forall_mem_cons.mpr ⟨rfl, List.forall_mem_nil _⟩⟩⟩
    case eo => exact fun p hp => .tail _ (List.mem_append_right _ hp)
    case el => exact fun p hp => (List.mem_cons.mp hp).elim (fun e => e ▸ .head _) fun q => .tail _ (List.mem_append_left _ q)
    case ep => exact ⟨hW3, hp3.trans hpc, hm3', turn_step hLS hSp (show (seekO a σ node ply)[i]? = some mv from hmv) (by assumption), htnB.out, htn, by (rw [List.length_append]; exact Nat.succ_le_succ htl), hq3⟩
    case ez => ((repeat (first | exact Out.st rfl | exact Out.kst (Out.st rfl) rfl | refine Out.ite ?_ rfl | refine Out.itf ?_ rfl | refine Out.stf ?_ rfl)))
  · (rename News _ _ _ _ => N9)
    obtain ⟨ps, q1, q2, q3⟩ := hps (by assumption) hpv
    exact pair_back (by k_asm) (news_two N9 (.tail _ (.tail _ (wim hpm))) (fun _ h => h)) ⟨pvs, pk, ps, rfl, q1, q2, q3⟩
  · (rename News _ _ _ _ => N9)
    exact pair_back (by k_asm) N9 ⟨[], _, [], rfl, .nil, lay0, .inr ⟨rfl, (hpn (by assumption)).1, (hpn (by assumption)).2⟩⟩
  · (rename News _ _ _ _ => N9)
    refine' back_intro ?bF ?bL ?_
    case bF => k_asm
    case bL => exact WL_kept (σ' := σ) N9 (by (intro p9 hp9; repeat (first | exact hp9 | exact List.mem_append_left _ hp9 | exact List.mem_append_right _ hp9 | refine List.mem_append_left _ ?_ | refine List.Mem.tail _ ?_))) (fun _ h => h)
    exact seek_post (σ' := σ) Z N9 (by (intro p9 hp9; repeat (first | exact hp9 | exact List.mem_append_left _ hp9 | exact List.mem_append_right _ hp9 | refine List.mem_append_left _ ?_ | refine List.Mem.tail _ ?_))) (.head _) rfl (by assumption) hB.out (fun _ h => h) rfl (by rw [plain_leaf (T := a.T) (d := d) (node := node) (.inr (List.eq_nil_of_length_eq_zero (by omega)))]; exact leaf_val hB.out hNB.out)
end
section
theorem on_S6 : True := by
  k_with_none
  k_with "om2" => (lia)
  trivial
/-! the search at every depth -/
theorem seek_all {w : World} {a : Ad} : ∀ d, d ≤ 3 → SeekC w a d
  | 0, h => seek_step (fun d' e => by omega) h
  | d + 1, h => seek_step (fun d' e => by obtain rfl : d = d' := by omega
                                          exact seek_all d (by omega)) h
end
section
theorem on_V0 : True := by
  k_with_none
  k_with "om2" => (lia)
  trivial
/-! a def with cells -/
theorem con_enterC {w : World} {f : Addr} {args : List Value} {led tl : List (Addr × Obj)} {wr : List Addr} {d u : Nat} {P : Heap → Value → Heap → Prop} {name qual : Str} {params : Arguments} {body : List Stmt} {scope : Scope} {dV kV doc pm cdv ct oc : Value} {an od : Option Addr} {osl : Array (Option Value)} (binds : List (Str × Value))
    (ho : (hd.heap_39 w.params).lookup f = some ⟨oc, od, .func (fnOf name qual params body scope dV kV doc pm an cdv ct), osl⟩) (hcd : codeIn (hd.heap_39 w.params) cdv qual = true)
    (hbind : bindArgs (fnOf name qual params body scope dV kV doc pm an cdv ct) ⟨args, []⟩ = pure binds)
    (hkind : ∀ n, ∀ x ∈ binds, scope.names.lookup x.1 = some .local ∨ (scope.names.lookup x.1 = some .cell ∧ ((cellsFrom n scope.names []).lookup x.1).isSome = true))
    (hnd : ((cellsFrom 0 scope.names []).map (·.1)).Nodup)
    (hdis : ∀ p ∈ tl, p.1 ∉ led.map (·.1))
    (h : ∀ (dp un : Nat) (gd : Option (List Code)) (outer : List Env) (A₀ : Around) (base g : Heap) (L : Nat) (h₁ H : Heap) (s : Shared) (mean : ExcName → Option Value) (mg mb : Str → Option Value) (tk : Nat) (cells : List (Addr × Obj)),
      Below A₀ base outer g → (hd.heap_39 w.params).In g → Top hd.view_39 (looseW hd.view_39 []) mean mg mb g → Fr g L h₁ (bindL (envOfC qual scope L f cdv).kindOf binds fun _ => none) → News g L h₁ (cells ++ led) →
      CellsAre (bindC (envOfC qual scope L f cdv).kindOf binds fun _ => none) (cellsFrom (L + 1) scope.names []) cells → (∀ p ∈ tl, g.get? p.1 = some p.2) → From H g led L → (∀ p ∈ cells, H.get? p.1 = none) → dp + d < recursionLimit → un + u < cLine →
      wpAny (model PySem.Challenge.rw_nt0425_01.row.prog w) (ktrTop dp un gd qual scope L f cdv (cellsFrom (L + 1) scope.names []) outer) (execs body (envOfC qual scope L f cdv))
        (fun fl s' => Back s g L led wr (P H) (match fl with | .ret v => v | _ => .none) s')
        (fun _ _ => False) { s with heap := h₁, toks := tk })
    (hco : scope.isCoroutine = false) (hgen : scope.isGenerator = false) (hk : scope.kind = .function) : Con w f args led tl wr (d + 1) (u + 3) P := by
  intro dp un gd cn cs a ccd cl outer A₀ base h₀ L m s mean mg mb Q E B F X N Tl T hck hdp hun hret
  refine wpAny_call ?_
  obtain ⟨FG, BG, st, _⟩ := groundX (A := ktrTop dp un gd cn cs L a ccd cl outer) (env := envX cn cs L a ccd cl) (R := fun _ _ => True) B F N rfl rfl hck
  refine codeAny_call_function (by show dp < recursionLimit; omega) ((X.keeps F.keep) _ _ ho) rfl hco hgen rfl (codeRec_of (X.keeps F.keep) hcd) ((BindsTo.of_eq hbind) _ _ _ _ ?_)
  refine wpAny_newFunctionEnv_cells hk (hkind _) fun env' he s' x => ?_
  subst he
  refine ⟨(T.nolimit.keeps F.keep).keeps x.toInCall.keep, codeAny_func ?_⟩
  obtain ⟨h₁, tk, rfl, _⟩ := x.done
  have hk₁ := x.toInCall.keep
  obtain ⟨cells, NC, Y⟩ := Cl.news (h₀ := s.heap) (Nat.le_refl _) fun n c hm => ⟨x.cell n c (lookup_of_mem_nodup (cellsFrom_names scope.names 0 (s.heap.objs.size + 1) [] [] rfl ▸ hnd) hm), x.above n c hm⟩
  have hfp : ∀ p ∈ led, (hideAll s.heap (led.map (·.1))).get? p.1 = none := fun p hp => hideAll_none _ (List.mem_map_of_mem hp)
  refine wpAny_mono (h (dp + 1) (un + 3) gd (envX cn cs L a ccd cl :: outer) _ base (hideAll s.heap (led.map (·.1))) s.heap.objs.size h₁ s.heap s mean mg mb tk cells BG (X.keeps fun b o e => st b o e) (T.keeps fun b o e => st b o e)
    ⟨x.toInCall.ns, fun b o e => hk₁ b o (of_hideAll _ e), Nat.le_of_eq (hideAll_size _ _)⟩
    (fun p hp => ?_) Y
    (fun p hp => hideAll_get _ (Tl p hp) (hdis p hp))
    ⟨fun b o e hn => hideAll_get _ e hn, fun b o e => of_hideAll _ e, fun p hp => Heap.lt_size (N p hp).1, rfl⟩
    (fun p hp => (NC p hp).2.2) (by omega) (by omega)) (fun fl s' hb => ?_) fun _ _ z => z.elim
  · rcases List.mem_append.mp hp with hp | hp
    · refine ⟨(NC p hp).1, (NC p hp).2.1, ?_⟩
      cases q : (hideAll s.heap (led.map (·.1))).get? p.1 with
      | none => rfl
      | some o => have := of_hideAll _ q; rw [(NC p hp).2.2] at this; cases this
    · exact ⟨hk₁ _ _ (N p hp).1, Nat.ne_of_lt (Heap.lt_size (N p hp).1), hfp p hp⟩
  obtain ⟨m', h', tk', rfl, F', hl, p⟩ := hb
  have k' : Kept wr s.heap h' := fun b o e hn => by
    by_cases hm : b ∈ led.map (·.1)
    · obtain ⟨p, hp, rfl⟩ := List.mem_map.mp hm
      rcases hl p hp with q | q
      · exact absurd q hn
      · have := (N p hp).1; rw [e] at this; cases this; exact q
    · exact F'.keep b o (hideAll_get _ e hm)
  obtain ⟨oL, es, ep, hL, hLd, hLk, hLf⟩ := F.ns
  refine hret _ h' tk' ⟨⟨oL, es, ep, F'.keep L oL ?_, hLd, hLk, hLf⟩, fun b o e => F'.keep b o (st b o e), F.above⟩ k' p
  refine hideAll_get _ hL fun q => ?_
  obtain ⟨p, hp, e⟩ := List.mem_map.mp q
  exact (N p hp).2.1 e
end
section
theorem on_V1 : True := by
  k_with_none
  k_with "om2" => (lia)
  trivial
/-! _law_plain -/
theorem news_at' {g h : Heap} {L : Addr} {a : Ad} {σ : St} {news : List (Addr × Obj)} (N : News g L h news) (hs : ∀ p ∈ WL a σ, p ∈ news) {b : Addr} {o : Obj} (hp : (b, o) ∈ WL a σ) : h.get? b = some o := (N _ (hs _ hp)).1
theorem fr_stays {g h h' : Heap} {L : Addr} {m : Str → Option Value} (F : Fr g L h m) (hk : ∀ b o, h.get? b = some o → h'.get? b = some o) : Fr g L h' m := by
  obtain ⟨oL, es, ep, hL, r⟩ := F.ns
  exact ⟨⟨oL, es, ep, hk _ _ hL, r⟩, fun b o e => hk b o (F.keep b o e), F.above⟩
theorem news_stays {g h h' : Heap} {L : Addr} {news : List (Addr × Obj)} (N : News g L h news) (hk : ∀ b o, h.get? b = some o → h'.get? b = some o) : News g L h' news := fun p hp => ⟨hk _ _ (N p hp).1, (N p hp).2⟩
theorem plain_top {T : Tre} {d node : Nat} {M : Int} (hd : d ≠ 0) (hne : (T.ch.getD node []).length ≠ 0) (h1 : M ∈ (T.ch.getD node []).map fun c => -plainM T (d - 1) c.toNat) (h2 : ∀ x ∈ (T.ch.getD node []).map fun c => -plainM T (d - 1) c.toNat, x ≤ M) : M = plainM T d node := by
  obtain ⟨e, rfl⟩ := Nat.exists_eq_succ_of_ne_zero hd
  obtain ⟨c, hc, rfl⟩ := List.mem_map.mp h1
  have q1 := plain_ge (d := e) hc
  obtain ⟨x, hx, q2⟩ := plain_in (d := e) (fun z => hne (by rw [z]; rfl))
  have q3 := h2 _ (List.mem_map_of_mem hx)
  simp only [Nat.succ_eq_add_one, Nat.add_sub_cancel] at q3 ⊢
  omega
theorem carried_ints {ys : List Value} {kids : List Int} {f : Int → Int} (hc : CarriedAll ys ((kids.filter fun _ => true).map fun c => PyData.int (f c))) : IntsAre ys (kids.map f) := by
  rw [List.filter_eq_self.mpr (fun _ _ => rfl)] at hc
  exact CarriedAll.intsOf hc
def PlainC (w : World) (a : Ad) (d : Nat) : Prop := ∀ {σ : St} {node : Nat} {nd dp : Int} {t1 t2 : Tok}, WB w a σ → node < a.T.ch.length → nd = (node : Int) → dp = (d : Int) →
  Con w 356 [.ref a.Ch, .ref a.V, .int nd t1, .int dp t2] (WL a σ) [] [] (8 * d + 8) (80 * d + 80) (fun _ r _ => ∃ t, r = .int (plainM a.T d node) t)
theorem plain_step {w : World} {a : Ad} {d : Nat} (ih : ∀ d', d = d' + 1 → PlainC w a d') (hd3 : d ≤ 3) : PlainC w a d := by
  intro σ node nd dp t1 t2 h n hnd hdp
  subst hnd hdp
  have hlens := h.rws.lens node n
  refine ex3 (h.rws.ch node n) fun cnb cvs ck z₉ => an3 z₉ fun ce ci cv => ?_; clear z₉
  have hB : Bx (WB w a σ) := ⟨h⟩
  have hn20 : node < 13 := by have := h.rws.n; omega
  have hkidB : ∀ c ∈ a.T.ch.getD node [], 0 ≤ c ∧ c < a.T.ch.length := h.rws.kids node n
  have hcvB : Bx (IntsAre cvs (a.T.ch.getD node [])) := ⟨cv⟩
  have hcl := cv.length
  have hc3 := hlens.2.2
  have hnva := h.rws.nva
  clear h cv hlens
  refine' con_enterC [("children", .ref a.Ch), ("values", .ref a.V), ("node", .int (node : Int) t1), ("depth", .int (d : Int) t2)] ?ho ?hcd ?hb ?hkind ?hnd ?hdis ?_ ?c1 ?c2 ?c3
  case ho => k_is
  case hcd => k_is
  case hb => exact rfl
  case hkind =>
    intro n x hx
    simp only [List.mem_cons, List.not_mem_nil, or_false] at hx
    rcases hx with rfl | rfl | rfl | rfl <;> first | exact .inl rfl | exact .inr ⟨rfl, rfl⟩
  case hnd => decide
  case hdis => exact List.forall_mem_nil _
  case c1 => exact rfl
  case c2 => exact rfl
  case c3 => exact rfl
  k_whole
  intro dp un gd outer A₀ base g L h₁ H s mean mg mb tk cells B X T F N Y Tl Z hHc hD hU
  (try dsimp only)
  k_cells Y
  (try simp only [List.cons_append, List.nil_append] at N)
  (try k_fold)
  k_with_none
  k_with "storeName" => (k_dflt (k_here; refine' store2 ?F ?N ?_ ?a ?b; (case F => k_asm); (case N => k_asm); (case a => rfl); (case b => rfl); k_whole; intro h' tk' F' N'; refine (let m9 : Str → Option Value := _; (fun (F' : Fr _ _ _ m9) => ?_) F'); (try k_sweep)))
  k_with "eval Constant int" => (k_dflt (first | with_reducible refine const_int3 ?_ | refine const_int3 ?_))
  k_with "binaryOp Add int int" => (k_dflt (first | with_reducible refine add_int3 ?_ | refine add_int3 ?_))
  k_with "binaryOp Sub int int" => (k_dflt (first | with_reducible refine sub_int3 ?_ | refine sub_int3 ?_))
  k_with "unaryOp USub int" => (k_dflt (first | with_reducible refine neg_int3 ?_ | refine neg_int3 ?_))
  k_with "om2" => (lia)
  k_with "subscriptTail" => (k_dflt (((with_reducible show wpAny _ _ (subscriptTail (Expr.Name (Str.ofString "children") _) _ _ _) _ _ _); (rename News _ _ _ _ => N9); refine my_item (isList_of (news_at' (σ := σ) N9 (by (intro p9 hp9; repeat (first | exact hp9 | exact List.mem_append_left _ hp9 | exact List.mem_append_right _ hp9 | refine List.mem_append_left _ ?_ | refine List.Mem.tail _ ?_))) (wx (sub_ro _ (.head _))))) (by omega) (by omega) ce ?_)))
  k_with "subscriptTail" => (k_dflt (((with_reducible show wpAny _ _ (subscriptTail (Expr.Name (Str.ofString "values") _) _ _ _) _ _ _); (rename News _ _ _ _ => N9); obtain ⟨tv9, htv9⟩ := ints_at2 hB.out.rws.va (k := node) (by omega); refine my_item (isList_of (news_at' (σ := σ) N9 (by (intro p9 hp9; repeat (first | exact hp9 | exact List.mem_append_left _ hp9 | exact List.mem_append_right _ hp9 | refine List.mem_append_left _ ?_ | refine List.Mem.tail _ ?_))) (wx (sub_ro _ (.tail _ (.head _)))))) (by omega) (by omega) htv9 ?_)))
  k_with "truthy ref" => (k_dflt (((rename News _ _ _ _ => N9); refine' truthy_list_made (isList_of (news_at' (σ := σ) N9 (by (intro p9 hp9; repeat (first | exact hp9 | exact List.mem_append_left _ hp9 | exact List.mem_append_right _ hp9 | refine List.mem_append_left _ ?_ | refine List.Mem.tail _ ?_))) (wim ci))) (IntsAre.carried hcvB.out) ?zb ?_; (case zb => (rw [List.length_map]; omega)); rw [List.length_map])))
  k_with "eval Name" => (k_dflt (((with_reducible show wpAny _ _ (eval (Expr.Name (Str.ofString "children") _) _) _ _ _); refine' nameX_C ?N ?c ?m ?d ?_ ?a ?b; (case a => rfl); (case b => rfl); (case N => k_asm); (case c => rfl); (case m => k_mem); (case d => k_asm))))
  k_with "eval ListComp" => (k_dflt (((refine' ListComp_DCk (K := ItemKind.int) (pz := fun _ => true) (d := fun c => PyData.int (-plainM a.T (d - 1) c.toNat)) (h₀ := g) (L := L) ?zhany ?zhh ?zhclos ?zhcell ?zhkind ?zhnames ?zhx ?zh ?zhs; (case zhany => decide); (case zhh => exact rfl); (case zhclos => with_unfolding_all rfl); (case zhcell => decide); (case zhkind => with_unfolding_all rfl); (case zhnames => decide); (case zhx => with_unfolding_all rfl); (case zhs => intro _; with_unfolding_all rfl); (case' zh => with_reducible refine wpAny_compPack ?_)))))
  k_with "CompPack" => (k_dflt ((((rename News _ _ _ _ => N9); (rename Fr _ _ _ _ => F9); refine' CompPack.intro ⟨cnb, cvs, a.T.ch.getD node [], rfl, isList_of (news_at' (σ := σ) N9 (by (intro p9 hp9; repeat (first | exact hp9 | exact List.mem_append_left _ hp9 | exact List.mem_append_right _ hp9 | refine List.mem_append_left _ ?_ | refine List.Mem.tail _ ?_))) (wim ci)), IntsAre.areOf hcvB.out, (by rw [sizeLine_eq]; omega), F9, N9, ?ytest, ?yelt, ?ydone⟩; (case ytest => (intro C a9 v s₂ m₂ E' _ _ _ _ _; exact wpAny_pure ⟨rfl, s₂.heap, s₂.toks, rfl, fun _ _ e => e⟩)); (case' yelt => (intro C kid v s₂ m₂ E' hin hK _ hns hmx hkeep; obtain ⟨tk9, rfl⟩ := hK; have F2 := fr_stays F9 hkeep; have N2 := news_stays N9 hkeep; have hkd := hkidB _ hin; clear F9 N9)); (case' ydone => (intro D ys h' tk F' N' hDn hl hc))))))
  k_with "call ref" => (k_dflt (((rename News _ _ _ _ => N9); (rename Fr _ _ _ _ => F9); (try k_fold); refine' con_use (ih (d - 1) (by omega) hB.out (node := kid.toNat) ?x1 ?x2 ?x3) ?k1 ?k2 ?k3 ?k4 ?k5 ?kK ?ks ?kt ?kd ?ku ?_; (case k1 => k_asm); (case k2 => k_asm); (case k3 => k_asm); (case k4 => k_asm); (case k5 => k_asm); (case kK => exact rfl); (case ks => (intro p9 hp9; repeat (first | exact hp9 | exact List.mem_append_left _ hp9 | exact List.mem_append_right _ hp9 | refine List.mem_append_left _ ?_ | refine List.Mem.tail _ ?_))); (case kt => exact List.forall_mem_nil _); (case kd => omega); (case ku => omega); (case x1 => omega); (case x2 => omega); (case x3 => omega); k_whole; intro r9 h' tk' F' K9 p9; obtain ⟨tr9, rfl⟩ := p9; have N' := news_stays N9 (fun b o e => K9 b o e (fun h => nomatch h)); (try dsimp only); (try k_sweep))))
  k_with "call builtin:max" => (k_dflt ((((rename News _ _ _ _ => N9); (rename Fr _ _ _ _ => F9); refine' max_list_N (ns := (a.T.ch.getD node []).map fun c => -plainM a.T (d - 1) c.toNat) ?mhh F9 N9 hl (carried_ints hc) ?mne ?mret; (case mhh => exact rfl); (case mne => (rw [List.length_map]; omega)); (case' mret => (intro h' M t tk F' N' hM1 hM2; have hM := plain_top (d := d) (by omega) (by omega) hM1 hM2; subst hM))))))
  k_steps
  all_goals (try dsimp only)
  · (refine' back_intro ?bF ?bL ?_; (case bF => k_asm); (case bL => ((rename News _ _ _ _ => N9); exact fun p hp => .inr (N9 p (by revert p; (intro p9 hp9; repeat (first | exact hp9 | exact List.mem_append_left _ hp9 | exact List.mem_append_right _ hp9 | refine List.mem_append_left _ ?_ | refine List.Mem.tail _ ?_)))).1))); exact ⟨_, by rw [plain_leaf (T := a.T) (d := d) (node := node) (.inl (by omega))]⟩
  · exact (Str.ofString "")
  · exact (0 : Nat)
  · exact Value.none
  · (refine' back_intro ?bF ?bL ?_; (case bF => k_asm); (case bL => ((rename News _ _ _ _ => N9); exact fun p hp => .inr (N9 p (by revert p; (intro p9 hp9; repeat (first | exact hp9 | exact List.mem_append_left _ hp9 | exact List.mem_append_right _ hp9 | refine List.mem_append_left _ ?_ | refine List.Mem.tail _ ?_)))).1))); exact ⟨_, rfl⟩
  · first | exact Carried.int _ _ | exact ⟨_, rfl⟩ | constructor
  · exact ⟨_, _, rfl, fun b o e => K9 b o e (fun h => nomatch h)⟩
  · (refine' back_intro ?bF ?bL ?_; (case bF => k_asm); (case bL => ((rename News _ _ _ _ => N9); exact fun p hp => .inr (N9 p (by revert p; (intro p9 hp9; repeat (first | exact hp9 | exact List.mem_append_left _ hp9 | exact List.mem_append_right _ hp9 | refine List.mem_append_left _ ?_ | refine List.Mem.tail _ ?_)))).1))); exact ⟨_, by rw [plain_leaf (T := a.T) (d := d) (node := node) (.inr (List.eq_nil_of_length_eq_zero (by omega)))]⟩
end
section
theorem on_V2 : True := by
  k_with_none
  k_with "om2" => (lia)
  trivial
/-! the plain value at every depth -/
theorem plain_all {w : World} {a : Ad} : ∀ d, d ≤ 3 → PlainC w a d
  | 0, h => plain_step (fun d' e => by omega) h
  | d + 1, h => plain_step (fun d' e => by obtain rfl : d = d' := by omega
                                           exact plain_all d (by omega)) h
end
section
theorem on_A1 : True := by
  k_with_none
  k_with "om2" => (lia)
  trivial
/-! loops over a dict's keys -/
section
variable {prog : Program} {w : World} {A : Around} {E : Value → Shared → Prop} {s : Shared} {env : Env} {h₀ : Heap} {x : Str} {body : List Stmt} {Q : Flow → Shared → Prop} {K : Type} [DecidableEq K] {knd : KeyKind prog w K}
/-- for x in a dict, by J -/
theorem dict_J {l : Nat} {kvs : List (K × Value)} {ep : Nat} {m₀ : Str → Option Value} {news : List (Addr × Obj)} (adr : List Addr) (J : Nat → (Str → Option Value) → List (Addr × Obj) → Prop)
    (hh : A.handled = none) (hlow : (l == sysModules) = false) (hl : s.heap.DictAt knd l kvs ep) (hlL : l ≠ env.locals) (F : Fr h₀ env.locals s.heap m₀) (N : News h₀ env.locals s.heap news) (ha : ∀ a ∈ adr, a ≠ l ∧ (s.heap.get? a).isSome = true) (hj : J 0 m₀ news) (hno : ∀ i m n, J i m n → NoIt n)
    (turn : ∀ i v m₁ news₁ h tk own, (∃ k y, kvs[i]? = some (k, y) ∧ knd.is k v = true) → OwnOff own adr → J i m₁ news₁ → Fr h₀ env.locals h (fun y => if y = x then some v else m₁ y) → News h₀ env.locals h (own ++ news₁) →
      wpAny (model prog w) A (execs body env) (EndJ h₀ env.locals own (J (i + 1)) { s with heap := h, toks := tk } Q) E { s with heap := h, toks := tk })
    (done : ∀ m₁ news₁ h tk, J kvs.length m₁ news₁ → Fr h₀ env.locals h m₁ → News h₀ env.locals h news₁ → Q .next { s with heap := h, toks := tk }) :
    wpAny (model prog w) A (pyIter (.ref l)) (fun it s₂ => LoopAtV prog w A h₀ env x body Q E it s₂) E s := by
  obtain ⟨ol, es, hol, _⟩ := id hl
  have hlt : l < s.heap.objs.size := Heap.lt_size hol
  have hne : l ≠ s.heap.objs.size := Nat.ne_of_lt hlt
  refine wpAny_pyIter_dict hlow hl ?_
  have W := Walks.dictKeys (prog := prog) (w := w) (knd := knd) hh s.heap.objs.size l hne kvs ep
  refine walk_J adr J W (fun i h st => ?_) ?_ (next_is_new F) ⟨⟨_, Heap.get?_push_size _ rfl, rfl, rfl⟩, hl.at' fun o e => Heap.get?_push_of_some _ e⟩ (F.push _) (fun p hp => ⟨Heap.get?_push_of_some _ (N p hp).1, (N p hp).2⟩) ?_ hj hno ?_ done
  · obtain ⟨⟨o, ho, hc, _⟩, _⟩ := st
    exact ⟨o, ho, by unfold itCls; rw [hc]; rfl⟩
  · intro hm
    rcases List.mem_cons.mp hm with e | hm
    · exact absurd F.ns.lt (e ▸ Nat.lt_irrefl _)
    · exact hlL (List.mem_singleton.mp hm).symm
  · intro b hb hm
    obtain ⟨h1, h2⟩ := ha b hm
    obtain ⟨o, ho⟩ := Option.isSome_iff_exists.mp h2
    rcases List.mem_cons.mp hb with e | hb
    · exact absurd (Heap.lt_size ho) (e ▸ Nat.lt_irrefl _)
    · exact h1 (List.mem_singleton.mp hb)
  · intro i v m₁ news₁ h tk own hi hP
    exact turn i v m₁ news₁ h tk own hP
theorem dict_K {σ : Type} {l : Nat} {kvs : List (K × Value)} {ep : Nat} {m₀ : Str → Option Value} (adr : List Addr) (Led : σ → List (Addr × Obj)) (ps : σ → List (Str × Value)) (stored : List Str) (P : Nat → σ → Prop) (c₀ : σ)
    (hh : A.handled = none) (hlow : (l == sysModules) = false) (hl : s.heap.DictAt knd l kvs ep) (hlL : l ≠ env.locals) (F : Fr h₀ env.locals s.heap m₀) (N : News h₀ env.locals s.heap (Led c₀)) (ha : ∀ a ∈ adr, a ≠ l ∧ (s.heap.get? a).isSome = true) (hp : P 0 c₀) (hk : ∀ p ∈ ps c₀, m₀ p.1 = some p.2)
    (hno : ∀ i c, P i c → NoIt (Led c))
    (turn : ∀ i v (c : σ) (u : Str → Option Value) h tk own, (∃ k y, kvs[i]? = some (k, y) ∧ knd.is k v = true) → OwnOff own adr → P i c → Fr h₀ env.locals h (fun y => if y = x then some v else kstB (fun z => if stored.contains z then u z else m₀ z) (ps c) y) → News h₀ env.locals h (Led c ++ own) →
      wpAny (model prog w) A (execs body env) (EndJ h₀ env.locals own (KJ Led ps x stored m₀ P (i + 1)) { s with heap := h, toks := tk } Q) E { s with heap := h, toks := tk })
    (done : ∀ (c : σ) (u : Str → Option Value) h tk, P kvs.length c → Fr h₀ env.locals h (fun y => if y = x then u y else kstB (fun z => if stored.contains z then u z else m₀ z) (ps c) y) → News h₀ env.locals h (Led c) → Q .next { s with heap := h, toks := tk }) :
    wpAny (model prog w) A (pyIter (.ref l)) (fun it s₂ => LoopAtV prog w A h₀ env x body Q E it s₂) E s := by
  refine dict_J adr (KJ Led ps x stored m₀ P) hh hlow hl hlL F N ha ⟨c₀, rfl, hp, hk, fun _ _ _ _ => rfl⟩ ?_ ?_ ?_
  · rintro i m n ⟨c, rfl, h1, _⟩
    exact hno i c h1
  · rintro i v m₁ nx h tk own hv ho ⟨c, rfl, hp', h1, h2⟩ F₁ N₁
    exact turn i v c m₁ h tk own hv ho hp' (kst_fr h1 h2 F₁) (own_last N₁)
  · rintro m₁ nx h tk ⟨c, rfl, hp', h1, h2⟩ F₁ N₁
    exact done c m₁ h tk hp' (kst_frOut h1 h2 F₁) N₁
end
end
section
theorem on_A2 : True := by
  k_with_none
  k_with "om0" => (first | with_reducible assumption | exact cj0 (by with_reducible assumption) | exact cj1 (by with_reducible assumption) | exact cj2 (by with_reducible assumption) | exact cj3 (by with_reducible assumption) | exact cj4 (by with_reducible assumption) | exact cj5 (by with_reducible assumption) | exact cj6 (by with_reducible assumption) | exact cj7 (by with_reducible assumption) | exact cj8 (by with_reducible assumption) | exact cj9 (by with_reducible assumption) | exact cj10 (by with_reducible assumption) | exact cj11 (by with_reducible assumption) | exact cj12 (by with_reducible assumption) | exact ce1 (by with_reducible assumption) | exact ce2 (by with_reducible assumption) | exact ce3 (by with_reducible assumption) | exact ce4 (by with_reducible assumption) | exact ce5 (by with_reducible assumption) | exact ce6 (by with_reducible assumption) | exact ce7 (by with_reducible assumption) | exact ce8 (by with_reducible assumption) | exact ce9 (by with_reducible assumption) | exact ce10 (by with_reducible assumption) | exact ce11 (by with_reducible assumption) | exact ce12 (by with_reducible assumption))
  k_with "om2" => (first | k_extra "om0" | ((with_reducible refine Nat.ne_of_lt ?_); k_extra "om0") | ((with_reducible refine Nat.ne_of_gt ?_); k_extra "om0") | ((with_reducible refine Ne.symm ?_); k_extra "om0") | ((with_reducible refine' Nat.lt_of_le_of_lt (Nat.add_le_add_left ?p9 _) ?q9); (case q9 => with_reducible assumption); (case p9 => decide)) | ((with_reducible refine' Nat.le_trans ?p9 ?q9); (case p9 => k_extra "om0"); (case q9 => decide)) | ((with_reducible refine' Nat.lt_of_le_of_lt ?p9 ?q9); (case p9 => k_extra "om0"); (case q9 => decide)) | ((with_reducible refine' Int.le_trans ?p9 ?q9); (case p9 => k_extra "om0"); (case q9 => decide)) | ((with_reducible refine' Int.le_trans ?p9 ?q9); (case q9 => k_extra "om0"); (case p9 => decide)) | ((with_reducible refine' Int.lt_of_le_of_lt ?p9 ?q9); (case p9 => k_extra "om0"); (case q9 => decide)) | ((with_reducible refine' Int.lt_of_lt_of_le ?p9 ?q9); (case q9 => k_extra "om0"); (case p9 => decide)) | ((with_reducible refine And.intro ?_ ?_) <;> omega) | lia)
  trivial
/-! the history's ageing -/
def halfOf (v : Int) : Int := if v < 0 then -((-v * 1).fdiv 2) else (v * 1).fdiv 2
def ageStep (acc : List (Int × Int)) (p : Int × Int) : List (Int × Int) := if halfOf p.2 ≠ 0 then kdfPut acc p.1 (halfOf p.2) else acc
def ageC (c : List (Int × Int)) : List (Int × Int) := c.foldl ageStep []
structure AG where
  o : Obj
  kvs : List (Int × Value)
  c : List (Int × Int)
theorem dict_at {w : World} {g h : Heap} {L : Addr} {news : List (Addr × Obj)} {S : Nat} {o : Obj} {kvs : List (Int × Value)} (N : News g L h news) (hm : (S, o) ∈ news) (hd : o.IsDictOf (intKind PySem.Challenge.rw_nt0425_01.row.prog w) kvs) : ∃ ep, h.DictAt (intKind PySem.Challenge.rw_nt0425_01.row.prog w) S kvs ep := by
  obtain ⟨o9, es, ep, h1, h2⟩ := Heap.dictOf_iff.mpr ⟨o, (N _ hm).1, hd⟩
  exact ⟨ep, o9, es, h1, h2⟩
theorem value_at {kvs : List (Int × Value)} (hn : (kvs.map (·.1)).Nodup) {i : Nat} {k : Int} {y : Value} (h : kvs[i]? = some (k, y)) : valueAt kvs k = some y := by
  unfold valueAt
  induction kvs generalizing i with
  | nil => simp at h
  | cons p r ih =>
    rw [List.map_cons, List.nodup_cons] at hn
    cases i with
    | zero =>
      simp only [List.getElem?_cons_zero, Option.some.injEq] at h
      subst h
      simp
    | succ i =>
      simp only [List.getElem?_cons_succ] at h
      have hm : k ∈ r.map (·.1) := List.mem_map.mpr ⟨_, List.mem_of_getElem? h, rfl⟩
      have hne : ¬ p.1 = k := fun e => hn.1 (e ▸ hm)
      rw [List.find?_cons_of_neg (by simpa using hne)]
      exact ih hn.2 h
theorem flat_at {kvs : List (Int × Value)} {c : List (Int × Int)} (hf : PyProof.V.FlatPairs PyData.int kvs (kdfD c)) {i : Nat} {k : Int} {y : Value} (h : kvs[i]? = some (k, y)) : ∃ n t, c[i]? = some (k, n) ∧ y = .int n t := by
  obtain ⟨dv, h1, h2⟩ := PyProof.V.FlatPairs.at hf h
  unfold kdfD at h1
  rw [List.getElem?_map] at h1
  obtain ⟨q, hq, e⟩ := Option.map_eq_some_iff.mp h1
  injection e with e1 e2
  injection e1 with e1
  subst e2
  obtain ⟨t, rfl⟩ := PyProof.V.Flat.int_inv h2
  exact ⟨q.2, t, by rw [hq, ← e1], rfl⟩
theorem half_bound {v l : Int} (h : -l ≤ v ∧ v ≤ l) : -l ≤ halfOf v ∧ halfOf v ≤ l := by
  unfold halfOf
  split
  · rw [Int.fdiv_eq_ediv_of_nonneg _ (by decide)]; omega
  · rw [Int.fdiv_eq_ediv_of_nonneg _ (by decide)]; omega
theorem WFc.step {l : Int} {c k : List (Int × Int)} (h : WFc l c) (hk : WFc l k) {i : Nat} {p : Int × Int} (e : c[i]? = some p) : WFc l (ageStep k p) := by
  unfold ageStep
  split
  · exact hk.put (h.keys _ (List.mem_of_getElem? e)) (half_bound (h.bound _ (List.mem_of_getElem? e)))
  · exact hk
theorem age_take {c : List (Int × Int)} {i : Nat} {p : Int × Int} (e : c[i]? = some p) : (c.take (i + 1)).foldl ageStep [] = ageStep ((c.take i).foldl ageStep []) p := by
  rw [List.take_add_one, e, List.foldl_append]; rfl
theorem name_refA {h₀ h : Heap} {L a : Addr} {m : Str → Option Value} (_F : Fr h₀ L h m) (y : Str) (_e : m y = some (.ref a)) : ∃ b : Nat, b = a := ⟨a, rfl⟩
theorem history_age_ok {w : World} {l : Int} {t4 k1 k2 : Tok} {Hd Hx S : Nat} {hh1 hh2 : Int} {n : Nat} {o : Obj} {kvs : List (Int × Value)} {c : List (Int × Int)}
   (hd : intD w o kvs c) (hW : WFc l c) (hl : l ≤ 1000) (hlow : (S == sysModules) = false) (d1 : Hd < Hx) (d2 : S ≠ Hd ∧ S ≠ Hx) :
    Con w 114 [.ref Hx] (histL Hd Hx S hh1 hh2 l k1 k2 t4 n o) [] [Hd] 3 12
     (fun H r h' => r = .none ∧ ∃ S' o' kvs' n', H.get? S' = none ∧ (S' == sysModules) = false ∧ h'.get? S' = some o' ∧ intD w o' kvs' (ageC c) ∧ h'.get? Hd = some (dictOf [⟨hh1, .str (Str.ofString "limit") k1, .int l t4⟩, ⟨hh2, .str (Str.ofString "scores") k2, .ref S'⟩] n')) := by
  obtain ⟨hd, hf⟩ := hd
  have hnd : (kvs.map (·.1)).Nodup := by obtain ⟨_, _, _, _, _, _, q⟩ := hd; exact q
  refine' con_enter [("self", .ref Hx)] ?ho ?hcd ?hb ?hl ?hdis ?_ ?c1 ?c2 ?c3 ?c4; (case ho => k_is); (case hcd => k_is); (case hb => exact rfl); (case hl => exact locs rfl); (try (case hdis => exact List.forall_mem_nil _)); (case c1 => exact rfl); (case c2 => exact rfl); (case c3 => exact rfl); (case c4 => decide); k_whole; intro dp un gd outer A₀ base g L h₁ H s mean mg mb B X T F N Tl Z hD hU; (try dsimp only); refine (let m9 : Str → Option Value := _; (fun (F : Fr _ _ _ m9) => ?_) F)
  k_fold
  k_with_none
  k_with "storeName" => (k_dflt (k_here; refine' store2 ?F ?N ?_ ?a ?b; (case F => k_asm); (case N => k_asm); (case a => rfl); (case b => rfl); k_whole; intro h' tk' F' N'; refine (let m9 : Str → Option Value := _; (fun (F' : Fr _ _ _ m9) => ?_) F'); (try k_sweep)))
  k_with "eval Constant int" => (k_dflt (first | with_reducible refine const_int3 ?_ | refine const_int3 ?_))
  k_with "binaryOp Add int int" => (k_dflt (first | with_reducible refine add_int3 ?_ | refine add_int3 ?_))
  k_with "binaryOp Sub int int" => (k_dflt (first | with_reducible refine sub_int3 ?_ | refine sub_int3 ?_))
  k_with "unaryOp USub int" => (k_dflt (first | with_reducible refine neg_int3 ?_ | refine neg_int3 ?_))
  k_with "om0" => (first | with_reducible assumption | exact cj0 (by with_reducible assumption) | exact cj1 (by with_reducible assumption) | exact cj2 (by with_reducible assumption) | exact cj3 (by with_reducible assumption) | exact cj4 (by with_reducible assumption) | exact cj5 (by with_reducible assumption) | exact cj6 (by with_reducible assumption) | exact cj7 (by with_reducible assumption) | exact cj8 (by with_reducible assumption) | exact cj9 (by with_reducible assumption) | exact cj10 (by with_reducible assumption) | exact cj11 (by with_reducible assumption) | exact cj12 (by with_reducible assumption) | exact ce1 (by with_reducible assumption) | exact ce2 (by with_reducible assumption) | exact ce3 (by with_reducible assumption) | exact ce4 (by with_reducible assumption) | exact ce5 (by with_reducible assumption) | exact ce6 (by with_reducible assumption) | exact ce7 (by with_reducible assumption) | exact ce8 (by with_reducible assumption) | exact ce9 (by with_reducible assumption) | exact ce10 (by with_reducible assumption) | exact ce11 (by with_reducible assumption) | exact ce12 (by with_reducible assumption))
  k_with "om2" => (first | k_extra "om0" | ((with_reducible refine Nat.ne_of_lt ?_); k_extra "om0") | ((with_reducible refine Nat.ne_of_gt ?_); k_extra "om0") | ((with_reducible refine Ne.symm ?_); k_extra "om0") | ((with_reducible refine' Nat.lt_of_le_of_lt (Nat.add_le_add_left ?p9 _) ?q9); (case q9 => with_reducible assumption); (case p9 => decide)) | ((with_reducible refine' Nat.le_trans ?p9 ?q9); (case p9 => k_extra "om0"); (case q9 => decide)) | ((with_reducible refine' Nat.lt_of_le_of_lt ?p9 ?q9); (case p9 => k_extra "om0"); (case q9 => decide)) | ((with_reducible refine' Int.le_trans ?p9 ?q9); (case p9 => k_extra "om0"); (case q9 => decide)) | ((with_reducible refine' Int.le_trans ?p9 ?q9); (case q9 => k_extra "om0"); (case p9 => decide)) | ((with_reducible refine' Int.lt_of_le_of_lt ?p9 ?q9); (case p9 => k_extra "om0"); (case q9 => decide)) | ((with_reducible refine' Int.lt_of_lt_of_le ?p9 ?q9); (case q9 => k_extra "om0"); (case p9 => decide)) | ((with_reducible refine And.intro ?_ ?_) <;> omega) | lia)
  k_with "pyIter ref" => (k_dflt (((rename News _ _ _ _ => N9); (rename Fr _ _ _ _ => F9); obtain ⟨Dk, hDk⟩ := name_refA F9 (Str.ofString "kept") rfl; subst hDk; obtain ⟨ep9, hA⟩ := dict_at (S := S) N9 (by k_mem) hd; refine' dict_K (σ := AG) (knd := intKind PySem.Challenge.rw_nt0425_01.row.prog w) [Dk] (fun k => (Dk, k.o) :: histL Hd Hx S hh1 hh2 l k1 k2 t4 n o) (fun _ => []) [Str.ofString "half"] (fun i k => intD w k.o k.kvs k.c ∧ k.c = (c.take i).foldl ageStep [] ∧ WFc l k.c) ⟨_, [], []⟩ ?zhh hlow hA ?zhlL F9 N9 ?zha ⟨⟨by assumption, by assumption⟩, rfl, WFc.nil⟩ (fun _ h => nomatch h) ?zhno ?zturn ?zdone; (case zhh => exact rfl); (case zhlL => exact (N9 (S, o) (by k_mem)).2.1); (case zha => exact List.forall_mem_singleton.mpr ⟨by (show (Dk : Nat) ≠ S); omega, live_of N9 (.head _)⟩); (case zhno => exact fun i k hP => noIt_cons (itCls_dict (dict_cls hP.1)) (noIt_cons (by rfl) (noIt_cons (by rfl) (noIt_cons (itCls_dict (dict_cls ⟨hd, hf⟩)) noIt_nil)))); (case' zturn => (clear F9 N9; intro i v k u h9 tk9 own hv ho hP F' N'; (try dsimp only); k_fold; obtain ⟨kk, yy, hkv, hkk⟩ := hv; obtain ⟨tk0, rfl⟩ := Value.isInt_shape hkk; obtain ⟨nv, tn, hci, rfl⟩ := flat_at hf hkv; have hvat := value_at hnd hkv; have hnb := hW.bound _ (List.mem_of_getElem? hci); obtain ⟨⟨hPd, hPf⟩, hPc, hPW⟩ := hP; have hPl := hPW.len; (try dsimp only at F'); (try dsimp only at N'); simp only [List.cons_append, List.nil_append] at N'; refine (let m9 : Str → Option Value := _; (fun (F' : Fr _ _ _ m9) => ?_) F'))); (case' zdone => (clear F9 N9; intro k u h9 tk9 hP F' N'; obtain ⟨⟨hPd, hPf⟩, hPc, hPW⟩ := hP; dsimp only [histL] at F' N' ⊢)))))
  k_with "getItem ref int" => (k_dflt ((((rename News _ _ _ _ => N9); refine kdt_getItem N9 (by k_mem) hd hkk hvat ?_))))
  k_with "call ref" => (k_dflt ((rename News _ _ _ _ => N9); (rename Fr _ _ _ _ => F9); (try k_fold); refine' con_use0 (scale_down_ok ?x1 ?x2 ?x3) ?k1 ?k2 ?k3 ?k4 ?k5 ?kK ?ks ?kt ?kd ?ku ?_; (case k1 => k_asm); (case k2 => k_asm); (case k3 => k_asm); (case k4 => k_asm); (case k5 => k_asm); (case kK => exact rfl); (case ks => (first | (refine sub_of ?_; (repeat (first | refine List.Sublist.cons_cons _ ?_ | ((fail_if_success exact List.nil_sublist _); refine List.Sublist.cons _ ?_))); exact List.nil_sublist _) | ((repeat (refine all_cons (by k_mem) ?_)); exact List.forall_mem_nil _))); (case kt => first | exact List.forall_mem_nil _ | ((repeat (refine all_cons (by first | exact (News.get (by k_asm) (by k_mem)) | exact Fr.keep (by k_asm) _ _ (by assumption)) ?_)); exact List.forall_mem_nil _)); (case kd => omega); (case ku => omega); (case x1 => omega); (case x2 => omega); (case x3 => omega); k_whole; intro r9 h' tk' F' N' p9; obtain ⟨t9, rfl⟩ := p9; (try dsimp only); (try k_sweep)))
  k_steps
  · (refine' set_dict (es' := [⟨hh1, .str (Str.ofString "limit") k1, .int l t4⟩, ⟨hh2, .str (Str.ofString "scores") k2, .ref Dk⟩]) (n' := n) ?k1 ?k2 ?k3 ?k4 ?k5 ?k6 ?k7 ?k8 ?k9 ?k10 ?k11 ?k12 ?k13 ?_; (case k1 => k_asm); (case k2 => k_asm); (case k3 => k_asm); (case k4 => k_inst); (case k5 => exact rfl); (case k6 => k_is); (case k7 => k_is); (case k8 => k_is); (case k9 => k_is); (case k10 => k_get); (case k11 => first | kernel_rfl | exact rfl); (case k12 => k_upd); (case k13 => exact Nat.le_of_ble_eq_true rfl); k_whole; intro h' F' N'; (try k_sweep))
    k_steps
    have hlen : kvs.length = c.length := by have := hf.length; simpa [kdfD] using this.symm
    rw [hlen, List.take_length] at hPc
    (refine' back_intro ?bF ?bL ?_; (case bF => k_asm); (case bL => first | exact List.forall_mem_nil _ | ((repeat (refine all_cons (by first | exact .inr (News.get (by with_reducible assumption) (by k_mem)) | exact .inl (by simp)) ?_)); exact List.forall_mem_nil _)); (refine ⟨rfl, Dk, _, _, _, Z.fresh (News.fresh (by k_asm) (.head _)) (by ((repeat (refine nmem_cons (by first | omega | ((try dsimp only); omega)) ?_)); exact nmem_nil)), by assumption, News.get (by k_asm) (.head _), ⟨hPd, ?_⟩, News.get (by k_asm) (by k_mem)⟩))
    unfold ageC; rw [← hPc]; exact hPf
  · refine endK2 ⟨_, _, kdfPut k.c kk (halfOf nv)⟩ (by k_asm) (by k_asm) ?_ ?_ ⟨⟨by assumption, flat_cast (by assumption) rfl⟩, ?_, ?_⟩ (fun _ h => nomatch h) (by ((repeat (first | exact Out.st rfl | exact Out.kst (Out.st rfl) rfl | refine Out.ite ?_ rfl | refine Out.itf ?_ rfl | refine Out.stf ?_ rfl))))
    · (intro p9 hp9; repeat (first | exact hp9 | exact List.mem_append_left _ hp9 | exact List.mem_append_right _ hp9 | refine List.mem_append_left _ ?_ | refine List.Mem.tail _ ?_))
    · (intro p9 hp9; repeat (first | exact hp9 | exact List.mem_append_left _ hp9 | exact List.mem_append_right _ hp9 | refine List.mem_append_left _ ?_ | refine List.Mem.tail _ ?_))
    · rw [age_take hci, ← hPc]; unfold ageStep; rw [if_pos (by assumption)]
    · have := hW.step hPW hci; unfold ageStep at this; rwa [if_pos (by assumption)] at this
  · refine endK2 k (by k_asm) (by k_asm) ?_ ?_ ⟨⟨hPd, hPf⟩, ?_, hPW⟩ (fun _ h => nomatch h) (by ((repeat (first | exact Out.st rfl | exact Out.kst (Out.st rfl) rfl | refine Out.ite ?_ rfl | refine Out.itf ?_ rfl | refine Out.stf ?_ rfl))))
    · (intro p9 hp9; repeat (first | exact hp9 | exact List.mem_append_left _ hp9 | exact List.mem_append_right _ hp9 | refine List.mem_append_left _ ?_ | refine List.Mem.tail _ ?_))
    · (intro p9 hp9; repeat (first | exact hp9 | exact List.mem_append_left _ hp9 | exact List.mem_append_right _ hp9 | refine List.mem_append_left _ ?_ | refine List.Mem.tail _ ?_))
    · rw [age_take hci, ← hPc]; unfold ageStep; rw [if_neg (fun z => z (by assumption))]
end
section
theorem on_F0 : True := by
  k_with_none
  k_with "om2" => (lia)
  trivial
/-! the exception's own init -/
abbrev excO (t : Nat) (dx : Option Addr) : Obj := { cls := .ref 63, dict := dx, data := .fields #[.ref t, .none, .none, .none, .bool false, .none] }
abbrev tupV (vs : List Value) : Obj := { cls := .type "tuple", data := .seq vs.toArray }
abbrev exP : List Value := [.ref 38, .type "Exception", .type "BaseException", .type "object"]
section
variable {prog : Program} {w : World} {A : Around} {E : Value → Shared → Prop} {h : Heap} {g : Array GenState} {d : Drawn} {t : Nat} {os : OsState}
variable {nm q : Str} {N : Addr} {bs : List Value} {hdct : Bool} {sn : List Str} {sub : List Value} {ab : Bool} {col : Option Bool} {dd : Option Addr} {k0 k1 k2 k3 k5 : Option Value}
theorem bad_check_init {M : Model} {e : Addr} {oe : Obj} {rest : List Value} {Q : Unit → Shared → Prop} (hC : h.get? 63 = some (excClassObj nm q 63 N bs exP hdct sn sub ab col dd k0 k1 k2 k3 k5 "Exception.__new__"))
    (he : h.get? e = some oe) (hcls : oe.cls = .ref 63) (hq : Q () ⟨h, g, d, t, os⟩) : wpAny M A (checkBuiltinCall "Exception.__init__" ⟨.ref e :: rest, []⟩) Q E ⟨h, g, d, t, os⟩ := by
  have F := PySem.F.excBase_Exception
  have hcB : (Value.ref 63 :: exP).contains (.type "Exception") = true := by decide +kernel
  have hshort := F.noStar
  simp only [checkBuiltinCall, F.initKind, F.initSplit, F.initRow]
  repeat (first | (with_reducible refine wpAny_loadPart_at he ?_; rw [hcls]) | with_reducible refine wpAny_loadPart_at hC ?_ | (with_reducible refine wpAny_isSubtype_exc hC ?_; rw [hcB]) | wp_step)
  refine wpAny_onRaise ?_
  rw [show ∀ (a b : String) (n : Nat), Bind.check ⟨.positional, "*", "Exception", .self, [⟨"args", .varPos, false⟩]⟩ a b n (List.map (fun x => x.fst) ({ pos := Value.ref e :: rest } : Args).kw) = pure () from
    fun a b n => check_star_args _ _ _ _ _ _]
  exact wpAny_pure hq
theorem bad_init_call {e t0 : Nat} {dx : Option Addr} {v : Value} {Q : Value → Shared → Prop} (hC : h.get? 63 = some (excClassObj nm q 63 N bs exP hdct sn sub ab col dd k0 k1 k2 k3 k5 "Exception.__new__"))
    (he : h.get? e = some (excO t0 dx)) (hq : ∀ h', h'.get? e = some (excO h.objs.size dx) → h'.get? h.objs.size = some (tupV [v]) → (∀ b o, b ≠ e → h.get? b = some o → h'.get? b = some o) → Q .none ⟨h', g, d, t, os⟩) :
    wpAny (model prog w) A (call (.builtin "Exception.__init__") [.ref e, v]) Q E ⟨h, g, d, t, os⟩ := by
  have F := PySem.F.excBase_Exception
  refine wpAny_call (codeAny_call_builtin F.init.plain F.initEntry (bad_check_init hC he rfl ?_))
  wp_walk
  have hne : h.objs.size ≠ e := Nat.ne_of_gt (Heap.lt_size he)
  refine hq _ ?_ ?_ fun b o hb ho => ?_
  · rw [Heap.get?_update_self _ (Heap.get?_push_of_some _ he) rfl]; rfl
  · rw [Heap.get?_update_other _ _ (Ne.symm hne)]; exact Heap.get?_push_at rfl rfl
  · rw [Heap.get?_update_other _ _ (Ne.symm hb)]; exact Heap.get?_push_of_some _ ho
end
theorem bad_cls {w : World} {h : Heap} (X : (hd.heap_39 w.params).In h) : ∃ nm q bs sn sub ab col dd k0 k1 k2 k3 k5, h.get? 63 = some (excClassObj nm q 63 62 bs exP true sn sub ab col dd k0 k1 k2 k3 k5 "Exception.__new__") :=
  ⟨_, _, _, _, _, _, _, _, _, _, _, _, _, X 63 _ (by k_is)⟩
open Builtin Builtin.ObjectAttr in
theorem bad_store {w : World} {A : Around} {E : Value → Shared → Prop} {s : Shared} {e t0 : Nat} {v : Value} {Q : Unit → Shared → Prop} (X : (hd.heap_39 w.params).In s.heap) (he : s.heap.get? e = some (excO t0 none))
    (hq : ∀ h' tk' d', h'.get? e = some (excO t0 (some d')) → (∀ b o, b ≠ e → s.heap.get? b = some o → h'.get? b = some o) → Q () { s with heap := h', toks := tk' }) : wpAny (model PySem.Challenge.rw_nt0425_01.row.prog w) A (setAttr (.ref e) (Str.ofString "text") v) Q E s := by
  have I : InstAt s.heap e (excO t0 none) 63 none := ⟨he, rfl, by rfl, trivial⟩
  refine set_plain X I (by k_is) ?_
  have SF := PySem.F.store_object
  have hm : mroIn (hd.heap_39 w.params) 63 (.type "object") = some true := by k_is
  have sub : Looks (model PySem.Challenge.rw_nt0425_01.row.prog w) s.heap (isInstance (.ref e) (.type "object")) true := I.type.andThen (looks_mroIn X hm)
  refine ex13 (bad_cls X) fun nm q bs sn sub' ab col dd k0 k1 k2 k3 k5 hC => ?_
  obtain ⟨h, g, d, t, os⟩ := s
  have I : InstAt h e (excO t0 none) 63 none := I
  have X : (hd.heap_39 w.params).In h := X
  have he : h.get? e = some (excO t0 none) := he
  have hC : h.get? 63 = _ := hC
  refine codeAny_call_builtin SF.slot.plain SF.entry (@check_slot (model _ w) _ _ ⟨h, g, d, t + 1, os⟩ "object.__setattr__" "object" "__setattr__" (.ref e) [.str _ t, v] [] _ SF.kind SF.split sub (SF.args _ _ _) ?_)
  rw [osa_eq, refuse_eq]
  refine wpAny_bind (wpAny_bind (I.type.here (wpAny_bind (wpAny_mroOf_exc hC ?_))))
  rw [refuseLoop_ref, refuseLoop_ref, PySem.F.store_Exception.passes]
  have hf : findIn (hd.heap_39 w.params) (.ref 63) (Str.ofString "text") = some none := by k_is
  refine wpAny_pure (wpAny_bind (I.type.here (wpAny_bind ((looks_findIn X hf).here (wpAny_bind (wpAny_pure ?_))))))
  have hes : e ≠ h.objs.size := Nat.ne_of_lt (Heap.lt_size he)
  have he₁ : (h.push { cls := .type "dict", data := .dict #[] }).get? e = some (excO t0 none) := Heap.get?_push_of_some _ he
  have hgd : ((h.push { cls := .type "dict", data := .dict #[] }).update e fun o => { cls := o.cls, dict := some h.objs.size, data := o.data, slots := o.slots }).get? h.objs.size = some { cls := .type "dict", data := .dict #[] } :=
    (Heap.get?_update_ne _ _ _ _ hes.symm).trans (Heap.get?_push_at rfl rfl)
  have hnd : ((h.push { cls := .type "dict", data := .dict #[] }).update e fun o => { cls := o.cls, dict := some h.objs.size, data := o.data, slots := o.slots }).Ns h.objs.size (fun _ => none) :=
    ⟨_, #[], _, hgd, rfl, fun e he => absurd he (by simp), fun _ => rfl⟩
  dsimp only
  unfold storeInOwnDict ownDictForStores instanceDict
  repeat (first | (with_reducible refine wpAny_nsSet1 (Heap.Ns1.of_empty hnd) ?_; intro h' hn' hs; obtain ⟨oD, esD, epD, hoD, hdD, hcD⟩ := hn'.count (Within.cons (Str.ofString "text") v Within.nil)) | with_reducible refine wpAny_lookBehind hoD (by rw [hdD]; exact pastItsLine_dict (Nat.le_trans hcD (by rw [List.length_cons, List.length_nil, sizeLine_eq]; omega))) ?_ | with_reducible refine wpAny_loadPart_at he ?_ | with_reducible refine wpAny_loadPart_at hC ?_ | wp_step)
  refine hq h' _ h.objs.size ?_ fun b o hb ho => ?_
  · exact (hs.2 e hes).trans (Heap.get?_update_self _ he₁ rfl)
  · exact (hs.2 b (Nat.ne_of_lt (Heap.lt_size ho))).trans ((Heap.get?_update_ne _ _ _ _ hb).trans (Heap.get?_push_of_some _ ho))
theorem fr_but {g h h' : Heap} {L e : Nat} {m : Str → Option Value} (F : Fr g L h m) (hn : g.get? e = none) (hL : e ≠ L) (hk : ∀ b o, b ≠ e → h.get? b = some o → h'.get? b = some o) : Fr g L h' m := by
  obtain ⟨oL, es, ep, h1, r⟩ := F.ns
  exact ⟨⟨oL, es, ep, hk _ _ (Ne.symm hL) h1, r⟩, fun b o q => hk b o (fun z => by rw [z, hn] at q; cases q) (F.keep b o q), F.above⟩
theorem new_top {g h : Heap} {L : Nat} {m : Str → Option Value} (F : Fr g L h m) : h.objs.size ≠ L ∧ g.get? h.objs.size = none := by
  refine ⟨Nat.ne_of_gt F.ns.lt, ?_⟩
  cases q : g.get? h.objs.size with
  | none => rfl
  | some o => exact absurd (Heap.lt_size (F.keep _ _ q)) (Nat.lt_irrefl _)
theorem exc_init_ok {w : World} {e t : Nat} {x : Str} {tk : Tok} (ht : e ≠ t) :
    Con w 35 [.ref e, .str x tk] [(e, excO t none), (t, tupV [.str x tk])] [] [e] 3 12
     (fun H r h' => r = .none ∧ ∃ d t', h'.get? e = some (excO t' (some d)) ∧ H.get? t' = none ∧ h'.get? t' = some (tupV [.str x tk])) := by
  refine' con_enter [("self", .ref e), ("text", .str x tk)] ?ho ?hcd ?hb ?hl ?hdis ?_ ?c1 ?c2 ?c3 ?c4; (case ho => k_is); (case hcd => k_is); (case hb => exact rfl); (case hl => exact locs rfl); (try (case hdis => exact List.forall_mem_nil _)); (case c1 => exact rfl); (case c2 => exact rfl); (case c3 => exact rfl); (case c4 => decide); k_whole; intro dp un gd outer A₀ base g L h₁ H s mean mg mb B X T F N Tl Z hD hU; (try dsimp only); refine (let m9 : Str → Option Value := _; (fun (F : Fr _ _ _ m9) => ?_) F)
  k_fold
  k_with_none
  k_with "storeName" => (k_dflt (k_here; refine' store2 ?F ?N ?_ ?a ?b; (case F => k_asm); (case N => k_asm); (case a => rfl); (case b => rfl); k_whole; intro h' tk' F' N'; refine (let m9 : Str → Option Value := _; (fun (F' : Fr _ _ _ m9) => ?_) F'); (try k_sweep)))
  k_with "eval Constant int" => (k_dflt (first | with_reducible refine const_int3 ?_ | refine const_int3 ?_))
  k_with "binaryOp Add int int" => (k_dflt (first | with_reducible refine add_int3 ?_ | refine add_int3 ?_))
  k_with "binaryOp Sub int int" => (k_dflt (first | with_reducible refine sub_int3 ?_ | refine sub_int3 ?_))
  k_with "unaryOp USub int" => (k_dflt (first | with_reducible refine neg_int3 ?_ | refine neg_int3 ?_))
  k_with "om2" => (lia)
  k_with "getMethod type:Exception" => (k_dflt (((refine' method_type ?F ?X ?m (by decide +kernel) ?e ?h ?_; (case F => k_asm); (case X => k_asm); (case m => kernel_rfl); (case e => k_is); (case h => exact rfl)))))
  k_with "call builtin:Exception.__init__" => (k_dflt ((((rename News _ _ _ _ => N9); (rename Fr _ _ _ _ => F9); refine ex13 (bad_cls (X.keeps F9.keep)) fun nm q bs sn sub' ab col dd k0 k1 k2 k3 k5 hC => ?_; refine bad_init_call hC (N9 _ (.head _)).1 ?_; intro h' hg1 hg2 hk9; have F' := fr_but F9 (N9 _ (.head _)).2.2 (N9 _ (.head _)).2.1 hk9; have N' : News g L h' [(e, excO h₁.objs.size none), (h₁.objs.size, tupV [.str x _]), (t, tupV [.str x _])] := List.forall_mem_cons.mpr ⟨⟨hg1, (N9 _ (.head _)).2⟩, List.forall_mem_cons.mpr ⟨⟨hg2, new_top F9⟩, List.forall_mem_singleton.mpr ⟨hk9 _ _ (Ne.symm ht) (N9 _ (.tail _ (.head _))).1, (N9 _ (.tail _ (.head _))).2⟩⟩⟩; have hte : h₁.objs.size ≠ e := Nat.ne_of_gt (Heap.lt_size (N9 _ (.head _)).1); have htt : h₁.objs.size ≠ t := Nat.ne_of_gt (Heap.lt_size (N9 _ (.tail _ (.head _))).1)))))
  k_with "setAttr ref" => (k_dflt ((((rename News _ _ _ _ => N9); (rename Fr _ _ _ _ => F9); refine bad_store (X.keeps F9.keep) (N9 _ (.head _)).1 ?_; intro h' tk' d' hg1 hk9; have F' := fr_but F9 (N9 _ (.head _)).2.2 (N9 _ (.head _)).2.1 hk9; have N' : News g L h' [(e, excO h₁.objs.size (some d')), (h₁.objs.size, tupV [.str x _]), (t, tupV [.str x _])] := List.forall_mem_cons.mpr ⟨⟨hg1, (N9 _ (.head _)).2⟩, List.forall_mem_cons.mpr ⟨⟨hk9 _ _ hte (N9 _ (.tail _ (.head _))).1, (N9 _ (.tail _ (.head _))).2⟩, List.forall_mem_singleton.mpr ⟨hk9 _ _ (Ne.symm ht) (N9 _ (.tail _ (.tail _ (.head _)))).1, (N9 _ (.tail _ (.tail _ (.head _)))).2⟩⟩⟩))))
  k_steps
  (refine' back_intro ?bF ?bL ?_; (case bF => k_asm); (case bL => first | exact List.forall_mem_nil _ | ((repeat (refine all_cons (by first | exact .inr (News.get (by with_reducible assumption) (by k_mem)) | exact .inl (by simp)) ?_)); exact List.forall_mem_nil _)); (exact ⟨rfl, d', h₁.objs.size, News.get (by k_asm) (.head _), Z.fresh (News.fresh (by k_asm) (.tail _ (.head _))) (nmem_cons hte (nmem_cons htt nmem_nil)), News.get (by k_asm) (.tail _ (.head _))⟩))
end
section
theorem on_F2 : True := by
  k_with_none
  k_with "om2" => (lia)
  trivial
/-! the exception made and raised -/
section
variable {prog : Program} {w : World} {A : Around} {E : Value → Shared → Prop} {h : Heap} {g : Array GenState} {d : Drawn} {t : Nat} {os : OsState}
variable {nm q : Str} {N : Addr} {bs : List Value} {hdct : Bool} {sn : List Str} {sub : List Value} {ab : Bool} {col : Option Bool} {dd : Option Addr} {k0 k1 k2 k3 k5 : Option Value}
theorem bad_check_new {M : Model} {rest : List Value} {Q : Unit → Shared → Prop} (hC : h.get? 63 = some (excClassObj nm q 63 N bs exP hdct sn sub ab col dd k0 k1 k2 k3 k5 "Exception.__new__"))
    (hq : Q () ⟨h, g, d, t, os⟩) : wpAny M A (checkBuiltinCall "Exception.__new__" ⟨.ref 63 :: rest, []⟩) Q E ⟨h, g, d, t, os⟩ := by
  have F := PySem.F.excBase_Exception
  have hcont : (Value.ref 63 :: exP).contains (.type "Exception") = true := by decide +kernel
  have hstar := F.noStar
  simp only [checkBuiltinCall, F.newKind, F.newSplit, F.newRow]
  repeat (first | refine wpAny_loadPart_at hC ?_ | (refine wpAny_isSubtype_exc hC ?_; rw [hcont]) | refine wpAny_staticBase_exc hC ?_ | refine wpAny_madeBy_exc hC ?_ | simp only [bne_self_eq_false, Bool.false_eq_true, if_false] | wp_step)
  exact hq
theorem bad_new {R : Result → Shared → Prop} {rest : List Value} (hC : h.get? 63 = some (excClassObj nm q 63 N bs exP hdct sn sub ab col dd k0 k1 k2 k3 k5 "Exception.__new__"))
    (hq : R (.ok (.ret (.ref (h.objs.size + 1)))) ⟨(h.push (tupV rest)).push (excO h.objs.size none), g, d, t, os⟩) (hrest : rest.length ≤ sizeLine) :
    codeAny (model prog w) A (.builtin "Exception.__new__" ⟨.ref 63 :: rest, []⟩) R ⟨h, g, d, t, os⟩ := by
  have F := PySem.F.excBase_Exception
  have hends := F.ends
  have hcB : (Value.ref 63 :: exP).contains (.type "Exception") = true := by decide +kernel
  have hcA : (Value.ref 63 :: exP).contains (.type "AttributeError") = false := by decide +kernel
  have hcN : (Value.ref 63 :: exP).contains (.type "NameError") = false := by decide +kernel
  refine codeAny_builtinAt F.entry ?_
  unfold Builtin.«BaseException.__new__»
  refine PySem.wpAt_bind ?_
  show PySem.wpAt _ _ _ (stack >>= _) _ _ _
  refine PySem.wpAt_bind (PySem.wpAt_stack fun p below => PySem.wpAt_of_wpAny ?_)
  wp_walk
  refine PySem.wpAt_of_wpAny ?_
  rw [F.owner]
  repeat (first | with_reducible refine wpAny_madeHere_exc F.canon hC ?_ | with_reducible refine wpAny_loadPart_at hC ?_ | (with_reducible refine wpAny_isSubtype_exc hC ?_; first | rw [hcB] | rw [hcA] | rw [hcN]) | wp_step)
  show R _ _
  rw [Heap.size_push]
  exact hq
end
theorem ns_some {K : Frag} {h : Heap} {N : Addr} {m : Str → Option Value} {n : Str} {v : Value} (X : K.In h) (G : h.Ns N m) (e : nsIn K N n = some (some v)) : m n = some v := by
  obtain ⟨o, es, ep, ho, hd, _, hf⟩ := G
  unfold nsIn at e
  split at e
  · rename_i q
    have hq := X _ _ q
    rw [ho] at hq
    cases hq
    cases hd
    split at e
    · rename_i en he
      cases e
      rw [← hf]
      unfold nsFind findBy
      rw [← Array.find?_toList, he]
      rfl
    · split at e <;> cases e
  · cases e
theorem bad_ns {w : World} {h : Heap} (X : (hd.heap_39 w.params).In h) : (∃ mN, h.Ns 62 mN ∧ mN (Str.ofString "__init__") = none) ∧ ∃ nm cd dd sl mP, h.get? 38 = some { cls := nm, dict := dd, data := .cls cd, slots := sl } ∧ h.Ns cd.ns mP ∧ mP (Str.ofString "__init__") = some (.ref 35) := by
  have h1 : nsOkIn (hd.heap_39 w.params) 62 = true := by kernel_rfl
  have h2 : nsIn (hd.heap_39 w.params) 62 (Str.ofString "__init__") = some none := by k_is
  have h3 : nsOkIn (hd.heap_39 w.params) 37 = true := by kernel_rfl
  have h4 : nsIn (hd.heap_39 w.params) 37 (Str.ofString "__init__") = some (some (.ref 35)) := by k_is
  have g1 := Heap.Ns.of_isNs (isNs_of_in X h1)
  have g3 := Heap.Ns.of_isNs (isNs_of_in X h3)
  exact ⟨⟨_, g1, ns_none_of X g1 h2⟩, _, _, _, _, _, X 38 _ (by k_is), g3, ns_some X g3 h4⟩
theorem bad_func {w : World} {h : Heap} (X : (hd.heap_39 w.params).In h) : ∃ o, h.get? 35 = some o ∧ o.cls = .type "function" := ⟨_, X 35 _ (by k_is), rfl⟩
theorem bad_elim {w : World} {h : Heap} (X : (hd.heap_39 w.params).In h) {C : Prop} (k : ∀ mN, h.Ns 62 mN → mN (Str.ofString "__init__") = none → ∀ nm cd dd sl mP, h.get? 38 = some { cls := nm, dict := dd, data := .cls cd, slots := sl } → h.Ns cd.ns mP → mP (Str.ofString "__init__") = some (.ref 35) → ∀ o, h.get? 35 = some o → o.cls = .type "function" → C) : C := by
  obtain ⟨⟨mN, hN, hN0⟩, nmP, cdP, ddP, slP, mP, hP, hNP, hP0⟩ := bad_ns X
  obtain ⟨oI, hfI, hfc⟩ := bad_func X
  exact k mN hN hN0 nmP cdP ddP slP mP hP hNP hP0 oI hfI hfc
section
variable {w : World} {x : Str} {tk : Tok} {dp un : Nat} {gd : Option (List Code)} {cn : Str} {cs : Scope} {a : Addr} {ccd : Value} {cl : List (Str × Addr)} {outer : List Env} {A₀ : Around} {base h₀ : Heap} {L : Addr} {m : Str → Option Value} {s : Shared}
    {mean : ExcName → Option Value} {mg mb : Str → Option Value} {Q E : Value → Shared → Prop}
structure BadMade (h h' : Heap) (x : Str) (tk : Tok) (e : Addr) : Prop where
  keeps : ∀ b o, h.get? b = some o → h'.get? b = some o
  new : h.get? e = none
  there : ∃ d t, h'.get? e = some (excO t (some d)) ∧ h.get? t = none ∧ h'.get? t = some (tupV [.str x tk])
theorem bad_call (B : Below A₀ base outer h₀) (F : Fr h₀ L s.heap m) (X : (hd.heap_39 w.params).In h₀) (T : Top hd.view_39 (looseW hd.view_39 []) mean mg mb h₀) (hk : cs.kind = .function)
    (hdp : dp + 8 < recursionLimit) (hun : un + 40 < cLine) (ret : ∀ h' e tk', BadMade s.heap h' x tk e → Q (.ref e) { s with heap := h', toks := tk' }) :
    wpAny (model PySem.Challenge.rw_nt0425_01.row.prog w) (ktrTop dp un gd cn cs L a ccd cl outer) (call (.ref 63) [.str x tk]) Q E s := by
  obtain ⟨h, g, d, t, os⟩ := s
  have XH : (hd.heap_39 w.params).In h := X.keeps F.keep
  refine ex13 (bad_cls XH) fun nm q bs sn sub' ab col dd k0 k1 k2 k3 k5 hC => ?_
  have FB := PySem.F.excBase_Exception
  have f1 := tc_lookup
  have f2 := tc_bind (.ref 63)
  have hT : (⟨h, g, d, t, os⟩ : Shared).TypeIs (.ref 63) "type" := ⟨_, hC, rfl⟩
  refine wpAny_call (codeAny_of_tree ?_)
  show wpAny _ _ (callAny (.ref 63) _) _ _ _
  repeat (any_goals (first | assumption | with_reducible refine wpAny_loadPart_at hC ?_ | wp_step))
  refine ⟨rfl, ?_⟩
  refine codeAny_call_builtin_at (Code.quiet_builtin _ (by decide +kernel)) entry_typeCall (wpAny_check_type_call_sub hC ?_)
  repeat (first | with_reducible refine wpAny_loadPart_at hC ?_ | with_reducible refine wpAny_madeBy_exc hC ?_ | wp_step)
  refine codeAny_call_builtin_code (Code.quiet_builtin _ FB.quiet) (bad_check_new hC ?_)
  refine bad_new hC ?_ (by rw [sizeLine_eq]; exact Nat.le_of_ble_eq_true rfl)
  show wpAny _ _ _ _ _ _
  have keep1 : ∀ b o, h.get? b = some o → ((h.push (tupV [.str x tk])).push (excO h.objs.size none)).get? b = some o := fun b o q => Heap.get?_push_of_some _ (Heap.get?_push_of_some _ q)
  have hC₁ := keep1 _ _ hC
  have hget : ((h.push (tupV [.str x tk])).push (excO h.objs.size none)).get? (h.objs.size + 1) = some (excO h.objs.size none) := by heap_get
  have hcC : (Value.ref 63 :: exP).contains (.ref 63) = true := by simp
  refine bad_elim (X.keeps fun b o q => keep1 b o (F.keep b o q)) fun mN hN hN0 nmP cdP ddP slP mP hP hNP hP0 oI hfI hfc => ?_
  unfold isInstance
  repeat (first | with_reducible refine wpAny_loadPart_at hget ?_ | wp_step)
  show wpAny _ _ (isSubtype (.ref 63) _) _ _ _
  refine wpAny_isSubtype_exc hC₁ ?_
  rw [hcC]
  repeat (first | with_reducible refine wpAny_loadPart_at hget ?_ | wp_step)
  show wpAny _ _ (typeLookup (.ref 63) _) _ _ _
  rw [typeLookup_eq]
  refine wpAny_bind (wpAny_mroOf_exc hC₁ ?_)
  rw [lookupAlong_cons]
  refine wpAny_bind (wpAny_classOwn_exc hC₁ hN ?_)
  rw [hN0]
  dsimp only
  rw [lookupAlong_cons]
  refine wpAny_bind (wpAny_classOwn_cls hP hNP ?_)
  rw [hP0]
  refine wpAny_pure ?_
  refine wpAny_holding (wpAny_bind ?_)
  unfold bindSpecial
  refine wpAny_bind (wpAny_typeOf (T := "function") ⟨_, hfI, hfc⟩ ?_)
  rw [if_pos (by decide)]
  refine wpAny_pure (wpAny_bind ?_)
  have C := exc_init_ok (w := w) (e := h.objs.size + 1) (t := h.objs.size) (x := x) (tk := tk) (Nat.succ_ne_self _)
  have F1 : Fr h₀ L ((h.push (tupV [.str x tk])).push (excO h.objs.size none)) m := (F.push _).push _
  have n1 := new_top F
  have n2 := new_top (F.push (tupV [.str x tk]))
  have N1 : News h₀ L ((h.push (tupV [.str x tk])).push (excO h.objs.size none)) [(h.objs.size + 1, excO h.objs.size none), (h.objs.size, tupV [.str x tk])] :=
    List.forall_mem_cons.mpr ⟨⟨hget, by rw [Heap.size_push] at n2; exact n2⟩, List.forall_mem_singleton.mpr ⟨by heap_get, n1⟩⟩
  refine con_use C (s := ⟨h, g, d, t, os⟩) B F1 X N1 T hk (fun p hp => hp) (fun _ h => nomatch h) ?hdp ?hun fun r h' tk' F' K p => ?_
  case hdp => (show dp + 1 + 3 < recursionLimit); omega
  case hun => first | ((show un + 0 + 12 < cLine); omega) | ((show un + 1 + 12 < cLine); omega) | ((show un + 2 + 12 < cLine); omega) | ((show un + 3 + 12 < cLine); omega) | ((show un + 4 + 12 < cLine); omega)
  obtain ⟨rfl, d', t', he', htn, ht'⟩ := p
  repeat (first | wp_step)
  refine ret h' (h.objs.size + 1) tk' ⟨fun b o q => K _ _ (keep1 b o q) fun z => ?_, Heap.get?_none_of_le (Nat.le_succ _), d', t', he', ?_, ht'⟩
  · have z := List.mem_singleton.mp z
    have q : h.get? b = some o := q
    exact absurd z (Nat.ne_of_lt (Nat.lt_succ_of_lt (Heap.lt_size q)))
  · cases q : h.get? t' with
    | none => rfl
    | some o => have z := keep1 _ _ q; rw [show ((h.push (tupV [.str x tk])).push (excO h.objs.size none)).get? t' = none from htn] at z; cases z
end
end
section
theorem on_F3 : True := by
  k_with_none
  k_with "om2" => (lia)
  trivial
/-! the exception raised and caught -/
def BadUp (E : Value → Shared → Prop) (v : Value) (s₁ : Shared) : Prop :=
  ∃ (e : Addr) (oe : Obj) (vs : Array Value) (nm q : Str) (N : Addr) (bs : List Value) (hdct : Bool) (sn : List Str) (sub : List Value) (ab : Bool) (col : Option Bool) (dd : Option Addr) (k0 k1 k2 k3 k5 : Option Value), v = .ref e ∧ s₁.heap.get? e = some oe ∧ oe.cls = .ref 63 ∧ oe.data = .fields vs ∧ vs[1]? = some .none ∧
    s₁.heap.get? 63 = some (excClassObj nm q 63 N bs exP hdct sn sub ab col dd k0 k1 k2 k3 k5 "Exception.__new__") ∧ E (.ref e) s₁
theorem raise_bad {M : Model} {A : Around} {E : Value → Shared → Prop} {s : Shared} {env : Env} {e : Expr} {pos : Pos} {Q : Flow → Shared → Prop} (hh : A.handled = none)
    (h : wpAny M A (eval e env) (BadUp E) E s) : wpAny M A (exec (.Raise (some e) none pos) env) Q E s := by
  have hcB : (Value.ref 63 :: exP).contains (.type "BaseException") = true := by decide +kernel
  show wpAny M A (do standAt pos; raiseStmt env (some (do let v ← eval e env; standAt pos; pure v)) none) Q E s
  refine wpAny_bind (wpAny_standAt ?_)
  unfold raiseStmt
  dsimp only
  refine wpAny_bind (wpAny_bind (wpAny_mono h (fun v s₁ h₁ => wpAny_bind (wpAny_standAt (wpAny_pure ?_))) fun _ _ x => x))
  refine ex18 h₁ fun e oe vs nm q N bs hdct sn sub ab col dd k0 k1 k2 k3 k5 hh₁ => an7 hh₁ fun e₁ he hc hd hv1 hC hE => ?_
  subst e₁
  obtain ⟨hp, g, d, tk, os⟩ := s₁
  obtain ⟨oc, od, odt, osl⟩ := oe
  dsimp only at hc hd
  subst hc hd
  have hnt : ∀ {Q' : Bool → Shared → Prop}, Q' false ⟨hp, g, d, tk, os⟩ → wpAny M A (isType (.ref e)) Q' E ⟨hp, g, d, tk, os⟩ := by
    intro Q' hq
    simp only [isType, loadHead]
    refine wpAny_bind (wpAny_loadPart he ?_)
    exact wpAny_pure hq
  refine wpAny_bind (wpAny_pure ?_)
  dsimp only
  refine wpAny_bind (wpAny_holding ?_)
  unfold excFromValue isExcClass
  refine wpAny_bind (wpAny_bind (hnt ?_))
  simp only [Bool.false_eq_true, if_false]
  refine wpAny_pure ?_
  simp only [Bool.false_eq_true, if_false]
  unfold isInstance
  repeat (first | with_reducible refine wpAny_loadPart_at he ?_ | with_reducible refine wpAny_loadPart_at hC ?_ | (with_reducible refine wpAny_isSubtype_exc hC ?_; rw [hcB]) | with_reducible refine wpAny_field he rfl hv1 ?_ | wp_step)
  exact wpAny_raiseNew_none hh hE
theorem bad_up {w : World} {h₀ h : Heap} {L : Addr} {m : Str → Option Value} {s' : Shared} {x : Str} {tk : Tok} {e : Addr} {E : Value → Shared → Prop} (X : (hd.heap_39 w.params).In h₀) (F : Fr h₀ L h m) (Y : BadMade h s'.heap x tk e) (hE : E (.ref e) s') : BadUp E (.ref e) s' := by
  refine ex13 (bad_cls X) fun nm q bs sn sub' ab col dd k0 k1 k2 k3 k5 hC => ?_
  obtain ⟨d, t, he, _⟩ := Y.there
  exact ⟨e, _, _, nm, q, _, bs, _, sn, sub', ab, col, dd, k0, k1, k2, k3, k5, rfl, he, rfl, rfl, rfl, Y.keeps _ _ (F.keep _ _ hC), hE⟩
section
variable {M : Model} {A : Around} {E : Value → Shared → Prop} {s' : Shared} {base g h : Heap} {outer : List Env} {L a e : Addr} {m : Str → Option Value} {name : Str} {scope : Scope} {cd : Value} {Q : Unit → Shared → Prop} {news : List (Addr × Obj)} {x : Str} {tk : Tok}
theorem leave_bad (K : Below A base outer g) (hx : BadMade h s'.heap x tk e) (F : Fr g L h m) (N : News g L h news)
    (hQ : ∀ h' t, RaisedS base g outer e (.ref 63) t [.str x tk] news h' → RaisedK base outer e (.ref 63) t [.str x tk] news h' → g.UpToSlots h' → Q () { s' with heap := h' }) (hk : scope.kind = .function := by rfl) :
    wpAny M (A.deeper (envOf name scope L a cd)) (leaving (envOf name scope L a cd) (.ref e)) Q E s' := by
  have K' := K.push (name := name) (a := a) (cd := cd) F hk
  have hin : ∀ env ∈ (envOf name scope L a cd :: outer), ∀ b, env.frame = some b → b ∈ (envOf name scope L a cd :: outer).filterMap (·.frame) := fun env he b hb => List.mem_filterMap.mpr ⟨env, he, hb⟩
  have st : base.StaysIn (hideAll h ((envOf name scope L a cd :: outer).filterMap (·.frame))) := fun b o q => hideAll_get _ (K'.stays b o q) fun hm => by
    rw [(K'.frames.mem hm).1] at q; cases q
  have sg : ∀ b o, g.get? b = some o → b ∉ outer.filterMap (·.frame) → (hideAll h ((envOf name scope L a cd :: outer).filterMap (·.frame))).get? b = some o := fun b o q nm => hideAll_get _ (F.keep b o q) fun hm => by
    rcases kts_mem hm with z | z
    · rw [z, kts_self F] at q; cases q
    · exact nm z
  have hl : ∀ q ∈ news, (hideAll h ((envOf name scope L a cd :: outer).filterMap (·.frame))).get? q.1 = some q.2 ∧ g.get? q.1 = none ∧ base.get? q.1 = none := fun q hq => by
    refine ⟨hideAll_get _ (N q hq).1 fun hm => ?_, (N q hq).2.2, fresh_of_stays K.stays (N q hq).2.2⟩
    rcases kts_mem hm with z | z
    · exact (N q hq).2.1 z
    · obtain ⟨o, ho, _⟩ := (K.frames.mem z).2
      rw [(N q hq).2.2] at ho; cases ho
  have fresh : ∀ b, h.get? b = none → (hideAll h ((envOf name scope L a cd :: outer).filterMap (·.frame))).get? b = none := fun b hb => by
    cases q : (hideAll h ((envOf name scope L a cd :: outer).filterMap (·.frame))).get? b with
    | none => rfl
    | some o => have z := of_hideAll _ q; rw [hb] at z; cases z
  obtain ⟨d, t, he, htn, ht⟩ := hx.there
  refine wpAny_leaving_firstW (a0 := .ref t) K'.stack ((funFrames_hide K'.frames hin).of_keeps fun b o hb _ => ⟨o, hx.keeps b o hb, rfl⟩) rfl he (fun b o hb => hx.keeps b o (of_hideAll _ hb)) (fresh e hx.new) rfl rfl rfl fun h' hL => ?_
  obtain ⟨k1, ⟨_, _, k2⟩, k3, k4⟩ := hL
  have R : RaisedS base g outer e (.ref 63) t [.str x tk] news h' := ⟨⟨_, st, sg, hl, ⟨k1, fresh e hx.new, k2, k3⟩, fresh t htn⟩, Heap.TupAt.of_slots ⟨_, _, ht, rfl, rfl⟩ k4⟩
  exact hQ h' t R R.toK (((Heap.UpToSlots.of_keeps F.keep).trans (Heap.UpToSlots.of_keeps hx.keeps)).trans k4)
end
local macro_rules | `(tactic| k_room) => `(tactic| ((try simp only [depth_mark, depth_under_make, depth_under_kw, depth_in1, depth_deeper, depth_caller]); first | omega | (show _ < recursionLimit; (try dsimp only [ktrTop]); omega)))
theorem is_refused_at {w : World} {low : Int} {t1 : Tok} {news : List (Addr × Obj)} {dp un : Nat} {gd : Option (List Code)} {cn : Str} {cs : Scope} {a : Addr} {ccd : Value} {A₀ : Around} {h₀ : Heap} {L : Addr} {m : Str → Option Value} {s : Shared}
    {mean : ExcName → Option Value} {mg mb : Str → Option Value} {Q E : Value → Shared → Prop} (B : Below A₀ h₀ [] h₀) (F : Fr h₀ L s.heap m) (X : (hd.heap_39 w.params).In h₀) (N : News h₀ L s.heap news) (T : Top hd.view_39 (looseW hd.view_39 []) mean mg mb h₀) (hk : cs.kind = .function)
    (hl : -10 ≤ low ∧ low ≤ 10) (hdp : dp + 20 < recursionLimit) (hun : un + 100 < cLine) (ret : ∀ h' tk', Fr h₀ L h' m → News h₀ L h' news → Q (.bool (decide (low < 1))) { s with heap := h', toks := tk' }) :
    wpAny (model PySem.Challenge.rw_nt0425_01.row.prog w) (ktrTop dp un gd cn cs L a ccd [] []) (call (.ref 389) [.int low t1]) Q E s := by
  refine wpAny_call ?_
  refine' code_defS0 ?k1 ?k2 ?k3 ?k4 ?k5 ?kA ?k6 ?k7 ?k8 ?k9 ?kB ?_ ?cK ?c2 ?c3 ?c4 ?c5
  case kA => exact rfl
  case k2 => exact F
  case k1 => exact B
  case k3 => exact X
  case k4 => exact N
  case k5 => exact T
  case k6 => k_is
  case k7 => k_is
  case k8 => (show dp < recursionLimit); omega
  case k9 => exact BindsTo.of_eq rfl
  case kB => exact locs rfl
  case cK => exact hk
  case c2 => exact rfl
  case c3 => exact rfl
  case c4 => exact rfl
  case c5 => decide
  k_whole
  intro g L' h₁ FG F' N' B' X' T' D'
  (try dsimp only)
  (try k_lift B')
  k_fold
  k_with_none
  k_with "storeName" => (k_dflt (k_here; refine' store2 ?F ?N ?_ ?a ?b; (case F => k_asm); (case N => k_asm); (case a => rfl); (case b => rfl); k_whole; intro h' tk' F' N'; refine (let m9 : Str → Option Value := _; (fun (F' : Fr _ _ _ m9) => ?_) F'); (try k_sweep)))
  k_with "eval Constant int" => (k_dflt (first | with_reducible refine const_int3 ?_ | refine const_int3 ?_))
  k_with "binaryOp Add int int" => (k_dflt (first | with_reducible refine add_int3 ?_ | refine add_int3 ?_))
  k_with "binaryOp Sub int int" => (k_dflt (first | with_reducible refine sub_int3 ?_ | refine sub_int3 ?_))
  k_with "unaryOp USub int" => (k_dflt (first | with_reducible refine neg_int3 ?_ | refine neg_int3 ?_))
  k_with "om2" => (lia)
  k_with "exec Raise some none" => (k_dflt (((refine raise_bad rfl ?_))))
  k_with "call ref" => (k_dflt ((((with_reducible show wpAny _ _ (call (Value.ref 63) _) _ _ _); (rename News _ _ _ _ => N9); (rename Fr _ _ _ _ => F9); (rename Below _ _ _ _ => B9); refine' bad_call B9 F9 ?rX ?rT rfl ?rdp ?run ?_; (case rX => k_asm); (case rT => k_asm); (case rdp => (show dp + 1 + 1 + 1 + 8 < recursionLimit); omega); (case run => first | ((show un + 0 + 40 < cLine); omega) | ((show un + 1 + 40 < cLine); omega) | ((show un + 2 + 40 < cLine); omega) | ((show un + 3 + 40 < cLine); omega) | ((show un + 4 + 40 < cLine); omega) | ((show un + 5 + 40 < cLine); omega) | ((show un + 6 + 40 < cLine); omega) | ((show un + 7 + 40 < cLine); omega)| ((show un + 8 + 40 < cLine); omega)| ((show un + 9 + 40 < cLine); omega)| ((show un + 10 + 40 < cLine); omega)); intro h' e' tk' Y'; refine' bad_up (h := _) ?sX ?sF Y' ?_; (case sX => k_asm); (case sF => exact F9); k_whole))))
  k_with "leaving ref" => (k_dflt ((((rename BadMade _ _ _ _ _ => Y9); refine' leave_bad ?lK Y9 ?lF ?lN ?_; (case lK => assumption); (case lF => assumption); (case lN => k_asm); k_whole; intro h' t' S' R' U'; (try dsimp only at S' R' U' ⊢); (try dsimp only [InitBack])))))
  k_steps
  all_goals (try dsimp only)
  all_goals (try k_whole)
  k_steps
  · (rename News _ _ _ _ => N8)
    rw [show true = decide (low < 1) from (decide_eq_true (by assumption)).symm]
    exact ret _ _ (by assumption) fun p hp => N8 p (by revert p; (intro p9 hp9; repeat (first | exact hp9 | exact List.mem_append_left _ hp9 | exact List.mem_append_right _ hp9 | refine List.mem_append_left _ ?_ | refine List.Mem.tail _ ?_)))
  · (rename News _ _ _ _ => N8)
    rw [show false = decide (low < 1) from (decide_eq_false (by assumption)).symm]
    exact ret _ _ (by assumption) fun p hp => N8 p (by revert p; (intro p9 hp9; repeat (first | exact hp9 | exact List.mem_append_left _ hp9 | exact List.mem_append_right _ hp9 | refine List.mem_append_left _ ?_ | refine List.Mem.tail _ ?_)))
end
section
theorem on_X0 : True := by
  k_with_none
  k_with "om2" => (lia)
  trivial
/-! a loop over a range whose name lies in a cell -/
section
variable {prog : Program} {w : World} {A : Around} {E : Value → Shared → Prop} {s : Shared} {env : Env} {h₀ : Heap} {body : List Stmt} {Q : Flow → Shared → Prop}
def LoopT (prog : Program) (w : World) (A : Around) (env : Env) (target : Expr) (body : List Stmt) (Q : Flow → Shared → Prop) (E : Value → Shared → Prop) (it : Value) (s₂ : Shared) : Prop :=
  codeAny (model prog w) A (.forLoop target it body [] env) (fun r s' => match r with | .ok f => Q f s' | .error e => cameBackBy (model prog w) A env E e s') s₂
theorem for_T {target iter : Expr} {pos : Pos} (h : wpAny (model prog w) A (eval iter env) (fun xv s₁ => wpAny (model prog w) A (pyIter xv) (fun it s₂ => LoopT prog w A env target body Q E it s₂) E s₁) E s) (hs : ∀ x, foldedSetIterable iter env x = pure x := by intro _; rfl) :
    wpAny (model prog w) A (exec (.For target iter body [] pos) env) Q E s := wpAny_For h hs
theorem range_T {target : Expr} {r : Addr} {a₀ b₀ : Int} {t₀ u₀ v₀ : Tok} {n : Nat} {m₀ : Str → Option Value} {news : List (Addr × Obj)} (adr : List Addr) (J : Nat → (Str → Option Value) → List (Addr × Obj) → Prop)
    (hh : A.handled = none) (hr : IsRange s.heap r a₀ b₀ 1 t₀ u₀ v₀) (hsmall : Builtin.Range.small a₀ b₀ 1 = true) (hn : Builtin.Range.rangeSize a₀ b₀ 1 = (n : Int)) (F : Fr h₀ env.locals s.heap m₀) (N : News h₀ env.locals s.heap news) (ha : ∀ a ∈ adr, (s.heap.get? a).isSome = true) (hj : J 0 m₀ news) (hno : ∀ i m n, J i m n → ∀ p ∈ n, itCls p.2 = false ∨ p.1 ∈ adr)
    (turn : ∀ (i : Nat) t m₁ news₁ h tk own, i < n → OwnOff own adr → J i m₁ news₁ → Fr h₀ env.locals h m₁ → News h₀ env.locals h (own ++ news₁) →
      wpAny (model prog w) A (assign target env (.int (a₀ + i) t)) (fun _ s₂ => wpAny (model prog w) A (execs body env) (EndJ h₀ env.locals own (J (i + 1)) { s with heap := h, toks := tk } Q) E s₂) E { s with heap := h, toks := tk })
    (done : ∀ m₁ news₁ h tk, J n m₁ news₁ → Fr h₀ env.locals h m₁ → News h₀ env.locals h news₁ → Q .next { s with heap := h, toks := tk })
    (ht : ∀ it v, letOwnedTupleGo target it v = pure () := by intro _ _; rfl) (hE : PassesOwn (model prog w) A env E := by passes_own) :
    wpAny (model prog w) A (pyIter (.ref r)) (fun it s₂ => LoopT prog w A env target body Q E it s₂) E s := by
  refine wpAny_pyIter_range hr hsmall ?_
  have W := Walks.range (prog := prog) (w := w) hh s.heap.objs.size a₀ 1 n
  have hIL : s.heap.objs.size ≠ env.locals := Nat.ne_of_gt F.ns.lt
  have hI0 : h₀.get? s.heap.objs.size = none := next_is_new F
  have hIa : ∀ b ∈ adr, s.heap.objs.size ≠ b := fun b hb e => by
    obtain ⟨o, ho⟩ := Option.isSome_iff_exists.mp (ha b hb)
    exact absurd (Heap.lt_size ho) (e ▸ Nat.lt_irrefl _)
  generalize hI : s.heap.objs.size = I at W hIL hI0 hIa ⊢
  refine codeAny_forLoop (fun k s' => ∃ h' tk m' news' i o, s' = { s with heap := h', toks := tk } ∧ IsRangeIter h' I (a₀ + (i : Nat) * 1) ((n : Int) - (i : Nat)) 1 ∧ h'.get? I = some o ∧ itCls o = true ∧ Fr h₀ env.locals h' m' ∧ News h₀ env.locals h' news' ∧ J i m' news' ∧ i ≤ n ∧ k = n + 1 - i) ?_ (n + 1) ?_ (ht _)
  · intro k s' z₀
    refine ex6 z₀ fun h' tk m' news' i o z₁ => an9 z₁ fun e₁ st ho hoc F' N' hJ hi e₂ => ?_
    subst e₁ e₂
    clear z₀ z₁
    have off : ∀ p ∈ news', p.1 ∉ [I] := fun p hp hm => by
      have q := (N' p hp).1
      rw [List.mem_singleton.mp hm, ho] at q
      rcases hno _ _ _ hJ p hp with z | z
      · rw [← Option.some.inj q, hoc] at z; cases z
      · exact hIa _ z (List.mem_singleton.mp hm).symm
    have next : ∀ h₁ : Heap, (∀ b o, b ∉ [I] → h'.get? b = some o → h₁.get? b = some o) → Fr h₀ env.locals h₁ m' ∧ News h₀ env.locals h₁ news' := fun h₁ hk₁ =>
      ⟨⟨F'.ns.at' fun o e => hk₁ _ o (fun z => hIL (List.mem_singleton.mp z).symm) e, fun b o e => hk₁ b o (fun z => by rw [List.mem_singleton.mp z, hI0] at e; cases e) (F'.keep b o e), F'.above⟩, fun p hp => ⟨hk₁ _ _ (off p hp) (N' p hp).1, (N' p hp).2⟩⟩
    by_cases hlt : i < n
    · refine W.item i _ _ _ hlt st fun v h₁ tk₁ hP st₁ hk₁ => ?_
      obtain ⟨t, rfl⟩ := hP
      obtain ⟨F₁, N₁⟩ := next h₁ hk₁
      obtain ⟨o₁, ho₁, hc₁⟩ : ∃ o₁, h₁.get? I = some o₁ ∧ itCls o₁ = true := ⟨_, st₁, rfl⟩
      have e1 : a₀ + (i : Int) * 1 = a₀ + (i : Int) := by omega
      rw [e1]
      have T := turn i t m' news' h₁ tk₁ [(I, o₁)] hlt (fun p hp b hb => by rw [List.mem_singleton.mp hp]; exact hIa b hb) hJ F₁ (fun p hp => (List.mem_cons.mp hp).elim (fun e => e ▸ ⟨ho₁, hIL, hI0⟩) fun q => N₁ p q)
      refine wpAny_passesOwn hE (wpAny_mono T (fun _ s₂ h₂ => wpAny_passesOwn hE (wpAny_mono h₂ (fun f s₃ p => ?_) fun _ _ e => e)) fun _ _ e => e)
      have up : (∃ h' tk' m' news', s₃ = { s with heap := h', toks := tk' } ∧ Fr h₀ env.locals h' m' ∧ News h₀ env.locals h' ([(I, o₁)] ++ news') ∧ J (i + 1) m' news') → ∃ m, m < n + 1 - i ∧ ∃ h' tk m' news' i o, s₃ = { s with heap := h', toks := tk } ∧ IsRangeIter h' I (a₀ + (i : Nat) * 1) ((n : Int) - (i : Nat)) 1 ∧ h'.get? I = some o ∧ itCls o = true ∧ Fr h₀ env.locals h' m' ∧ News h₀ env.locals h' news' ∧ J i m' news' ∧ i ≤ n ∧ m = n + 1 - i := by
        rintro ⟨h₃, tk₃, m₃, news₃, rfl, F₃, N₃, j⟩
        have g₃ := (N₃ _ (.head _)).1
        refine ⟨n + 1 - (i + 1), by omega, h₃, tk₃, m₃, news₃, i + 1, o₁, rfl, ?_, g₃, hc₁, F₃, fun p hp => N₃ p (.tail _ hp), j, hlt, rfl⟩
        exact W.frame _ _ _ st₁ fun b hb o e => by
          rw [List.mem_singleton.mp hb] at e ⊢
          rw [ho₁] at e; cases e; exact g₃
      cases f with
      | ret v => exact p
      | brk => exact p
      | next => exact up p
      | cont => exact up p
    · obtain rfl : i = n := by omega
      refine W.done _ _ _ st fun h₁ tk₁ hk₁ => wpAny_execs_nil ?_
      obtain ⟨F₁, N₁⟩ := next h₁ hk₁
      exact done m' news' h₁ tk₁ hJ F₁ N₁
  · subst hI
    exact ⟨_, _, m₀, news, 0, _, rfl, by rw [hn]; simpa using Heap.get?_push_size _ rfl, Heap.get?_push_size _ rfl, rfl, F.push _, fun p hp => ⟨Heap.get?_push_of_some _ (N p hp).1, (N p hp).2⟩, hj, Nat.zero_le _, rfl⟩
theorem range_TK {σ : Type} {target : Expr} {r : Addr} {a₀ b₀ : Int} {t₀ u₀ v₀ : Tok} {n : Nat} {m₀ : Str → Option Value} (adr : List Addr) (Led : σ → List (Addr × Obj)) (x : Str) (P : Nat → σ → Prop) (c₀ : σ)
    (hh : A.handled = none) (hr : IsRange s.heap r a₀ b₀ 1 t₀ u₀ v₀) (hsmall : Builtin.Range.small a₀ b₀ 1 = true) (hn : Builtin.Range.rangeSize a₀ b₀ 1 = (n : Int)) (F : Fr h₀ env.locals s.heap m₀) (N : News h₀ env.locals s.heap (Led c₀)) (ha : ∀ a ∈ adr, (s.heap.get? a).isSome = true) (hp : P 0 c₀)
    (hno : ∀ i c, P i c → ∀ p ∈ Led c, itCls p.2 = false ∨ p.1 ∈ adr)
    (turn : ∀ (i : Nat) t (c : σ) (u : Str → Option Value) h tk own, i < n → OwnOff own adr → P i c → Fr h₀ env.locals h (fun y => if y = x then u y else m₀ y) → News h₀ env.locals h (Led c ++ own) →
      wpAny (model prog w) A (assign target env (.int (a₀ + i) t)) (fun _ s₂ => wpAny (model prog w) A (execs body env) (EndJ h₀ env.locals own (KJ Led (fun _ => []) x [] m₀ P (i + 1)) { s with heap := h, toks := tk } Q) E s₂) E { s with heap := h, toks := tk })
    (done : ∀ (c : σ) (u : Str → Option Value) h tk, P n c → Fr h₀ env.locals h (fun y => if y = x then u y else m₀ y) → News h₀ env.locals h (Led c) → Q .next { s with heap := h, toks := tk })
    (ht : ∀ it v, letOwnedTupleGo target it v = pure () := by intro _ _; rfl) (hE : PassesOwn (model prog w) A env E := by passes_own) :
    wpAny (model prog w) A (pyIter (.ref r)) (fun it s₂ => LoopT prog w A env target body Q E it s₂) E s := by
  have out : ∀ {c : σ} {m : Str → Option Value} {h : Heap}, (∀ z, z ≠ x → (∀ p ∈ ((fun _ => []) c : List (Str × Value)), z ≠ p.1) → ([] : List Str).contains z = false → m z = m₀ z) → Fr h₀ env.locals h m → Fr h₀ env.locals h (fun y => if y = x then m y else m₀ y) := fun h2 F => by
    have e : (fun y => if y = x then _ else m₀ y) = _ := funext fun y => by
      by_cases hy : y = x
      · exact if_pos hy
      · exact (if_neg hy).trans (h2 y hy (fun _ h => nomatch h) rfl).symm
    rw [e]; exact F
  refine range_T adr (KJ Led (fun _ => []) x [] m₀ P) hh hr hsmall hn F N ha ⟨c₀, rfl, hp, (fun _ h => nomatch h), fun _ _ _ _ => rfl⟩ ?_ ?_ ?_ ht hE
  · rintro i m n ⟨c, rfl, h1, _⟩
    exact hno i c h1
  · rintro i t m₁ nx h tk own hi ho ⟨c, rfl, hp', _, h2⟩ F₁ N₁
    exact turn i t c m₁ h tk own hi ho hp' (out (c := c) h2 F₁) (own_last N₁)
  · rintro m₁ nx h tk ⟨c, rfl, hp', _, h2⟩ F₁ N₁
    exact done c m₁ h tk hp' (out (c := c) h2 F₁) N₁
theorem off_tail {imm own : List (Addr × Obj)} {adr : List Addr} {d : Nat} (hq : OwnOff imm adr) (ho : OwnOff own adr) (hm : (d : Addr) ∈ adr) : ∀ p ∈ imm ++ own, p.1 ≠ d := fun p hp => (List.mem_append.mp hp).elim (fun h => hq p h d hm) fun h => ho p h d hm
end

section
variable {prog : Program} {w : World} {A : Around} {E : Value → Shared → Prop} {s : Shared} {h₀ : Heap} {L : Addr} {m : Str → Option Value} {env : Env} {news : List (Addr × Obj)}
theorem fr_stays0 {g h h' : Heap} {L : Addr} {m : Str → Option Value} (F : Fr g L h m) (hk : ∀ b o, h.get? b = some o → h'.get? b = some o) : Fr g L h' m := by
  obtain ⟨oL, es, ep, hL, r⟩ := F.ns
  exact ⟨⟨oL, es, ep, hk _ _ hL, r⟩, fun b o e => hk b o (F.keep b o e), F.above⟩
theorem news_stays0 {g h h' : Heap} {L : Addr} {news : List (Addr × Obj)} (N : News g L h news) (hk : ∀ b o, h.get? b = some o → h'.get? b = some o) : News g L h' news := fun p hp => ⟨hk _ _ (N p hp).1, (N p hp).2⟩
theorem paired_len {α β : Type} {R : α → β → Prop} {xs : List α} {ys : List β} (h : Paired R xs ys) : xs.length = ys.length := by
  induction h with
  | nil => rfl
  | cons _ _ ih => simp [ih]
theorem paired_snd {α β : Type} {R : β → Prop} {xs : List α} {ys : List β} (h : Paired (fun _ y => R y) xs ys) : ∀ y ∈ ys, R y := by
  induction h with
  | nil => exact fun _ h => nomatch h
  | cons h1 _ ih => exact List.forall_mem_cons.mpr ⟨h1, ih⟩
/-- a comprehension over a range: what holds of each item -/
def CompR (P : Prop) : Prop := P
theorem CompR.intro {P : Prop} (h : P) : CompR P := h
theorem comp_range {elt iter : Expr} {x : Str} {px : Pos} {scope : Scope} {cl : List (Str × Addr)} {pos : Pos} {Q : Value → Shared → Prop} (R : Value → Prop)
    (hh : A.handled = none) (hclos : closureFor scope env = pure cl) (hcell : ∀ y ∈ scope.names, y.2 ≠ .cell) (hkind : scope.kind = .function)
    (hnames : ∀ y ∈ scope.names, y.2 = .local → scope.names.lookup y.1 = some .local) (hx : scope.names.lookup x = some .local)
    (h : wpAny (model prog w) A (eval iter env) (fun xv s₁ => CompR (∃ (news : List (Addr × Obj)) (r : Addr) (b₀ : Int) (t₀ u₀ v₀ : Tok) (n : Nat), xv = .ref r ∧ IsRange s₁.heap r 0 b₀ 1 t₀ u₀ v₀ ∧ Builtin.Range.small 0 b₀ 1 = true ∧ Builtin.Range.rangeSize 0 b₀ 1 = (n : Int) ∧ n ≤ sizeLine ∧ Fr h₀ L s₁.heap m ∧ News h₀ L s₁.heap news ∧
      (∀ C (k : Nat) t s₂ m₂ E', k < n → s₂.heap.Ns (compEnvC scope cl C env).locals m₂ → m₂ x = some (.int k t) → (∀ b o, s₁.heap.get? b = some o → s₂.heap.get? b = some o) →
        wpAny (model prog w) A (eval elt (compEnvC scope cl C env)) (fun y s₃ => R y ∧ Keeps s₂ s₃) E' s₂) ∧
      (∀ D (ys : List Value) kD h' tk, Fr h₀ L h' m → News h₀ L h' ((D, listOf ys.toArray kD) :: news) → s₁.heap.get? D = none → (∀ p ∈ news, p.1 ≠ D) → ys.length = n → (∀ y ∈ ys, R y) → Q (.ref D) { s₁ with heap := h', toks := tk }))) E s)
    (hs : ∀ x, foldedSetIterable iter env x = pure x) :
    wpAny (model prog w) A (eval (.ListComp elt [⟨.Name x px, iter, [], 0⟩] scope pos) env) Q E s := by
  refine wpAny_ListComp_free (fun _ => true) (fun _ y => R y) hclos hcell hkind hnames hx (wpAny_mono h (fun xv s₁ h₁ => ?_) fun _ _ e => e) hs
  refine ex7 h₁ fun news r b₀ t₀ u₀ v₀ n hh₁ => an9 hh₁ fun e₁ hr hsmall hn hsz F N helt hQ => ?_
  subst e₁
  have W := (Walks.range (prog := prog) (w := w) hh s₁.heap.objs.size 0 1 n).bound
  refine wpAny_pyIter_range hr hsmall ?_
  have push : ∀ b o, s₁.heap.get? b = some o → (s₁.heap.push { cls := .type "range_iterator", data := .fields #[rawInt 0, rawInt (Builtin.Range.rangeSize 0 b₀ 1), rawInt 1] }).get? b = some o := fun b o e => Heap.get?_push_of_some _ e
  have ne : ∀ b o, s₁.heap.get? b = some o → b ∉ [s₁.heap.objs.size] := fun b o e hm => by
    rw [List.mem_singleton.mp hm] at e; exact absurd (Heap.lt_size e) (Nat.lt_irrefl _)
  refine ei6 _ _ _ n _ _ ⟨rfl, W, hsz, by rw [hn]; simpa using Heap.get?_push_size _ rfl, fun b hb => ?_, ⟨fun C i v s₃ m₃ E' _ _ _ _ _ _ => wpAny_pure ⟨rfl, s₃.heap, s₃.toks, rfl, fun _ _ e => e⟩, fun C i v s₃ m₃ E' _ hP _ hn' hm hk _ => ?_⟩, fun D h' tk ys vs' hnew _ hpl hlen hP hF hk => ?_⟩
  · rw [List.mem_singleton.mp hb]
    show _ < (s₁.heap.push _).objs.size
    rw [Heap.size_push]; exact Nat.lt_succ_self _
  · obtain ⟨hi, t, rfl⟩ := hP
    have e1 : (0 : Int) + (i : Int) * 1 = (i : Int) := by omega
    rw [e1] at hm
    exact helt C i t s₃ m₃ E' hi hn' hm fun b o e => hk b o (ne b o e) (push b o e)
  · have keep : ∀ b o, s₁.heap.get? b = some o → h'.get? b = some o := fun b o e => hk b o (ne b o e) (push b o e)
    obtain ⟨kD, hD⟩ := hpl
    have hys : ys = ys.toList.toArray := by simp
    rw [hys] at hD
    have hD1 : s₁.heap.get? D = none := by
      cases e : s₁.heap.get? D with
      | none => rfl
      | some o => have z := push D o e; rw [show ((s₁.heap.push { cls := .type "range_iterator", data := .fields #[rawInt 0, rawInt (Builtin.Range.rangeSize 0 b₀ 1), rawInt 1] }).get? D) = none from hnew] at z; cases z
    have F' := fr_stays0 F keep
    rw [List.filter_eq_self.mpr fun _ _ => rfl] at hF
    have hl : ys.toList.length = n := by rw [← hlen]; exact (paired_len hF).symm
    refine hQ D ys.toList kD h' tk F' (fun p hp => ?_) hD1 (fun p hp e => ?_) hl (paired_snd hF)
    · rcases List.mem_cons.mp hp with rfl | hp
      · refine ⟨hD, fun z => ?_, ?_⟩
        · obtain ⟨oL, _, _, hL, _⟩ := F.ns
          rw [show (D : Addr) = L from z, hL] at hD1; cases hD1
        · cases q : h₀.get? D with
          | none => rfl
          | some o => rw [F.keep D o q] at hD1; cases hD1
      · exact ⟨keep _ _ (N p hp).1, (N p hp).2⟩
    · have z := (N p hp).1
      rw [e, hD1] at z; cases z
end
theorem val_join {M : Model} {A : Around} {E : Value → Shared → Prop} {s : Shared} {g : Heap} {L : Addr} {m : Str → Option Value} {news : List (Addr × Obj)} {t : Sem Value} {Q : Value → Shared → Prop} (_F : Fr g L s.heap m) (_N : News g L s.heap news) (R : Int → Prop)
    (h : wpAny M A t (fun v s₁ => ∃ n tk h' tk', v = .int n tk ∧ R n ∧ s₁ = { s with heap := h', toks := tk' } ∧ Fr g L h' m ∧ News g L h' news) E s) (k : ∀ n tk h' tk', R n → Fr g L h' m → News g L h' news → Q (.int n tk) { s with heap := h', toks := tk' }) : wpAny M A t Q E s :=
  wpAny_mono h (fun v s₁ z => by obtain ⟨n, tk, h', tk', e, r, es, f, nn⟩ := z; subst e es; exact k n tk h' tk' r f nn) fun _ _ x => x
theorem nameC_B {M : Model} {A : Around} {E : Value → Shared → Prop} {s : Shared} {K : Frag} {h₀ : Heap} {L a C : Addr} {m mg mb : Str → Option Value} {cn : Str} {cs scope : Scope} {ccd : Value} {cl cl' : List (Str × Addr)} {p : Program} {loose : List Str}
  {x : Str} {pos : Pos} {v : Value} {Q : Value → Shared → Prop} (F : Fr h₀ L s.heap m) (X : K.In h₀) (T : TopRead p loose mg mb h₀) (e : nsIn K mainGlobals x = some none) (hv : bootBuiltins x = some v) (hn : x ≠ "__name__") (h : Q v s)
    (hk : (compEnvC scope cl' C (envX cn cs L a ccd cl)).scope.kind = .function) (hx : (compEnvC scope cl' C (envX cn cs L a ccd cl)).kindOf x = some .globalImplicit) (hd : (x == ("__debug__" : Str)) = false) :
    wpAny M A (eval (.Name x pos) (compEnvC scope cl' C (envX cn cs L a ccd cl))) Q E s :=
  Name_function_global hk hx (loadGlobal_builtin (env := compEnvC scope cl' C (envX cn cs L a ccd cl)) (T.g.keeps F.keep) (mg_none_of X T.g e) (T.b.keeps F.keep) ((T.builtins x hn).trans hv) h) hd
end
section
theorem on_X2 : True := by
  k_with_none
  k_with "om2" => (lia)
  trivial
/-! _law_rows, plain -/
structure RI (size i : Nat) (T : Tre) (chv vav nov gav : List Value) (imm : List (Addr × Obj)) : Prop where
  lch : chv.length = i
  lno : nov.length = i
  lga : gav.length = i
  tch : T.ch.length = i
  tno : T.no.length = i
  tga : T.ga.length = i
  va : IntsAre vav T.va
  nva : T.va.length = i
  ch : ∀ j, j < i → ∃ nb vs k, chv[j]? = some (.ref nb) ∧ (nb, listOf (List.toArray vs) k) ∈ imm ∧ IntsAre vs (T.ch.getD j [])
  no : ∀ j, j < i → ∃ nb vs k, nov[j]? = some (.ref nb) ∧ (nb, listOf (List.toArray vs) k) ∈ imm ∧ BoolsAre vs (T.no.getD j [])
  ga : ∀ j, j < i → ∃ nb vs k, gav[j]? = some (.ref nb) ∧ (nb, listOf (List.toArray vs) k) ∈ imm ∧ IntsAre vs (T.ga.getD j [])
  lens : ∀ j, j < i → (T.no.getD j []).length = (T.ch.getD j []).length ∧ (T.ga.getD j []).length = (T.ch.getD j []).length ∧ (T.ch.getD j []).length ≤ 3
  kids : ∀ j, j < i → ∀ c ∈ T.ch.getD j [], 0 ≤ c ∧ c < size
  vals : ∀ v ∈ T.va, -20 ≤ v ∧ v ≤ 20
theorem RI.start {size : Nat} {imm : List (Addr × Obj)} : RI size 0 ⟨[], [], [], []⟩ [] [] [] [] imm :=
  ⟨rfl, rfl, rfl, rfl, rfl, rfl, .nil, rfl, fun _ h => absurd h (Nat.not_lt_zero _), fun _ h => absurd h (Nat.not_lt_zero _), fun _ h => absurd h (Nat.not_lt_zero _), fun _ h => absurd h (Nat.not_lt_zero _), fun _ h => absurd h (Nat.not_lt_zero _), fun _ h => nomatch h⟩
theorem app_at {α : Type} {l : List α} {x d : α} {j i : Nat} (hl : l.length = i) (hj : j < i + 1) : (l ++ [x]).getD j d = if j = i then x else l.getD j d := by
  rw [List.getD_eq_getElem?_getD, List.getElem?_append]
  by_cases h : j = i
  · rw [if_pos h, if_neg (by omega), hl, h, Nat.sub_self]; rfl
  · rw [if_neg h, if_pos (by omega), List.getD_eq_getElem?_getD]
theorem app_ge {α : Type} {l : List α} {x : α} {j i : Nat} (hl : l.length = i) (hj : j < i + 1) : (l ++ [x])[j]? = if j = i then some x else l[j]? := by
  rw [List.getElem?_append]
  by_cases h : j = i
  · rw [if_pos h, if_neg (by omega), hl, h, Nat.sub_self]; rfl
  · rw [if_neg h, if_pos (by omega)]
theorem RI.step {size i : Nat} {T : Tre} {chv vav nov gav : List Value} {imm imm' : List (Addr × Obj)} (R : RI size i T chv vav nov gav imm) (hs : ∀ p ∈ imm, p ∈ imm') {kids gains : List Int} {noisy : List Bool} {v : Int} {tv : Tok} {a1 a2 a3 : Addr} {v1 v2 v3 : List Value} {k1 k2 k3 : Nat}
    (m1 : (a1, listOf (List.toArray v1) k1) ∈ imm') (m2 : (a2, listOf (List.toArray v2) k2) ∈ imm') (m3 : (a3, listOf (List.toArray v3) k3) ∈ imm') (h1 : IntsAre v1 kids) (h2 : BoolsAre v2 noisy) (h3 : IntsAre v3 gains)
    (hl : noisy.length = kids.length ∧ gains.length = kids.length ∧ kids.length ≤ 3) (hk : ∀ c ∈ kids, 0 ≤ c ∧ c < size) (hv : -20 ≤ v ∧ v ≤ 20) :
    RI size (i + 1) ⟨T.ch ++ [kids], T.va ++ [v], T.no ++ [noisy], T.ga ++ [gains]⟩ (chv ++ [.ref a1]) (vav ++ [.int v tv]) (nov ++ [.ref a2]) (gav ++ [.ref a3]) imm' := by
  refine ⟨by simp [R.lch], by simp [R.lno], by simp [R.lga], by simp [R.tch], by simp [R.tno], by simp [R.tga], R.va.append (.cons v tv .nil), by simp [R.nva], fun j hj => ?_, fun j hj => ?_, fun j hj => ?_, fun j hj => ?_, fun j hj => ?_, fun x hx => ?_⟩
  · rw [app_ge R.lch hj, app_at R.tch hj]
    by_cases e : j = i
    · rw [if_pos e, if_pos e]; exact ⟨_, _, _, rfl, m1, h1⟩
    · rw [if_neg e, if_neg e]
      obtain ⟨nb, vs, k, x1, x2, x3⟩ := R.ch j (by omega)
      exact ⟨nb, vs, k, x1, hs _ x2, x3⟩
  · rw [app_ge R.lno hj, app_at R.tno hj]
    by_cases e : j = i
    · rw [if_pos e, if_pos e]; exact ⟨_, _, _, rfl, m2, h2⟩
    · rw [if_neg e, if_neg e]
      obtain ⟨nb, vs, k, x1, x2, x3⟩ := R.no j (by omega)
      exact ⟨nb, vs, k, x1, hs _ x2, x3⟩
  · rw [app_ge R.lga hj, app_at R.tga hj]
    by_cases e : j = i
    · rw [if_pos e, if_pos e]; exact ⟨_, _, _, rfl, m3, h3⟩
    · rw [if_neg e, if_neg e]
      obtain ⟨nb, vs, k, x1, x2, x3⟩ := R.ga j (by omega)
      exact ⟨nb, vs, k, x1, hs _ x2, x3⟩
  · rw [app_at R.tch hj, app_at R.tno hj, app_at R.tga hj]
    by_cases e : j = i
    · rw [if_pos e, if_pos e, if_pos e]; exact hl
    · rw [if_neg e, if_neg e, if_neg e]; exact R.lens j (by omega)
  · rw [app_at R.tch hj]
    by_cases e : j = i
    · rw [if_pos e]; exact hk
    · rw [if_neg e]; exact R.kids j (by omega)
  · rcases List.mem_append.mp hx with hx | hx
    · exact R.vals x hx
    · rw [List.mem_singleton.mp hx]; exact hv
set_option genInjectivity false
set_option genSizeOf false
structure RS where
  (oN oU oR : Obj)
  T : Tre
  (chv vav nov gav : List Value)
  (n1 n2 n3 n4 : Nat)
  imm : List (Addr × Obj)
set_option genInjectivity true
set_option genSizeOf true
theorem range_nat {n : Nat} (h : n ≤ 1000) : Builtin.Range.rangeSize 0 (n : Int) 1 = (n : Int) ∧ Builtin.Range.small 0 (n : Int) 1 = true := by
  have e : Builtin.Range.rangeSize 0 (n : Int) 1 = n := by
    unfold Builtin.Range.rangeSize
    split <;> simp_all <;> omega
  refine ⟨e, ?_⟩
  unfold Builtin.Range.small Builtin.Range.rangeFitsLong
  rw [e]
  simp
  omega
theorem size_is (ns : List Int) : 8 + (lawAt ns 0).fmod 6 = ((8 + (lawAt ns 0).fmod 6).toNat : Int) ∧ 8 ≤ (8 + (lawAt ns 0).fmod 6).toNat ∧ (8 + (lawAt ns 0).fmod 6).toNat ≤ 13 := by
  rw [Int.fmod_eq_emod_of_nonneg _ (by omega)]; omega
/-- what holds of an item, by the expression's head -/
def rOf (size : Nat) : Expr → Value → Prop
  | .Compare .. => fun y => ∃ b, y = .bool b
  | .BinOp _ .Add _ _ => fun y => ∃ c t, y = .int c t ∧ 0 ≤ c ∧ c < (size : Int)
  | _ => fun y => ∃ c t, y = .int c t
def CompRP (prog : Program) (w : World) (A : Around) (h₀ : Heap) (L : Addr) (m : Str → Option Value) (env : Env) (elt : Expr) (x : Str) (scope : Scope) (cl : List (Str × Addr)) (Q : Value → Shared → Prop) (size : Nat) (xv : Value) (s₁ : Shared) : Prop :=
  ∃ (news : List (Addr × Obj)) (r : Addr) (b₀ : Int) (t₀ u₀ v₀ : Tok) (n : Nat), xv = .ref r ∧ IsRange s₁.heap r 0 b₀ 1 t₀ u₀ v₀ ∧ Builtin.Range.small 0 b₀ 1 = true ∧ Builtin.Range.rangeSize 0 b₀ 1 = (n : Int) ∧ n ≤ sizeLine ∧ Fr h₀ L s₁.heap m ∧ News h₀ L s₁.heap news ∧
      (∀ C (k : Nat) t s₂ m₂ E', k < n → s₂.heap.Ns (compEnvC scope cl C env).locals m₂ → m₂ x = some (.int k t) → (∀ b o, s₁.heap.get? b = some o → s₂.heap.get? b = some o) →
        wpAny (model prog w) A (eval elt (compEnvC scope cl C env)) (fun y s₃ => rOf size elt y ∧ Keeps s₂ s₃) E' s₂) ∧
      (∀ D (ys : List Value) kD h' tk, Fr h₀ L h' m → News h₀ L h' ((D, listOf ys.toArray kD) :: news) → s₁.heap.get? D = none → (∀ p ∈ news, p.1 ≠ D) → ys.length = n → (∀ y ∈ ys, rOf size elt y) → Q (.ref D) { s₁ with heap := h', toks := tk })
theorem CompRP.intro {prog : Program} {w : World} {A : Around} {h₀ : Heap} {L : Addr} {m : Str → Option Value} {env : Env} {elt : Expr} {x : Str} {scope : Scope} {cl : List (Str × Addr)} {Q : Value → Shared → Prop} {size : Nat} {s : Shared} {h : Heap} {tk : Nat} {r : Addr} {b₀ : Int} {t₀ u₀ v₀ : Tok} {news : List (Addr × Obj)} (n : Nat) (hR : IsRange h r 0 b₀ 1 t₀ u₀ v₀) (h1 : Builtin.Range.small 0 b₀ 1 = true) (h2 : Builtin.Range.rangeSize 0 b₀ 1 = (n : Int)) (h3 : n ≤ sizeLine) (F : Fr h₀ L h m) (N : News h₀ L h news)
    (helt : ∀ C (k : Nat) t s₂ m₂ E', k < n → s₂.heap.Ns (compEnvC scope cl C env).locals m₂ → m₂ x = some (.int k t) → (∀ b o, h.get? b = some o → s₂.heap.get? b = some o) →
      wpAny (model prog w) A (eval elt (compEnvC scope cl C env)) (fun y s₃ => rOf size elt y ∧ Keeps s₂ s₃) E' s₂)
    (hQ : ∀ D (ys : List Value) kD h' tk', Fr h₀ L h' m → News h₀ L h' ((D, listOf ys.toArray kD) :: news) → h.get? D = none → (∀ p ∈ news, p.1 ≠ D) → ys.length = n → (∀ y ∈ ys, rOf size elt y) → Q (.ref D) { s with heap := h', toks := tk' }) :
    CompR (CompRP prog w A h₀ L m env elt x scope cl Q size (.ref r) { s with heap := h, toks := tk }) := ⟨news, r, b₀, t₀, u₀, v₀, n, rfl, hR, h1, h2, h3, F, N, helt, hQ⟩
theorem comp_rangeE {prog : Program} {w : World} {A : Around} {E : Value → Shared → Prop} {s : Shared} {h₀ : Heap} {L : Addr} {m : Str → Option Value} {env : Env} {elt iter : Expr} {x : Str} {px : Pos} {scope : Scope} {cl : List (Str × Addr)} {pos : Pos} {Q : Value → Shared → Prop} (size : Nat) (_F : Fr h₀ L s.heap m)
    (hh : A.handled = none) (hclos : closureFor scope env = pure cl) (hcell : ∀ y ∈ scope.names, y.2 ≠ .cell) (hkind : scope.kind = .function)
    (hnames : ∀ y ∈ scope.names, y.2 = .local → scope.names.lookup y.1 = some .local) (hx : scope.names.lookup x = some .local)
    (h : wpAny (model prog w) A (eval iter env) (fun xv s₁ => CompR (CompRP prog w A h₀ L m env elt x scope cl Q size xv s₁)) E s)
    (hs : ∀ x, foldedSetIterable iter env x = pure x) :
    wpAny (model prog w) A (eval (.ListComp elt [⟨.Name x px, iter, [], 0⟩] scope pos) env) Q E s := comp_range (rOf size elt) hh hclos hcell hkind hnames hx h hs
def rowsSize (ns : List Int) : Nat := (8 + (lawAt ns 0).fmod 6).toNat
def valB : Value → Bool
  | .bool b => b
  | _ => false
theorem ints_map : ∀ {ys : List Value}, (∀ y ∈ ys, ∃ c t, y = .int c t) → IntsAre ys (ys.map valI)
  | [], _ => .nil
  | y :: ys, h => by
    obtain ⟨c, t, rfl⟩ := h y (.head _)
    exact .cons c t (ints_map fun z hz => h z (.tail _ hz))
theorem bools_map : ∀ {ys : List Value}, (∀ y ∈ ys, ∃ b, y = .bool b) → BoolsAre ys (ys.map valB)
  | [], _ => .nil
  | y :: ys, h => by
    obtain ⟨b, rfl⟩ := h y (.head _)
    exact .cons (bools_map fun z hz => h z (.tail _ hz))
abbrev rowsAdr (Ch V No Ga cR cU cN Sc : Nat) : List Addr := [Ch, V, No, Ga, cR, cU, cN, Sc]
abbrev rowsLed (Ch V No Ga cR cU cN Sc : Nat) (oS : Obj) (c : RS) : List (Addr × Obj) := (Ch, listOf c.chv.toArray c.n1) :: (V, listOf c.vav.toArray c.n2) :: (No, listOf c.nov.toArray c.n3) :: (Ga, listOf c.gav.toArray c.n4) :: (cR, c.oN) :: (cU, c.oU) :: (cN, c.oR) :: (Sc, oS) :: c.imm
abbrev rowsP (size Ch V No Ga cR cU cN Sc : Nat) (i : Nat) (c : RS) : Prop := (∃ v, c.oN.data = .cell v) ∧ (∃ v, c.oU.data = .cell v) ∧ (∃ v, c.oR.data = .cell v) ∧ RI size i c.T c.chv c.vav c.nov c.gav c.imm ∧ NoIt c.imm ∧ OwnOff c.imm (rowsAdr Ch V No Ga cR cU cN Sc)
theorem off_cons {D : Nat} {o : Obj} {imm : List (Addr × Obj)} {Ch V No Ga cR cU cN Sc : Nat} (h : @Ne Nat D Ch ∧ @Ne Nat D V ∧ @Ne Nat D No ∧ @Ne Nat D Ga ∧ @Ne Nat D cR ∧ @Ne Nat D cU ∧ @Ne Nat D cN ∧ @Ne Nat D Sc) (t : OwnOff imm (rowsAdr Ch V No Ga cR cU cN Sc)) : OwnOff (((D : Addr), o) :: imm) (rowsAdr Ch V No Ga cR cU cN Sc) := fun p hp => by
  obtain ⟨h1, h2, h3, h4, h5, h6, h7, h8⟩ := h
  rcases List.mem_cons.mp hp with rfl | hp
  · exact List.forall_mem_cons.mpr ⟨h1, List.forall_mem_cons.mpr ⟨h2, List.forall_mem_cons.mpr ⟨h3, List.forall_mem_cons.mpr ⟨h4, List.forall_mem_cons.mpr ⟨h5, List.forall_mem_cons.mpr ⟨h6, List.forall_mem_cons.mpr ⟨h7, List.forall_mem_singleton.mpr h8⟩⟩⟩⟩⟩⟩⟩
  · exact t p hp
theorem rows_turn {size i Ch V No Ga cR cU cN Sc L : Nat} {oS oR oU oN : Obj} {c : RS} {g h' : Heap} {m' m₀ : Str → Option Value} {own : List (Addr × Obj)} {D1 D2 D3 : Nat} {ys1 ys2 ys3 : List Value} {k1 k2 k3 n1 n2 n3 n4 : Nat} {v cnt : Int} {tv : Tok} {vR vU vN : Option Value} {s₁ : Shared} {Q : Flow → Shared → Prop} {tk : Nat}
    (hRI : RI size i c.T c.chv c.vav c.nov c.gav c.imm) (hit : NoIt c.imm) (hoff : OwnOff c.imm (rowsAdr Ch V No Ga cR cU cN Sc)) (hcn : cnt ≤ 3) (F : Fr g L h' m')
    (N : News g L h' ((D3, listOf ys3.toArray k3) :: (D2, listOf ys2.toArray k2) :: (D1, listOf ys1.toArray k1) :: (Ch, listOf (c.chv ++ [Value.ref D1]).toArray n1) :: (V, listOf (c.vav ++ [Value.int v tv]).toArray n2) :: (No, listOf (c.nov ++ [Value.ref D2]).toArray n3) :: (Ga, listOf (c.gav ++ [Value.ref D3]).toArray n4) :: (cR, oR) :: (cU, oU) :: (cN, oN) :: (Sc, oS) :: (c.imm ++ own)))
    (dR : oR.data = .cell vR) (dU : oU.data = .cell vU) (dN : oN.data = .cell vN) (l1 : ys1.length = cnt.toNat) (r1 : ∀ y ∈ ys1, ∃ c t, y = .int c t ∧ 0 ≤ c ∧ c < (size : Int)) (l2 : ys2.length = cnt.toNat) (r2 : ∀ y ∈ ys2, ∃ b, y = .bool b) (l3 : ys3.length = cnt.toNat) (r3 : ∀ y ∈ ys3, ∃ c t, y = .int c t)
    (hv : -20 ≤ v ∧ v ≤ 20) (q1 : @Ne Nat D1 Ch ∧ @Ne Nat D1 V ∧ @Ne Nat D1 No ∧ @Ne Nat D1 Ga ∧ @Ne Nat D1 cR ∧ @Ne Nat D1 cU ∧ @Ne Nat D1 cN ∧ @Ne Nat D1 Sc) (q2 : @Ne Nat D2 Ch ∧ @Ne Nat D2 V ∧ @Ne Nat D2 No ∧ @Ne Nat D2 Ga ∧ @Ne Nat D2 cR ∧ @Ne Nat D2 cU ∧ @Ne Nat D2 cN ∧ @Ne Nat D2 Sc) (q3 : @Ne Nat D3 Ch ∧ @Ne Nat D3 V ∧ @Ne Nat D3 No ∧ @Ne Nat D3 Ga ∧ @Ne Nat D3 cR ∧ @Ne Nat D3 cU ∧ @Ne Nat D3 cN ∧ @Ne Nat D3 Sc)
    (hm : ∀ z, z ≠ Str.ofString "count" → m' z = m₀ z) :
    EndJ g L own (KJ (rowsLed Ch V No Ga cR cU cN Sc oS) (fun _ => []) (Str.ofString "count") [] m₀ (rowsP size Ch V No Ga cR cU cN Sc) (i + 1)) s₁ Q .next { s₁ with heap := h', toks := tk } := by
  refine endK (σ := RS) ⟨oR, oU, oN, ⟨c.T.ch ++ [ys1.map valI], c.T.va ++ [v], c.T.no ++ [ys2.map valB], c.T.ga ++ [ys3.map valI]⟩, c.chv ++ [Value.ref D1], c.vav ++ [Value.int v tv], c.nov ++ [Value.ref D2], c.gav ++ [Value.ref D3], n1, n2, n3, n4, (D3, listOf ys3.toArray k3) :: (D2, listOf ys2.toArray k2) :: (D1, listOf ys1.toArray k1) :: c.imm⟩ F N (fun p hp => ?_) (fun p hp => ?_)
    ⟨⟨_, dR⟩, ⟨_, dU⟩, ⟨_, dN⟩, hRI.step (fun p hp => .tail _ (.tail _ (.tail _ hp))) (.tail _ (.tail _ (.head _))) (.tail _ (.head _)) (.head _) (ints_map fun y hy => by obtain ⟨c, t, e, _⟩ := r1 y hy; exact ⟨c, t, e⟩) (bools_map r2) (ints_map r3) (by simp [l1, l2, l3]; omega) (fun x hx => ?_) hv, noIt_cons rfl (noIt_cons rfl (noIt_cons rfl hit)), off_cons q3 (off_cons q2 (off_cons q1 hoff))⟩ (fun _ h => nomatch h) (fun z h1 _ _ => hm z h1)
  · revert p; (intro p9 hp9; repeat (first | exact hp9 | exact List.mem_append_left _ hp9 | exact List.mem_append_right _ hp9 | refine List.mem_append_left _ ?_ | refine List.Mem.tail _ ?_))
  · simp only [List.mem_cons] at hp ⊢
    rw [List.mem_append]
    rcases hp with h | h | h | h | h | h | h | h | h | h | h | h <;> simp [h]
  · obtain ⟨y, hy, rfl⟩ := List.mem_map.mp hx
    obtain ⟨c, t, rfl, h⟩ := r1 y hy
    exact h
theorem my_appendF {prog : Program} {w : World} {A : Around} {E : Value → Shared → Prop} {s : Shared} {g : Heap} {L D : Addr} {m : Str → Option Value} {news : List (Addr × Obj)} {n : Nat} {vs : List Value} {v : Value} {Q : Value → Shared → Prop} {G : Obj → List (Addr × Obj)} (F : Fr g L s.heap m) (N : News g L s.heap news) (U : UpdF D (listOf vs.toArray n) news G) (hz : vs.length ≤ 1000)
    (h : ∀ h', Fr g L h' m → News g L h' (G (listOf (vs ++ [v]).toArray (n + 1))) → Q .none { s with heap := h' }) : wpAny (model prog w) A (call (.builtin "list.append") [.ref D, v]) Q E s := by
  obtain ⟨pre, post, rfl, hg, h1, h2⟩ := U.split
  refine my_append F N (List.mem_append_right _ (.head _)) hz fun h' F' K hD => h h' F' ?_
  rw [hg]
  intro p hp
  have off : ∀ q ∈ pre ++ (D, listOf vs.toArray n) :: post, q.1 ≠ D → News g L h' [q] := fun q hq hn r hr => by
    rw [List.mem_singleton.mp hr]; exact ⟨K _ _ (N q hq).1 fun z => hn (List.mem_singleton.mp z), (N q hq).2⟩
  rcases List.mem_append.mp hp with hp | hp
  · exact off p (List.mem_append_left _ hp) (h1 p hp) p (.head _)
  · rcases List.mem_cons.mp hp with rfl | hp
    · exact ⟨hD, (N (D, listOf vs.toArray n) (List.mem_append_right _ (.head _))).2⟩
    · exact off p (List.mem_append_right _ (.tail _ hp)) (h2 p hp) p (.head _)
theorem my_min {prog : Program} {w : World} {A : Around} {E : Value → Shared → Prop} {s : Shared} {a b : Int} {t u : Tok} {Q : Value → Shared → Prop} (hh : A.handled = none)
    (h : ∀ h' tk tt, (∀ c o, s.heap.get? c = some o → h'.get? c = some o) → Q (.int (if b < a then b else a) tt) { s with heap := h', toks := tk }) : wpAny (model prog w) A (call (.builtin "min") [.int a t, .int b u]) Q E s :=
  min_two_ints hh fun h' tk hk => by
    by_cases hc : b < a
    · rw [if_pos hc]; have z := h h' tk u hk; rwa [if_pos hc] at z
    · rw [if_neg hc]; have z := h h' tk t hk; rwa [if_neg hc] at z
theorem kid_in {i size : Nat} {x room : Int} (hr : room = (size : Int) - 1 - (0 + (i : Int))) (h : (i : Int) + 1 < size) : 0 ≤ 0 + (i : Int) + 1 + x.fmod (if 5 < room then 5 else room) ∧ 0 + (i : Int) + 1 + x.fmod (if 5 < room then 5 else room) < size := by
  have hM : 0 < (if 5 < room then (5 : Int) else room) ∧ (if 5 < room then (5 : Int) else room) ≤ room := by split <;> omega
  generalize (if 5 < room then (5 : Int) else room) = M at hM ⊢
  have h1 : 0 ≤ x.fmod M := by rw [Int.fmod_eq_emod_of_nonneg _ (by omega)]; exact Int.emod_nonneg _ (by omega)
  have h2 := Int.fmod_lt_of_pos x hM.1
  omega
theorem rows_back {g H h' : Heap} {L Ch V No Ga cR cU cN Sc Rw : Nat} {c : RS} {oS : Obj} (N : News g L h' (((Rw : Addr), tupO [.ref Ch, .ref V, .ref No, .ref Ga]) :: rowsLed Ch V No Ga cR cU cN Sc oS c)) (hf : ∀ b, g.get? b = none → b ≠ Sc → H.get? b = none) (hGa : OwnOff c.imm (rowsAdr Ch V No Ga cR cU cN Sc)) (hlt : AllLt Rw c.imm)
    (n1 : Ch ≠ Sc) (n2 : V ≠ Sc) (n3 : No ≠ Sc) (n4 : Ga ≠ Sc) (n5 : Rw ≠ Sc) :
    (∀ p ∈ (((Ch : Addr), listOf c.chv.toArray c.n1) :: ((V : Addr), listOf c.vav.toArray c.n2) :: ((No : Addr), listOf c.nov.toArray c.n3) :: ((Ga : Addr), listOf c.gav.toArray c.n4) :: ((Rw : Addr), tupO [.ref Ch, .ref V, .ref No, .ref Ga]) :: c.imm), h'.get? p.1 = some p.2 ∧ H.get? p.1 = none) ∧ ∀ p ∈ c.imm, p.1 ∉ [Ch, V, No, Ga, Rw] := by
  refine ⟨fun p hp => ?_, fun p hp hm => ?_⟩
  · have hm : p ∈ (((Rw : Addr), tupO [.ref Ch, .ref V, .ref No, .ref Ga]) :: rowsLed Ch V No Ga cR cU cN Sc oS c) := by
      simp only [List.mem_cons] at hp ⊢
      rcases hp with h | h | h | h | h | h <;> simp [h]
    have q := N p hm
    refine ⟨q.1, hf _ q.2.2 ?_⟩
    simp only [List.mem_cons] at hp
    rcases hp with rfl | rfl | rfl | rfl | rfl | h
    · exact n1
    · exact n2
    · exact n3
    · exact n4
    · exact n5
    · exact hGa p h Sc (by simp)
  · simp only [List.mem_cons, List.not_mem_nil, or_false] at hm
    rcases hm with h | h | h | h | h
    · exact hGa p hp Ch (by simp) h
    · exact hGa p hp V (by simp) h
    · exact hGa p hp No (by simp) h
    · exact hGa p hp Ga (by simp) h
    · exact Nat.ne_of_lt (of_allLt hlt p hp) h
end
section
theorem on_X1 : True := by
  k_with_none
  k_with "om0" => (first | with_reducible assumption | exact cj0 (by with_reducible assumption) | exact cj1 (by with_reducible assumption) | exact cj2 (by with_reducible assumption) | exact cj3 (by with_reducible assumption) | exact cj4 (by with_reducible assumption) | exact cj5 (by with_reducible assumption) | exact cj6 (by with_reducible assumption) | exact cj7 (by with_reducible assumption) | exact cj8 (by with_reducible assumption) | exact cj9 (by with_reducible assumption) | exact cj10 (by with_reducible assumption) | exact cj11 (by with_reducible assumption) | exact cj12 (by with_reducible assumption) | exact ce1 (by with_reducible assumption) | exact ce2 (by with_reducible assumption) | exact ce3 (by with_reducible assumption) | exact ce4 (by with_reducible assumption) | exact ce5 (by with_reducible assumption) | exact ce6 (by with_reducible assumption) | exact ce7 (by with_reducible assumption) | exact ce8 (by with_reducible assumption) | exact ce9 (by with_reducible assumption) | exact ce10 (by with_reducible assumption) | exact ce11 (by with_reducible assumption) | exact ce12 (by with_reducible assumption))
  k_with "om2" => (first | k_extra "om0" | ((with_reducible refine Nat.ne_of_lt ?_); k_extra "om0") | ((with_reducible refine Nat.ne_of_gt ?_); k_extra "om0") | ((with_reducible refine Ne.symm ?_); k_extra "om0") | ((with_reducible refine' Nat.lt_of_le_of_lt (Nat.add_le_add_left ?p9 _) ?q9); (case q9 => with_reducible assumption); (case p9 => decide)) | ((with_reducible refine' Nat.le_trans ?p9 ?q9); (case p9 => k_extra "om0"); (case q9 => decide)) | ((with_reducible refine' Nat.lt_of_le_of_lt ?p9 ?q9); (case p9 => k_extra "om0"); (case q9 => decide)) | ((with_reducible refine' Int.le_trans ?p9 ?q9); (case p9 => k_extra "om0"); (case q9 => decide)) | ((with_reducible refine' Int.le_trans ?p9 ?q9); (case q9 => k_extra "om0"); (case p9 => decide)) | ((with_reducible refine' Int.lt_of_le_of_lt ?p9 ?q9); (case p9 => k_extra "om0"); (case q9 => decide)) | ((with_reducible refine' Int.lt_of_lt_of_le ?p9 ?q9); (case q9 => k_extra "om0"); (case p9 => decide)) | ((with_reducible refine And.intro ?_ ?_) <;> omega) | lia)
  trivial
/-! _law_rows, walked -/
local macro_rules | `(tactic| k_all) => `(tactic| exact off_tail (adr := _) (by assumption) (by assumption) (by k_mem))
theorem rows_ok {w : World} {Sc n0 : Nat} {vs : List Value} {ns : List Int} (hv : IntsAre vs ns) (hl : ns.length ≤ 100) :
    Con w 351 [.ref Sc] [(Sc, listOf vs.toArray n0)] [] [] 6 30 (fun H r h' => ∃ (Ch V No Ga Rw : Nat) (c : RS), r = .ref Rw ∧ (Ch < V ∧ V < No ∧ No < Ga ∧ Ga < Rw) ∧ RI (rowsSize ns) (rowsSize ns) c.T c.chv c.vav c.nov c.gav c.imm ∧
      (∀ p ∈ (Ch, listOf c.chv.toArray c.n1) :: (V, listOf c.vav.toArray c.n2) :: (No, listOf c.nov.toArray c.n3) :: (Ga, listOf c.gav.toArray c.n4) :: (Rw, tupO [.ref Ch, .ref V, .ref No, .ref Ga]) :: c.imm, h'.get? p.1 = some p.2 ∧ H.get? p.1 = none) ∧
      NoIt c.imm ∧ ∀ p ∈ c.imm, p.1 ∉ [Ch, V, No, Ga, Rw]) := by
  refine' con_enterC [("script", .ref Sc)] ?ho ?hcd ?hb ?hkind ?hnd ?hdis ?_ ?c1 ?c2 ?c3
  case ho => k_is
  case hcd => k_is
  case hb => exact rfl
  case hkind =>
    intro n x hx
    simp only [List.mem_cons, List.not_mem_nil, or_false] at hx
    rcases hx with rfl <;> first | exact .inl rfl | exact .inr ⟨rfl, rfl⟩
  case hnd => decide
  case hdis => exact List.forall_mem_nil _
  case c1 => exact rfl
  case c2 => exact rfl
  case c3 => exact rfl
  k_whole
  intro dp un gd outer A₀ base g L h₁ H s mean mg mb tk cells B X T F N Y Tl Z hHc hD hU
  (try dsimp only)
  k_cells Y
  (try simp only [List.cons_append, List.nil_append] at N)
  rename_i oCR oCU oCN dR dU dN
  (try k_fold)
  k_with_none
  k_with "storeName" => (k_dflt (k_here; refine' store2 ?F ?N ?_ ?a ?b; (case F => k_asm); (case N => k_asm); (case a => rfl); (case b => rfl); k_whole; intro h' tk' F' N'; refine (let m9 : Str → Option Value := _; (fun (F' : Fr _ _ _ m9) => ?_) F'); (try k_sweep)))
  k_with "eval Constant int" => (k_dflt (first | with_reducible refine const_int3 ?_ | refine const_int3 ?_))
  k_with "binaryOp Add int int" => (k_dflt (first | with_reducible refine add_int3 ?_ | refine add_int3 ?_))
  k_with "binaryOp Sub int int" => (k_dflt (first | with_reducible refine sub_int3 ?_ | refine sub_int3 ?_))
  k_with "unaryOp USub int" => (k_dflt (first | with_reducible refine neg_int3 ?_ | refine neg_int3 ?_))
  k_with "om0" => (first | with_reducible assumption | exact cj0 (by with_reducible assumption) | exact cj1 (by with_reducible assumption) | exact cj2 (by with_reducible assumption) | exact cj3 (by with_reducible assumption) | exact cj4 (by with_reducible assumption) | exact cj5 (by with_reducible assumption) | exact cj6 (by with_reducible assumption) | exact cj7 (by with_reducible assumption) | exact cj8 (by with_reducible assumption) | exact cj9 (by with_reducible assumption) | exact cj10 (by with_reducible assumption) | exact cj11 (by with_reducible assumption) | exact cj12 (by with_reducible assumption) | exact ce1 (by with_reducible assumption) | exact ce2 (by with_reducible assumption) | exact ce3 (by with_reducible assumption) | exact ce4 (by with_reducible assumption) | exact ce5 (by with_reducible assumption) | exact ce6 (by with_reducible assumption) | exact ce7 (by with_reducible assumption) | exact ce8 (by with_reducible assumption) | exact ce9 (by with_reducible assumption) | exact ce10 (by with_reducible assumption) | exact ce11 (by with_reducible assumption) | exact ce12 (by with_reducible assumption))
  k_with "om2" => (first | k_extra "om0" | ((with_reducible refine Nat.ne_of_lt ?_); k_extra "om0") | ((with_reducible refine Nat.ne_of_gt ?_); k_extra "om0") | ((with_reducible refine Ne.symm ?_); k_extra "om0") | ((with_reducible refine' Nat.lt_of_le_of_lt (Nat.add_le_add_left ?p9 _) ?q9); (case q9 => with_reducible assumption); (case p9 => decide)) | ((with_reducible refine' Nat.le_trans ?p9 ?q9); (case p9 => k_extra "om0"); (case q9 => decide)) | ((with_reducible refine' Nat.lt_of_le_of_lt ?p9 ?q9); (case p9 => k_extra "om0"); (case q9 => decide)) | ((with_reducible refine' Int.le_trans ?p9 ?q9); (case p9 => k_extra "om0"); (case q9 => decide)) | ((with_reducible refine' Int.le_trans ?p9 ?q9); (case q9 => k_extra "om0"); (case p9 => decide)) | ((with_reducible refine' Int.lt_of_le_of_lt ?p9 ?q9); (case p9 => k_extra "om0"); (case q9 => decide)) | ((with_reducible refine' Int.lt_of_lt_of_le ?p9 ?q9); (case q9 => k_extra "om0"); (case p9 => decide)) | ((with_reducible refine And.intro ?_ ?_) <;> omega) | lia)
  k_with "newList" => (k_dflt ((refine' newList_K ?k1 ?k2 ?_; (case k1 => k_asm); (case k2 => k_asm); k_whole; (first | ((fail_if_success (have t9 := Ch)); intro Ch h' F' N' l1) | ((fail_if_success (have t9 := V)); intro V h' F' N' l1) | ((fail_if_success (have t9 := No)); intro No h' F' N' l1) | ((fail_if_success (have t9 := Ga)); intro Ga h' F' N' l1) | intro l' h' F' N' l1); (try k_lt l1); (try k_sweep))))
  k_with "call ref" => (k_dflt ((rename News _ _ _ _ => N9); (rename Fr _ _ _ _ => F9); (try k_fold); refine' con_use0 (law_at_ok hv hl ?x1) ?k1 ?k2 ?k3 ?k4 ?k5 ?kK ?ks ?kt ?kd ?ku ?_; (case k1 => k_asm); (case k2 => k_asm); (case k3 => k_asm); (case k4 => k_asm); (case k5 => k_asm); (case kK => exact rfl); (case ks => (first | (refine sub_of ?_; (repeat (first | refine List.Sublist.cons_cons _ ?_ | ((fail_if_success exact List.nil_sublist _); refine List.Sublist.cons _ ?_))); exact List.nil_sublist _) | ((repeat (refine all_cons (by k_mem) ?_)); exact List.forall_mem_nil _))); (case kt => first | exact List.forall_mem_nil _ | ((repeat (refine all_cons (by first | exact (News.get (by k_asm) (by k_mem)) | exact Fr.keep (by k_asm) _ _ (by assumption)) ?_)); exact List.forall_mem_nil _)); (case kd => omega); (case ku => omega); (case x1 => omega); k_whole; intro r9 h' tk' F' N' p9; obtain ⟨t9, rfl⟩ := p9; (try dsimp only); (try k_sweep)))
  k_with "exec For Name Call cons nil" => (k_dflt (((refine' for_T ?_ ?fhs; (case fhs => intro _; with_unfolding_all rfl); k_whole))))
  k_steps
  have hSc : Sc < L := Z.lt (Sc, listOf vs.toArray n0) (.head _)
  obtain ⟨hz1, hz2, hz3⟩ := size_is ns
  obtain ⟨hr1, hr2⟩ := range_nat (n := (8 + (lawAt ns 0).fmod 6).toNat) (by omega)
  (rename News _ _ _ _ => N9)
  (rename Fr _ _ _ _ => F9)
  (with_reducible rename IsRange _ _ _ _ _ _ _ _ => hR9)
  have hcells : (∃ v, oCR.data = .cell v) ∧ (∃ v, oCU.data = .cell v) ∧ (∃ v, oCN.data = .cell v) := ⟨⟨_, dR⟩, ⟨_, dU⟩, ⟨_, dN⟩⟩
  clear dR dU dN
  refine' range_TK (σ := RS) (rowsAdr Ch V No Ga (L + 1 + 1 + 1) (L + 1 + 1) (L + 1) Sc) (rowsLed Ch V No Ga (L + 1 + 1 + 1) (L + 1 + 1) (L + 1) Sc (listOf vs.toArray n0)) (Str.ofString "count") (rowsP (rowsSize ns) Ch V No Ga (L + 1 + 1 + 1) (L + 1 + 1) (L + 1) Sc) ⟨oCR, oCU, oCN, ⟨[], [], [], []⟩, [], [], [], [], 0, 0, 0, 0, []⟩ ?zhh hR9 ?zsm ?zn F9 ?zN ?zha ?zhj ?zhno ?zturn ?zdone ?zht ?zhE
  case zhh => exact rfl
  case zsm => (rw [hz1]; exact hr2)
  case zn => (rw [hz1]; exact hr1)
  case zN => exact fun p hp => N9 p (by revert p; (first | (refine sub_of ?_; (repeat (first | refine List.Sublist.cons_cons _ ?_ | ((fail_if_success exact List.nil_sublist _); refine List.Sublist.cons _ ?_))); exact List.nil_sublist _) | ((repeat (refine all_cons (by k_mem) ?_)); exact List.forall_mem_nil _)))
  case zha => exact (by (repeat (refine all_cons (live_of N9 (by k_mem)) ?_)); exact List.forall_mem_nil _)
  case zhj => exact ⟨hcells.1, hcells.2.1, hcells.2.2, RI.start, noIt_nil, fun _ h => nomatch h⟩
  case zhno =>
    intro i c hP p hp
    (repeat (rcases List.mem_cons.mp hp with rfl | hp; (first | exact .inr (by k_mem) | exact .inl rfl)))
    exact .inl (hP.2.2.2.2.1 p hp)
  case zht => intro _ _; with_unfolding_all rfl
  case zhE => passes_own
  case zdone =>
    clear F9 N9 hcells hR9
    intro c u h9 tk9 hP F' N'
    obtain ⟨⟨vN, hdN⟩, ⟨vU, hdU⟩, ⟨vR, hdR⟩, hRI, hit, hGa⟩ := hP
    (dsimp only at F' N' ⊢)
    refine (let m9 : Str → Option Value := _; (fun (F' : Fr _ _ _ m9) => ?_) F')
    k_steps
    (rename News _ _ _ _ => N8)
    obtain ⟨q1, q2⟩ := rows_back N8 (fun b hb hn => Z.fresh hb fun z => hn (List.mem_singleton.mp z)) hGa (by (rename _ ∧ _ => l9); exact l9.2.2.2.2.2.2.2.2) (by omega) (by omega) (by omega) (by omega) (by omega)
    (refine' back_intro ?bF ?bL ?_; (case bF => k_asm); (case bL => first | exact List.forall_mem_nil _ | ((repeat (refine all_cons (by first | exact .inr (News.get (by with_reducible assumption) (by k_mem)) | exact .inl (by simp)) ?_)); exact List.forall_mem_nil _)); (exact ⟨Ch, V, No, Ga, _, c, rfl, by omega, hRI, q1, hit, q2⟩))
  case' zturn =>
    clear F9 N9 hcells hR9
    intro i t c u h9 tk9 own hi ho hP F' N'
    (try dsimp only)
    k_fold
    obtain ⟨⟨vN, hdN⟩, ⟨vU, hdU⟩, ⟨vR, hdR⟩, hRI, hit, hGa⟩ := hP
    have hc1 := hRI.lch
    have hc2 := hRI.lno
    have hc3 := hRI.lga
    have hc4 := hRI.va.length
    have hc5 := hRI.nva
    (try dsimp only at F')
    (try dsimp only at N')
    simp only [List.cons_append, List.nil_append] at N'
    refine (let m9 : Str → Option Value := _; (fun (F' : Fr _ _ _ m9) => ?_) F')
  k_with "eval IfExp" => (k_dflt ((((rename News _ _ _ _ => N9); (rename Fr _ _ _ _ => F9); refine' val_join F9 N9 (fun n => 0 ≤ n ∧ n ≤ 3 ∧ (n ≠ 0 → (i : Int) + 1 < 8 + (lawAt ns 0).fmod 6)) (IfExp_ ?_) ?_; case' refine'_2 => (clear F9 N9; intro cnt tkc h' tk' hcn F' N'; obtain ⟨hcn1, hcn2, hcn3⟩ := hcn)))))
  k_with "eval ListComp" => (k_dflt ((((rename Fr _ _ _ _ => F9); refine' comp_rangeE (h₀ := g) (L := L) (rowsSize ns) F9 ?phh ?pclos ?pcell ?pkind ?pnames ?px ?_ ?ps; (case phh => exact rfl); (case pclos => with_unfolding_all rfl); (case pcell => decide); (case pkind => with_unfolding_all rfl); (case pnames => decide); (case px => with_unfolding_all rfl); (case ps => intro _; with_unfolding_all rfl); k_whole))))
  k_with "CompR" => (k_dflt ((((rename News _ _ _ _ => N9); (rename Fr _ _ _ _ => F9); (with_reducible rename IsRange _ _ _ _ _ _ _ _ => hR9); have hct : cnt = (cnt.toNat : Int) := (by omega); obtain ⟨hq1, hq2⟩ := range_nat (n := cnt.toNat) (by omega); refine' CompRP.intro cnt.toNat hR9 ?rsm ?rsz ?rln F9 N9 ?_ ?_; (case rsm => (rw [← hct] at hq2; exact hq2)); (case rsz => (rw [← hct] at hq1; exact hq1.trans hct)); (case rln => (rw [sizeLine_eq]; omega)); (case' refine'_1 => (intro C k tkk s₂ m₂ E' hk hns hmx hkeep; have F2 := fr_stays0 F9 hkeep; have N2 := news_stays0 N9 hkeep; have hk2 : (k : Int) < cnt := (by omega); clear F9 N9 hR9 hq1 hq2)); (case' refine'_2 => (intro D ys kD h' tk F' N' hDn hDne hyl hyR; have hDx : @Ne Nat D Ch ∧ @Ne Nat D V ∧ @Ne Nat D No ∧ @Ne Nat D Ga ∧ @Ne Nat D (L + 1 + 1 + 1) ∧ @Ne Nat D (L + 1 + 1) ∧ @Ne Nat D (L + 1) ∧ @Ne Nat D Sc := ⟨Ne.symm (hDne (Ch, _) (by k_mem)), Ne.symm (hDne (V, _) (by k_mem)), Ne.symm (hDne (No, _) (by k_mem)), Ne.symm (hDne (Ga, _) (by k_mem)), Ne.symm (hDne (L + 1 + 1 + 1, _) (by k_mem)), Ne.symm (hDne (L + 1 + 1, _) (by k_mem)), Ne.symm (hDne (L + 1, _) (by k_mem)), Ne.symm (hDne (Sc, _) (by k_mem))⟩; clear hDne; clear F9 N9 hR9 hq1 hq2))))))
  k_with "call builtin:list.append" => (k_dflt ((((rename News _ _ _ _ => N9); (rename Fr _ _ _ _ => F9); refine' my_appendF F9 N9 ?aU ?az ?_; (case aU => k_updF); (case az => omega); k_whole; intro h' F' N'; (try dsimp only at N'); (try k_sweep)))))
  k_with "call builtin:min" => (k_dflt ((((rename News _ _ _ _ => N9); (rename Fr _ _ _ _ => F9); refine my_min rfl ?_; intro h' tkm ttm hkm; have F' := fr_stays0 F9 hkm; have N' := news_stays0 N9 hkm; (try dsimp only)))))
  k_with "eval Name" => (k_dflt (((with_reducible show wpAny _ _ (eval (Expr.Name (Str.ofString "min") _) _) _ _ _); (rename Fr _ _ _ _ => F9); refine' nameC_B F9 ?nX ?nT ?ne ?nv ?nn ?_ ?nk ?nx ?nd; (case nX => k_asm); (case nT => k_asm); (case ne => k_is); (case nv => boot_by_name); (case nn => decide); (case nk => with_unfolding_all rfl); (case nx => with_unfolding_all rfl); (case nd => decide))))
  k_steps
  · refine rows_turn hRI hit hGa hcn2 (by k_asm) (by k_asm) (by assumption) (by assumption) (by assumption) (by assumption) (by assumption) (by assumption) (by assumption) (by assumption) (by assumption) ?_ (by assumption) (by assumption) (by assumption) (fun z h1 => by simp +zetaDelta [h1])
    rw [Int.fmod_eq_emod_of_nonneg _ (by omega)]; omega
  · exact ⟨_, _, rfl⟩
  · exact ⟨_, _, rfl, fun _ _ e => e⟩
  · exact ⟨_, rfl⟩
  · exact ⟨_, _, rfl, fun _ _ e => e⟩
  · exact ⟨_, _, rfl, kid_in (by unfold rowsSize; omega) (by unfold rowsSize; omega)⟩
  · exact ⟨_, _, rfl, hkm⟩
  all_goals k_asm
end
section
theorem on_X3 : True := by
  k_with_none
  k_with "om2" => (lia)
  trivial
/-! a comprehension whose items are new objects -/
section
variable {prog : Program} {w : World} {A : Around} {R : Result → Shared → Prop} {s : Shared}
def kmc_refs (ps : List (Addr × Obj)) : List Value := ps.map fun p => .ref p.1
def ObjsAt (h₁ h : Heap) (C D : Addr) (RO : Obj → Prop) (ps : List (Addr × Obj)) : Prop := ∀ p ∈ ps, h.get? p.1 = some p.2 ∧ h₁.get? p.1 = none ∧ RO p.2 ∧ p.1 ≠ C ∧ p.1 ≠ D
theorem ObjsAt.keep {h₁ h h' : Heap} {C D : Addr} {RO : Obj → Prop} {ps : List (Addr × Obj)} (x : ObjsAt h₁ h C D RO ps) (hk : ∀ b o, b ≠ C → b ≠ D → h.get? b = some o → h₁.get? b = none → h'.get? b = some o) : ObjsAt h₁ h' C D RO ps := fun p hp => by
  obtain ⟨a, b, c, d, e⟩ := x p hp
  exact ⟨hk _ _ d e a b, b, c, d, e⟩
theorem loop_obj {elt iter : Expr} {x : Str} {px : Pos} {scope : Scope} {pos : Pos} {I D : Addr} {n : Nat} {P : Nat → Value → Prop} {St : Nat → Heap → Prop}
    {cenv : Env} {m : Str → Option Value} (W : Walks prog w A I [I] [I] n P St) (RO : Obj → Prop) (hlive : ∀ i h, St i h → ∃ o, h.get? I = some o)
    (hx : cenv.kindOf x = some .local) (hp : (cenv.scope.kind == .class || (cenv.scope.kind == .module && cenv.locals != cenv.globals)) = false)
    (hDC : D ≠ cenv.locals) (hDI : D ≠ I) (hCI : cenv.locals ≠ I)
    (hst : St 0 s.heap) (hacc : s.heap.PlainList D #[]) (hn : s.heap.Ns cenv.locals m)
    (helt : ∀ i v s₂ m₂, P i v → s₂.heap.Ns cenv.locals m₂ → m₂ x = some v → (∀ b o, b ≠ cenv.locals → b ≠ I → b ≠ D → s.heap.get? b = some o → s₂.heap.get? b = some o) →
      wpAny (model prog w) A (eval elt cenv) (fun y s₃ => (∃ T o, y = .ref T ∧ s₂.heap.get? T = none ∧ s₃.heap.get? T = some o ∧ RO o) ∧ Keeps s₂ s₃) (notedBy (model prog w) A cenv fun e s' => R (.error e) s') s₂)
    (hR : ∀ h' tk m' (ps : List (Addr × Obj)), h'.Ns cenv.locals m' → h'.PlainList D (kmc_refs ps).toArray → ps.length = n → ObjsAt s.heap h' cenv.locals D RO ps → (ps.map Prod.fst).Nodup →
      (∀ b o, b ≠ cenv.locals → b ≠ I → b ≠ D → s.heap.get? b = some o → h'.get? b = some o) → R (.ok .next) { s with heap := h', toks := tk })
    (hsz : n ≤ sizeLine) :
    codeAny (model prog w) A (.compLoop (.ListComp elt [⟨.Name x px, iter, [], 0⟩] scope pos) 0 (.ref I) (.ref D) cenv) R s := by
  refine codeAny_compLoop_tests
    (fun k s' => ∃ h' tk m', ∃ ps : List (Addr × Obj), s' = { s with heap := h', toks := tk } ∧ St ps.length h' ∧ h'.PlainList D (kmc_refs ps).toArray ∧ h'.Ns cenv.locals m' ∧ ObjsAt s.heap h' cenv.locals D RO ps ∧ (ps.map Prod.fst).Nodup ∧ ps.length ≤ n ∧ k = n + 1 - ps.length ∧
      (∀ b o, b ≠ cenv.locals → b ≠ I → b ≠ D → s.heap.get? b = some o → h'.get? b = some o)) ?_ (n + 1)
    ⟨s.heap, s.toks, m, [], rfl, hst, hacc, hn, (fun _ h => nomatch h), .nil, Nat.zero_le _, rfl, fun _ _ _ _ _ e => e⟩
  intro k s' z₀
  refine ex4 z₀ fun H tk m' ps z₁ => an9 z₁ fun e₁ hst' hacc' hn' hO hnd hi e₂ hk => ?_
  subst e₁ e₂
  clear z₀ z₁
  have nI : ∀ {b : Addr}, b ≠ I → b ∉ [I] := fun h q => h (List.mem_singleton.mp q)
  have offI : ∀ {b : Addr}, s.heap.get? b = none → b ≠ I := fun h q => by
    obtain ⟨o, ho⟩ := hlive _ _ hst
    rw [q, ho] at h; cases h
  by_cases hlt : ps.length < n
  · refine W.item ps.length _ _ _ hlt hst' fun v h₁ tk₁ hPv hst₁ hk₁ => ?_
    refine wpAny_assign_Name (wpAny_storeName_local hx (hn'.at' fun o e => hk₁ _ o (nI hCI) e) (fun h₂ hn₂ hs₂ => ?_) hp)
    have up₂ : ∀ b o, b ≠ cenv.locals → b ≠ I → H.get? b = some o → h₂.get? b = some o := fun b o hbC hbf e => hs₂.extBut b o hbC (hk₁ b o (nI hbf) e)
    have hst₂ : St (ps.length + 1) h₂ := W.frame _ _ _ hst₁ fun b hb o e => hs₂.extBut b o (fun h => hCI (h ▸ List.mem_singleton.mp hb)) e
    refine wpAny_pure ?_
    simp only [if_true]
    refine wpAny_mono (helt ps.length v _ _ hPv hn₂ (by simp) (fun b o hbC hbf hbD e => up₂ b o hbC hbf (hk b o hbC hbf hbD e))) (fun y s₄ h₄ => ?_) fun _ _ e => e
    obtain ⟨⟨T, o, rfl, hTnew, hT, hRO⟩, h₄, tk₄, rfl, hk₄⟩ := h₄
    have hacc₂ : h₂.PlainList D (kmc_refs ps).toArray := hacc'.at fun o e => up₂ D o hDC hDI e
    have hTC : T ≠ cenv.locals := by obtain ⟨_, _, _, ho, _⟩ := hn₂; exact ne_of_none_some hTnew ho
    have hTD : T ≠ D := by obtain ⟨_, ho⟩ := hacc₂; exact ne_of_none_some hTnew ho
    have hI₂ : ∃ o, h₂.get? I = some o := hlive _ _ hst₂
    have hTI : T ≠ I := by obtain ⟨_, ho⟩ := hI₂; exact ne_of_none_some hTnew ho
    have hTs : s.heap.get? T = none := by
      cases e : s.heap.get? T with
      | none => rfl
      | some o => exact absurd rfl (ne_of_none_some hTnew (up₂ T o hTC hTI (hk T o hTC hTI hTD e)))
    have hTy : T ∉ ps.map Prod.fst := fun hm => by
      obtain ⟨p, hp, rfl⟩ := List.mem_map.mp hm
      obtain ⟨a, b, c, d, e⟩ := hO p hp
      exact absurd rfl (ne_of_none_some hTnew (up₂ _ _ d (offI b) a))
    have hO₄ : ObjsAt s.heap h₄ cenv.locals D RO ps := hO.keep fun b o hb _ e e' => hk₄ b o (up₂ b o hb (offI e') e)
    refine wpAny_list_append_plain (hsz := by simp [kmc_refs]; omega) (hacc₂.at fun o e => hk₄ _ o e) fun h₅ hl₅ hs₅ => ?_
    refine ⟨n + 1 - (ps.length + 1), by omega, h₅, tk₄, _, ps ++ [(T, o)], rfl, ?_, ?_, (hn₂.keeps hk₄).sameBut hs₅ (Ne.symm hDC), ?_, ?_, (by rw [List.length_append, List.length_singleton]; exact hlt), (by rw [List.length_append, List.length_singleton]),
        fun b o hbC hbf hbD e => hs₅.extBut b o hbD (hk₄ b o (up₂ b o hbC hbf (hk b o hbC hbf hbD e)))⟩
    · have := W.frame _ _ h₅ hst₂ fun b hb o e => hs₅.extBut b o (fun h => hDI (h ▸ List.mem_singleton.mp hb)) (hk₄ b o e)
      rwa [List.length_append, List.length_singleton]
    · simpa [kmc_refs] using hl₅
    · intro p hp
      rcases List.mem_append.mp hp with hp | hp
      · obtain ⟨a, b, c, d, e⟩ := hO₄ p hp
        exact ⟨hs₅.extBut _ _ e a, b, c, d, e⟩
      · rw [List.mem_singleton.mp hp]
        exact ⟨hs₅.extBut _ _ hTD hT, hTs, hRO, hTC, hTD⟩
    · rw [List.map_append, List.map_singleton]
      exact List.nodup_append.mpr ⟨hnd, List.nodup_cons.mpr ⟨fun h => (nomatch h), List.nodup_nil⟩, fun a ha b hb e => hTy (by rw [List.mem_singleton.mp hb] at e; rw [← show a = T from e]; exact ha)⟩
  · have hin : ps.length = n := by omega
    refine W.done _ _ _ (hin ▸ hst') fun h₁ tk₁ hk₁ => ?_
    exact hR h₁ tk₁ m' ps (hn'.at' fun o e => hk₁ _ o (nI hCI) e) (hacc'.at fun o e => hk₁ _ o (nI hDI) e) hin (hO.keep fun b o _ _ e e' => hk₁ b o (nI (offI e')) e) hnd fun b o hbC hbf hbD e => hk₁ b o (nI hbf) (hk b o hbC hbf hbD e)
end

section
variable {prog : Program} {w : World} {A : Around} {E : Value → Shared → Prop} {s : Shared} {h₀ : Heap} {L : Addr} {m : Str → Option Value} {env : Env}
theorem block_obj {elt iter : Expr} {x : Str} {px : Pos} {scope : Scope} {cl : List (Str × Addr)} {pos : Pos} {s₂ : Shared} {I : Addr} {n : Nat} {P : Nat → Value → Prop} {St : Nat → Heap → Prop} (W : Walks prog w A I [I] [I] n P St) (hsz : n ≤ sizeLine) (RO : Obj → Prop) {RR : Value → Addr → Result → Shared → Prop}
    (hlive : ∀ i h, St i h → ∃ o, h.get? I = some o) (hcell : ∀ y ∈ scope.names, y.2 ≠ .cell) (hkind : scope.kind = .function) (hx : scope.names.lookup x = some .local) (hst : St 0 s₂.heap)
    (helt : ∀ C i v s₃ m₃ E', s₂.heap.objs.size ≤ C → P i v → s₃.heap.Ns C m₃ → m₃ x = some v → (∀ b o, b ≠ I → s₂.heap.get? b = some o → s₃.heap.get? b = some o) →
      wpAny (model prog w) A (eval elt (compEnvC scope cl C env)) (fun y s₄ => (∃ T o, y = .ref T ∧ s₃.heap.get? T = none ∧ s₄.heap.get? T = some o ∧ RO o) ∧ Keeps s₃ s₄) E' s₃)
    (hRR : ∀ D C h' tk m' (ps : List (Addr × Obj)), s₂.heap.objs.size ≤ D → s₂.heap.get? D = none → s₂.heap.get? C = none → D ≠ C → h'.Ns C m' → h'.PlainList D (kmc_refs ps).toArray → ps.length = n → ObjsAt s₂.heap h' C D RO ps → (ps.map Prod.fst).Nodup →
      (∀ b o, b ≠ I → s₂.heap.get? b = some o → h'.get? b = some o) → RR (.ref D) C (.ok .next) { s₂ with heap := h', toks := tk }) :
    wpAny (model prog w) A (newList []) (fun acc s₃ => wpAny (model prog w) A (newFunctionEnv scope env.globals cl [] env.qual none .none (some env)) (fun cenv s₄ =>
      codeAny (model prog w) A (.compStart (.ListComp elt [⟨.Name x px, iter, [], 0⟩] scope pos) 0 (.ref I) acc { cenv with scope := relabel scope env }) (RR acc cenv.locals) s₄) E s₃) E s₂ := by
  refine wpAny_newObj_type (wpAny_newFunctionEnv hcell (by intro y hy; simp at hy) (fun h₁ hns₁ hsb₁ => ?_) hkind)
  dsimp only at hns₁ hsb₁ ⊢
  generalize hH2 : s₂.heap.push { cls := .type "list", dict := none, data := .seq ([] : List Value).toArray } = H2 at hns₁ hsb₁ ⊢
  have hC : H2.objs.size = s₂.heap.objs.size + 1 := by rw [← hH2, Heap.size_push]
  have hDC : s₂.heap.objs.size ≠ H2.objs.size := by rw [hC]; exact Nat.ne_of_lt (Nat.lt_succ_self _)
  have hCle : s₂.heap.objs.size ≤ H2.objs.size := by rw [hC]; exact Nat.le_succ _
  have below : ∀ b, b < s₂.heap.objs.size → b ≠ H2.objs.size ∧ b ≠ s₂.heap.objs.size := fun b hb => ⟨by rw [hC]; exact Nat.ne_of_lt (Nat.lt_succ_of_lt hb), Nat.ne_of_lt hb⟩
  have hIlt : I < s₂.heap.objs.size := by obtain ⟨o, ho⟩ := hlive _ _ hst; exact Heap.lt_size ho
  have old : ∀ b o, s₂.heap.get? b = some o → h₁.get? b = some o := fun b o e => hsb₁.extBut b o (below b (Heap.lt_size e)).1 (Heap.get?_push_of_some _ (hH2 ▸ Heap.get?_push_of_some _ e))
  have hacc : h₁.PlainList s₂.heap.objs.size #[] := ⟨_, hsb₁.extBut _ _ hDC (Heap.get?_push_of_some _ (hH2 ▸ Heap.get?_push_size _ rfl))⟩
  have hst₁ : St 0 h₁ := W.frame _ _ _ hst fun b _ o e => old b o e
  have fresh : ∀ a, s₂.heap.objs.size ≤ a → s₂.heap.get? a = none := fun a ha => by
    cases e : s₂.heap.get? a with
    | none => rfl
    | some o' => exact absurd (Heap.lt_size e) (Nat.not_lt.mpr ha)
  have older : ∀ T, h₁.get? T = none → s₂.heap.get? T = none := fun T hT => by
    cases e : s₂.heap.get? T with
    | none => rfl
    | some o' => rw [old T o' e] at hT; cases hT
  have loop : ∀ s₃ : Shared, s₃ = { s₂ with heap := h₁, toks := s₂.toks + ([] : List (Str × Value)).length } →
      codeAny (model prog w) A (.compLoop (.ListComp elt [⟨.Name x px, iter, [], 0⟩] scope pos) 0 (.ref I) (.ref s₂.heap.objs.size) (compEnvC scope cl H2.objs.size env))
        (RR (.ref s₂.heap.objs.size) H2.objs.size) s₃ := by
    rintro s₃ rfl
    refine loop_obj (hsz := hsz) (cenv := compEnvC scope cl H2.objs.size env) W RO hlive (lookup_relabel_local hx) (by simp [compEnvC, relabel, hkind]) hDC (Ne.symm (below I hIlt).2) (Ne.symm (below I hIlt).1) hst₁ hacc hns₁
      (fun i v s₃ m₃ hv hn hm hk => helt _ i v s₃ m₃ _ hCle hv hn hm (fun b o hbf e => hk b o (below b (Heap.lt_size e)).1 hbf (below b (Heap.lt_size e)).2 (old b o e))) fun h' tk m' ps hn hpl hlen hO hnd hk => ?_
    exact hRR _ _ h' tk m' ps (Nat.le_refl _) (fresh _ (Nat.le_refl _)) (fresh _ (by rw [hC]; exact Nat.le_succ _)) hDC hn hpl hlen
      (fun p hp => by obtain ⟨a, b, c⟩ := hO p hp; exact ⟨a, older _ b, c⟩) hnd fun b o hbf e =>
      hk b o (below b (Heap.lt_size e)).1 hbf (below b (Heap.lt_size e)).2 (old b o e)
  exact codeAny_compStart_list (loop _ rfl) (W.self 0 _ _ _ hst₁ (loop _ rfl))
/-- a comprehension over a range whose items are new objects -/
theorem comp_obj {elt iter : Expr} {x : Str} {px : Pos} {scope : Scope} {cl : List (Str × Addr)} {pos : Pos} {Q : Value → Shared → Prop} (RO : Obj → Prop)
    (hh : A.handled = none) (hclos : closureFor scope env = pure cl) (hcell : ∀ y ∈ scope.names, y.2 ≠ .cell) (hkind : scope.kind = .function)
    (hnames : ∀ y ∈ scope.names, y.2 = .local → scope.names.lookup y.1 = some .local) (hx : scope.names.lookup x = some .local)
    (h : wpAny (model prog w) A (eval iter env) (fun xv s₁ => CompR (∃ (news : List (Addr × Obj)) (r : Addr) (b₀ : Int) (t₀ u₀ v₀ : Tok) (n : Nat), xv = .ref r ∧ IsRange s₁.heap r 0 b₀ 1 t₀ u₀ v₀ ∧ Builtin.Range.small 0 b₀ 1 = true ∧ Builtin.Range.rangeSize 0 b₀ 1 = (n : Int) ∧ n ≤ sizeLine ∧ Fr h₀ L s₁.heap m ∧ News h₀ L s₁.heap news ∧
      (∀ C (k : Nat) t s₂ m₂ E', k < n → s₂.heap.Ns (compEnvC scope cl C env).locals m₂ → m₂ x = some (.int k t) → (∀ b o, s₁.heap.get? b = some o → s₂.heap.get? b = some o) →
        wpAny (model prog w) A (eval elt (compEnvC scope cl C env)) (fun y s₃ => (∃ T o, y = .ref T ∧ s₂.heap.get? T = none ∧ s₃.heap.get? T = some o ∧ RO o) ∧ Keeps s₂ s₃) E' s₂) ∧
      (∀ D (ps : List (Addr × Obj)) kD h' tk, Fr h₀ L h' m → News h₀ L h' ((D, listOf (kmc_refs ps).toArray kD) :: (ps ++ news)) → ((((D, listOf (kmc_refs ps).toArray kD) :: ps).map Prod.fst).Nodup ∧ ∀ q ∈ news, q.1 ∉ ps.map Prod.fst) → (∀ q ∈ news, q.1 < D) → ps.length = n → (∀ p ∈ ps, RO p.2) → Q (.ref D) { s₁ with heap := h', toks := tk }))) E s)
    (hs : ∀ x, foldedSetIterable iter env x = pure x) :
    wpAny (model prog w) A (eval (.ListComp elt [⟨.Name x px, iter, [], 0⟩] scope pos) env) Q E s := by
  rw [eval_ListComp]
  refine wpAny_comprehension_free (use := none) rfl hs hclos hkind hnames (wpAny_mono h (fun xv s₁ h₁ => ?_) fun _ _ e => e)
  refine ex7 h₁ fun news r b₀ t₀ u₀ v₀ n hh₁ => an9 hh₁ fun e₁ hr hsmall hn hsz F N helt hQ => ?_
  subst e₁
  have W := (Walks.range (prog := prog) (w := w) hh s₁.heap.objs.size 0 1 n).bound
  refine wpAny_pyIter_range hr hsmall ?_
  have push : ∀ b o, s₁.heap.get? b = some o → (s₁.heap.push { cls := .type "range_iterator", data := .fields #[rawInt 0, rawInt (Builtin.Range.rangeSize 0 b₀ 1), rawInt 1] }).get? b = some o := fun b o e => Heap.get?_push_of_some _ e
  have ne : ∀ b o, s₁.heap.get? b = some o → b ≠ s₁.heap.objs.size := fun b o e hm => by
    rw [hm] at e; exact absurd (Heap.lt_size e) (Nat.lt_irrefl _)
  have old : ∀ b, (s₁.heap.push { cls := .type "range_iterator", data := .fields #[rawInt 0, rawInt (Builtin.Range.rangeSize 0 b₀ 1), rawInt 1] }).get? b = none → s₁.heap.get? b = none := fun b hb => by
    cases e : s₁.heap.get? b with
    | none => rfl
    | some o => rw [push b o e] at hb; cases hb
  refine block_obj (n := n) (RR := fun acc C => compPost (model prog w) A E none Q acc C) W hsz RO (fun i h st => ⟨_, st⟩) hcell hkind hx (by rw [hn]; simpa using Heap.get?_push_size _ rfl) (fun C i v s₃ m₃ E' _ hP hn' hm hk => ?_) fun D C h' tk m' ps hDs hD hC hDC hnC hpl hlen hO hnd hk => ?_
  · obtain ⟨hi, t, rfl⟩ := hP
    have e1 : (0 : Int) + (i : Int) * 1 = (i : Int) := by omega
    rw [e1] at hm
    exact helt C i t s₃ m₃ E' hi hn' hm fun b o e => hk b o (ne b o e) (push b o e)
  · refine ⟨m', hnC, fun h'' hs'' => ?_⟩
    have keep : ∀ b o, s₁.heap.get? b = some o → h''.get? b = some o := fun b o e => hs''.extBut b o (fun z => by rw [z] at e; rw [old C hC] at e; cases e) (hk b o (ne b o e) (push b o e))
    obtain ⟨kD, hDo⟩ := hpl
    have hDo : h''.get? D = some (listOf (kmc_refs ps).toArray kD) := hs''.extBut D _ hDC hDo
    have hO' : ∀ p ∈ ps, h''.get? p.1 = some p.2 ∧ s₁.heap.get? p.1 = none := fun p hp => by
      obtain ⟨a, b, c, d, e⟩ := hO p hp
      exact ⟨hs''.extBut _ _ d a, old _ b⟩
    have fr : ∀ p ∈ (D, listOf (kmc_refs ps).toArray kD) :: ps, h''.get? p.1 = some p.2 ∧ s₁.heap.get? p.1 = none := fun p hp => by
      rcases List.mem_cons.mp hp with rfl | hp
      · exact ⟨hDo, old _ hD⟩
      · exact hO' p hp
    have off : ∀ p ∈ (D, listOf (kmc_refs ps).toArray kD) :: ps, p.1 ≠ L ∧ h₀.get? p.1 = none := fun p hp => by
      have z := (fr p hp).2
      refine ⟨fun e => ?_, ?_⟩
      · obtain ⟨oL, _, _, hL, _⟩ := F.ns
        rw [e, hL] at z; cases z
      · cases q : h₀.get? p.1 with
        | none => rfl
        | some o => rw [F.keep _ o q] at z; cases z
    refine hQ D ps kD h'' tk (fr_stays0 F keep) (fun p hp => ?_) ⟨?_, fun q hq hm => ?_⟩ (fun q hq => Nat.lt_of_lt_of_le (Heap.lt_size (N q hq).1) (Nat.le_trans (by show _ ≤ (s₁.heap.push _).objs.size; rw [Heap.size_push]; exact Nat.le_succ _) hDs)) hlen fun p hp => (hO p hp).2.2.1
    · rw [← List.cons_append] at hp
      rcases List.mem_append.mp hp with hp | hp
      · exact ⟨(fr p hp).1, off p hp⟩
      · exact ⟨keep _ _ (N p hp).1, (N p hp).2⟩
    · rw [List.map_cons]
      exact List.nodup_cons.mpr ⟨fun hm => by obtain ⟨p, hp, e⟩ := List.mem_map.mp hm; exact (hO p hp).2.2.2.2 e, hnd⟩
    · obtain ⟨p, hp, e⟩ := List.mem_map.mp hm
      have z := (hO' p hp).2
      rw [e, (N q hq).1] at z; cases z
end
/-- an item that is a new list of two noughts -/
def RO0 (o : Obj) : Prop := ∃ vs k, o = listOf (List.toArray vs) k ∧ IntsAre vs [0, 0]
def CompOP (prog : Program) (w : World) (A : Around) (h₀ : Heap) (L : Addr) (m : Str → Option Value) (env : Env) (elt : Expr) (x : Str) (scope : Scope) (cl : List (Str × Addr)) (Q : Value → Shared → Prop) (xv : Value) (s₁ : Shared) : Prop :=
  ∃ (news : List (Addr × Obj)) (r : Addr) (b₀ : Int) (t₀ u₀ v₀ : Tok) (n : Nat), xv = .ref r ∧ IsRange s₁.heap r 0 b₀ 1 t₀ u₀ v₀ ∧ Builtin.Range.small 0 b₀ 1 = true ∧ Builtin.Range.rangeSize 0 b₀ 1 = (n : Int) ∧ n ≤ sizeLine ∧ Fr h₀ L s₁.heap m ∧ News h₀ L s₁.heap news ∧
      (∀ C (k : Nat) t s₂ m₂ E', k < n → s₂.heap.Ns (compEnvC scope cl C env).locals m₂ → m₂ x = some (.int k t) → (∀ b o, s₁.heap.get? b = some o → s₂.heap.get? b = some o) →
        wpAny (model prog w) A (eval elt (compEnvC scope cl C env)) (fun y s₃ => (∃ T o, y = .ref T ∧ s₂.heap.get? T = none ∧ s₃.heap.get? T = some o ∧ RO0 o) ∧ Keeps s₂ s₃) E' s₂) ∧
      (∀ (D : Nat) (ps : List (Addr × Obj)) kD h' tk, Fr h₀ L h' m → News h₀ L h' ((D, listOf (kmc_refs ps).toArray kD) :: (news ++ ps)) → ((((D, listOf (kmc_refs ps).toArray kD) :: ps).map Prod.fst).Nodup ∧ ∀ q ∈ news, q.1 ∉ ps.map Prod.fst) → (∀ q ∈ news, q.1 < D) → ps.length = n → (∀ p ∈ ps, RO0 p.2) → Q (.ref D) { s₁ with heap := h', toks := tk })
theorem CompOP.intro {prog : Program} {w : World} {A : Around} {h₀ : Heap} {L : Addr} {m : Str → Option Value} {env : Env} {elt : Expr} {x : Str} {scope : Scope} {cl : List (Str × Addr)} {Q : Value → Shared → Prop} {s : Shared} {h : Heap} {tk : Nat} {r : Addr} {b₀ : Int} {t₀ u₀ v₀ : Tok} {news : List (Addr × Obj)} (n : Nat) (hR : IsRange h r 0 b₀ 1 t₀ u₀ v₀) (h1 : Builtin.Range.small 0 b₀ 1 = true) (h2 : Builtin.Range.rangeSize 0 b₀ 1 = (n : Int)) (h3 : n ≤ sizeLine) (F : Fr h₀ L h m) (N : News h₀ L h news)
    (helt : ∀ C (k : Nat) t s₂ m₂ E', k < n → s₂.heap.Ns (compEnvC scope cl C env).locals m₂ → m₂ x = some (.int k t) → (∀ b o, h.get? b = some o → s₂.heap.get? b = some o) →
      wpAny (model prog w) A (eval elt (compEnvC scope cl C env)) (fun y s₃ => (∃ T o, y = .ref T ∧ s₂.heap.get? T = none ∧ s₃.heap.get? T = some o ∧ RO0 o) ∧ Keeps s₂ s₃) E' s₂)
    (hQ : ∀ (D : Nat) (ps : List (Addr × Obj)) kD h' tk', Fr h₀ L h' m → News h₀ L h' ((D, listOf (kmc_refs ps).toArray kD) :: (news ++ ps)) → ((((D, listOf (kmc_refs ps).toArray kD) :: ps).map Prod.fst).Nodup ∧ ∀ q ∈ news, q.1 ∉ ps.map Prod.fst) → (∀ q ∈ news, q.1 < D) → ps.length = n → (∀ p ∈ ps, RO0 p.2) → Q (.ref D) { s with heap := h', toks := tk' }) :
    CompR (CompOP prog w A h₀ L m env elt x scope cl Q (.ref r) { s with heap := h, toks := tk }) := ⟨news, r, b₀, t₀, u₀, v₀, n, rfl, hR, h1, h2, h3, F, N, helt, hQ⟩
theorem comp_objE {prog : Program} {w : World} {A : Around} {E : Value → Shared → Prop} {s : Shared} {h₀ : Heap} {L : Addr} {m : Str → Option Value} {env : Env} {elt iter : Expr} {x : Str} {px : Pos} {scope : Scope} {cl : List (Str × Addr)} {pos : Pos} {Q : Value → Shared → Prop} (_F : Fr h₀ L s.heap m)
    (hh : A.handled = none) (hclos : closureFor scope env = pure cl) (hcell : ∀ y ∈ scope.names, y.2 ≠ .cell) (hkind : scope.kind = .function)
    (hnames : ∀ y ∈ scope.names, y.2 = .local → scope.names.lookup y.1 = some .local) (hx : scope.names.lookup x = some .local)
    (h : wpAny (model prog w) A (eval iter env) (fun xv s₁ => CompR (CompOP prog w A h₀ L m env elt x scope cl Q xv s₁)) E s)
    (hs : ∀ x, foldedSetIterable iter env x = pure x) :
    wpAny (model prog w) A (eval (.ListComp elt [⟨.Name x px, iter, [], 0⟩] scope pos) env) Q E s :=
  comp_obj (h₀ := h₀) (L := L) (m := m) RO0 hh hclos hcell hkind hnames hx (wpAny_mono h (fun xv s₁ h₁ => by
    refine ex7 h₁ fun news r b₀ t₀ u₀ v₀ n hh₁ => an9 hh₁ fun e1 hr hsmall hn hsz F N helt hQ => ?_
    exact ⟨news, r, b₀, t₀, u₀, v₀, n, e1, hr, hsmall, hn, hsz, F, N, helt, fun D ps kD h' tk F' N' => hQ D ps kD h' tk F' fun p hp => N' p (by
      rcases List.mem_cons.mp hp with rfl | hp
      · exact .head _
      · exact .tail _ (List.mem_append.mpr (List.mem_append.mp hp).symm))⟩) fun _ _ e => e) hs
/-- a stop of the walk -/
structure Stop (P : Prop) : Prop where
  out : P
theorem get_next {h : Heap} : h.get? h.objs.size = none := by
  cases e : h.get? h.objs.size with
  | none => rfl
  | some o => exact absurd (Heap.lt_size e) (Nat.lt_irrefl _)
theorem list_newE {M : Model} {A : Around} {E : Value → Shared → Prop} {s : Shared} {env : Env} {elts : List Expr} {pos : Pos}
    (h : wpAny M A (spliced (backTo pos (starEach elts env))) (fun vs s₁ => IntsAre vs [0, 0] ∧ Keeps s s₁) E s) :
    wpAny M A (eval (.List elts pos) env) (fun y s₃ => (∃ T o, y = .ref T ∧ s.heap.get? T = none ∧ s₃.heap.get? T = some o ∧ RO0 o) ∧ Keeps s s₃) E s :=
  wpAny_List (wpAny_mono h (fun vs s₁ z => by
    obtain ⟨hi, h₁, tk₁, rfl, hk⟩ := z
    refine ⟨by rw [hi.length, sizeLine_eq]; decide, ⟨_, _, rfl, ?_, Heap.get?_push_size _ rfl, _, 0, rfl, hi⟩, _, _, rfl, fun b o e => Heap.get?_push_of_some _ (hk b o e)⟩
    cases e : s.heap.get? h₁.objs.size with
    | none => rfl
    | some o => exact absurd (Heap.lt_size (hk _ _ e)) (Nat.lt_irrefl _)) fun _ _ x => x)
theorem news_swap {g h : Heap} {L : Addr} {l r : List (Addr × Obj)} (N : News g L h (l ++ r)) : News g L h (r ++ l) := fun p hp => N p (List.mem_append.mpr (List.mem_append.mp hp).symm)
end
section
theorem on_X4 : True := by
  k_with_none
  k_with "om0" => (first | with_reducible assumption | exact cj0 (by with_reducible assumption) | exact cj1 (by with_reducible assumption) | exact cj2 (by with_reducible assumption) | exact cj3 (by with_reducible assumption) | exact cj4 (by with_reducible assumption) | exact cj5 (by with_reducible assumption) | exact cj6 (by with_reducible assumption) | exact cj7 (by with_reducible assumption) | exact cj8 (by with_reducible assumption) | exact cj9 (by with_reducible assumption) | exact cj10 (by with_reducible assumption) | exact cj11 (by with_reducible assumption) | exact cj12 (by with_reducible assumption) | exact ce1 (by with_reducible assumption) | exact ce2 (by with_reducible assumption) | exact ce3 (by with_reducible assumption) | exact ce4 (by with_reducible assumption) | exact ce5 (by with_reducible assumption) | exact ce6 (by with_reducible assumption) | exact ce7 (by with_reducible assumption) | exact ce8 (by with_reducible assumption) | exact ce9 (by with_reducible assumption) | exact ce10 (by with_reducible assumption) | exact ce11 (by with_reducible assumption) | exact ce12 (by with_reducible assumption))
  k_with "om2" => (first | k_extra "om0" | ((with_reducible refine Nat.ne_of_lt ?_); k_extra "om0") | ((with_reducible refine Nat.ne_of_gt ?_); k_extra "om0") | ((with_reducible refine Ne.symm ?_); k_extra "om0") | ((with_reducible refine' Nat.lt_of_le_of_lt (Nat.add_le_add_left ?p9 _) ?q9); (case q9 => with_reducible assumption); (case p9 => decide)) | ((with_reducible refine' Nat.le_trans ?p9 ?q9); (case p9 => k_extra "om0"); (case q9 => decide)) | ((with_reducible refine' Nat.lt_of_le_of_lt ?p9 ?q9); (case p9 => k_extra "om0"); (case q9 => decide)) | ((with_reducible refine' Int.le_trans ?p9 ?q9); (case p9 => k_extra "om0"); (case q9 => decide)) | ((with_reducible refine' Int.le_trans ?p9 ?q9); (case q9 => k_extra "om0"); (case p9 => decide)) | ((with_reducible refine' Int.lt_of_le_of_lt ?p9 ?q9); (case p9 => k_extra "om0"); (case q9 => decide)) | ((with_reducible refine' Int.lt_of_lt_of_le ?p9 ?q9); (case q9 => k_extra "om0"); (case p9 => decide)) | ((with_reducible refine And.intro ?_ ?_) <;> omega))
  trivial
/-! the world at the start of the law -/
def inc : Nat → List Nat → Prop
  | _, [] => True
  | a, b :: r => a < b ∧ inc b r
theorem inc_lt {l : List Nat} : ∀ {a : Nat}, inc a l → ∀ b ∈ l, a < b := by
  induction l with
  | nil => intro _ _ _ h; cases h
  | cons b r ih =>
    intro a h c hc
    rcases List.mem_cons.mp hc with e | hc
    · rw [e]; exact h.1
    · exact Nat.lt_trans h.1 (ih h.2 c hc)
theorem inc_nodup {l : List Nat} : ∀ {a : Nat}, inc a l → (a :: l).Nodup := by
  induction l with
  | nil => intro _ _; exact List.nodup_cons.mpr ⟨fun h => (nomatch h), List.nodup_nil⟩
  | cons b r ih => intro a h; exact List.nodup_cons.mpr ⟨fun hm => Nat.lt_irrefl _ (inc_lt h a hm), ih h.2⟩
theorem allLt_to {d : Nat} {l : List (Addr × Obj)} (h : AllLt d l) : ∀ p ∈ l, @LT.lt Nat _ p.1 d := by
  induction l with
  | nil => intro _ h; cases h
  | cons q r ih =>
    intro p hp
    rcases List.mem_cons.mp hp with e | hp
    · rw [e]; exact h.1
    · exact ih h.2 p hp
theorem td_nil {w : World} {imm : List (Addr × Obj)} {o : Obj} (h : intD w o [] []) : TD w imm o [] := by
  obtain ⟨⟨es, ep, ex, hd, _, hp, _⟩, _⟩ := h
  refine ⟨ex, ⟨es, ep, hd, ?_⟩, List.nodup_nil, fun _ h => (nomatch h), fun _ h => nomatch h⟩
  have := hp.length
  simpa using this
theorem noughts {n : Nat} : (∀ x ∈ (List.replicate n [(0 : Int)]).flatten, x = 0) ∧ (List.replicate n [(0 : Int)]).flatten.length = n := by
  refine ⟨fun x hx => ?_, by simp⟩
  obtain ⟨l, hl, hx⟩ := List.mem_flatten.mp hx
  rw [List.eq_of_mem_replicate hl] at hx
  exact List.mem_singleton.mp hx
theorem nought_at {l : List Int} (h : ∀ x ∈ l, x = 0) (i : Nat) : l.getD i 0 = 0 := by
  rw [List.getD_eq_getElem?_getD]
  cases e : l[i]? with
  | none => rfl
  | some x => exact h x (List.mem_of_getElem? e)
theorem rws_of {size : Nat} {a : Ad} {imm ps : List (Addr × Obj)} (h : RI size size a.T a.chv a.vav a.nov a.gav imm) (hs : 1 ≤ size ∧ size ≤ 13) : Rws a (imm ++ ps) where
  n := by rw [h.tch]; exact hs
  va := h.va
  nva := h.nva.trans h.tch.symm
  lch := h.lch.trans h.tch.symm
  ch := fun i hi => by obtain ⟨a, b, c, d, e, f⟩ := h.ch i (h.tch ▸ hi); exact ⟨a, b, c, d, List.mem_append_left _ e, f⟩
  no := fun i hi => by obtain ⟨a, b, c, d, e, f⟩ := h.no i (h.tch ▸ hi); exact ⟨a, b, c, d, List.mem_append_left _ e, f⟩
  ga := fun i hi => by obtain ⟨a, b, c, d, e, f⟩ := h.ga i (h.tch ▸ hi); exact ⟨a, b, c, d, List.mem_append_left _ e, f⟩
  lens := fun i hi => h.lens i (h.tch ▸ hi)
  kids := fun i hi c hc => by rw [h.tch]; exact h.kids i (h.tch ▸ hi) c hc
  vals := h.vals
def adOf (Gd G P Ch V Ck Dr No Ga Kd Kx F1 F2 Hd Hx S Cd Cx R D0 Pl D2 Tb Rc Rw : Nat) (hh : Nat → Int) (kk : Nat → Tok) (nn : Nat → Nat) (l pl : Int) (T : Tre) (chv vav nov gav : List Value) : Ad :=
  ⟨Gd, G, P, Ch, V, Ck, Dr, No, Ga, Kd, Kx, F1, F2, Hd, Hx, S, Cd, Cx, R, D0, Pl, D2, Tb, Rc, Rw, hh, kk, nn, l, pl, T, chv, vav, nov, gav⟩
theorem world_start {w : World} {Gd G P Ch V Ck Dr No Ga Kd Kx F1 F2 Hd Hx S Cd Cx R D0 Pl D2 Tb Rc Rw : Nat} {hh : Nat → Int} {kk : Nat → Tok} {nn : Nat → Nat} {l pl : Int} {T : Tre} {chv vav nov gav : List Value} {imm ps : List (Addr × Obj)} {size np n1 n2 npl : Nat} {so ro d0 d2 : Obj} {t0 : Tok} {vs1 vs2 : List Value}
    (hord : inc Ch [V, No, Ga, Rw, Gd, G, P, Hd, Hx, S, Kd, Kx, F1, F2, Cd, Cx, R, Tb, D0, Pl, D2, Rc]) (hRI : RI size size T chv vav nov gav imm) (hs : 1 ≤ size ∧ size ≤ 13)
    (lS : (S == sysModules) = false) (lR : (R == sysModules) = false) (l0 : (D0 == sysModules) = false) (l2 : (D2 == sysModules) = false) (hl : 20 ≤ l ∧ l ≤ 519) (hpl : 1 ≤ pl ∧ pl ≤ 3)
    (hso : intD w so [] []) (hro : intD w ro [] []) (h0 : intD w d0 [] []) (h2 : intD w d2 [] []) (i1 : IntsAre vs1 (List.replicate pl.toNat [0]).flatten) (i2 : IntsAre vs2 (List.replicate pl.toNat [0]).flatten)
    (hit : NoIt imm) (hiL : AllLt Gd imm) (hoff : ∀ p ∈ imm, p.1 ∉ [Ch, V, No, Ga, Rw]) (hn : ps.length = pl.toNat) (hpR : ∀ p ∈ ps, RO0 p.2) (hpn : ((Pl :: ps.map Prod.fst)).Nodup) (hpo : ∀ b ∈ [Ch, V, No, Ga, Rw, Gd, G, P, Hd, Hx, S, Kd, Kx, F1, F2, Cd, Cx, R, Tb, D0], b ∉ ps.map Prod.fst) (hpL : AllLt D2 (imm ++ ps)) :
    ∃ (a : Ad) (σ : St), a = adOf Gd G P Ch V Ck Dr No Ga Kd Kx F1 F2 Hd Hx S Cd Cx R D0 Pl D2 Tb Rc Rw hh kk nn l pl T chv vav nov gav ∧ WF w a σ ∧ AtN a σ 0 0 ∧
      WL a σ = WL (adOf Gd G P Ch V Ck Dr No Ga Kd Kx F1 F2 Hd Hx S Cd Cx R D0 Pl D2 Tb Rc Rw hh kk nn l pl T chv vav nov gav) ⟨[.int 0 t0], np, [0], vs1, vs2, n1, n2, (List.replicate pl.toNat [0]).flatten, (List.replicate pl.toNat [0]).flatten, so, [], [], ro, [], [], d0, [], kmc_refs ps, npl, d2, [], imm ++ ps⟩ := by
  refine ⟨_, ⟨[.int 0 t0], np, [0], vs1, vs2, n1, n2, (List.replicate pl.toNat [0]).flatten, (List.replicate pl.toNat [0]).flatten, so, [], [], ro, [], [], d0, [], kmc_refs ps, npl, d2, [], imm ++ ps⟩, rfl, ?_, ?_, rfl⟩
  · have ho := hord
    simp only [inc, and_true] at ho
    obtain ⟨nz, nl⟩ := noughts (n := pl.toNat)
    have hps : ∀ p ∈ ps, p.1 ∈ ps.map Prod.fst := fun p hp => List.mem_map_of_mem hp
    have hz : ∀ x ∈ (List.replicate pl.toNat [(0 : Int)]).flatten, 0 ≤ x ∧ x ≤ 3 := fun x hx => by rw [nz x hx]; decide
    refine { ord := ⟨by simp only [adOf]; omega, by simp only [adOf]; omega, by simp only [adOf]; omega, ?_, lS, lR, l0, l2, hl, hpl⟩, rws := rws_of hRI hs, off := ?_, path := .cons _ _ .nil, k1 := i1, k2 := i2, e1 := ?_, e2 := ?_, hi := hso, wsc := WFc.nil, cn := hro, wrc := WFc.nil, t0 := td_nil h0, t2 := td_nil h2, lpl := ?_, noit := noIt_app hit fun p hp => ?_, kb := ⟨hz, hz⟩, agr := fun _ _ _ _ => rfl, agr2 := fun _ _ _ _ => rfl, prs := ?_ }
    · have z : ([Ch, V, No, Ga, Rw, Gd, G, P, Hd, Hx] ++ S :: [Kd, Kx, F1, F2, Cd, Cx, R, Tb, D0, Pl, D2, Rc]).Nodup := inc_nodup hord
      exact (List.Perm.nodup_iff (List.Perm.append_left [Ch, V, No, Ga, Rw, Gd, G, P, Hd, Hx] (List.perm_append_comm (l₁ := [Kd, Kx, F1, F2, Cd, Cx, R, Tb, D0, Pl, D2, Rc]) (l₂ := [S])))).mpr z
    · intro p hp hm
      simp only [Ad.fix, adOf, List.mem_cons, List.not_mem_nil, or_false] at hm
      rcases List.mem_append.mp hp with hp | hp
      · have a1 := hoff p hp
        have a2 := allLt_to hiL p hp
        simp only [List.mem_cons, List.not_mem_nil, or_false, not_or] at a1
        obtain ⟨c1, c2, c3, c4, c5⟩ := a1
        have b1 : ∀ b, Gd ≤ b → p.1 ≠ b := fun b hb e => Nat.not_lt.mpr hb (by rw [← e]; exact a2)
        rcases hm with h | h | h | h | h | h | h | h | h | h | h | h | h | h | h | h | h | h | h | h | h | h | h
        · exact c1 h
        · exact c2 h
        · exact c3 h
        · exact c4 h
        · exact c5 h
        all_goals exact b1 _ (by omega) h
      · have a1 := fun (b : Nat) hb (e : b = p.1) => hpo b hb (by rw [e]; exact hps p hp)
        have a2 := allLt_to hpL p (List.mem_append_right _ hp)
        have a3 : p.1 ≠ Pl := fun e => (List.nodup_cons.mp hpn).1 (e ▸ hps p hp)
        have b1 : ∀ b, D2 ≤ b → p.1 ≠ b := fun b hb e => Nat.not_lt.mpr hb (by rw [← e]; exact a2)
        rcases hm with h | h | h | h | h | h | h | h | h | h | h | h | h | h | h | h | h | h | h | h | h | h | h
        all_goals first | exact a3 h | exact b1 _ (by omega) h | exact a1 _ (by k_mem) h.symm
    · rw [nl]; exact Int.toNat_of_nonneg (by have := hpl.1; show 0 ≤ pl; omega)
    · rw [nl]; exact Int.toNat_of_nonneg (by have := hpl.1; show 0 ≤ pl; omega)
    · rw [kmc_refs, List.length_map, hn]; exact Int.toNat_of_nonneg (by have := hpl.1; show 0 ≤ pl; omega)
    · obtain ⟨vs, k, e, _⟩ := hpR p hp
      rw [e]; rfl
    · intro i hi
      rw [kmc_refs, List.length_map] at hi
      obtain ⟨vs, k, e, hv⟩ := hpR ps[i] (List.getElem_mem hi)
      refine ⟨ps[i].1, vs, k, ?_, List.mem_append_right _ ?_, ?_⟩
      · rw [kmc_refs, List.getElem?_map, List.getElem?_eq_getElem hi]; rfl
      · rw [← e]; exact List.getElem_mem hi
      · rw [nought_at nz]; exact hv
  · exact ⟨by show 0 < T.ch.length; rw [hRI.tch]; omega, rfl, rfl, by decide⟩
end
section
theorem on_X5 : True := by
  k_with_none
  k_with "om2" => (lia)
  trivial
/-! the world at the start, by its ledger -/
theorem world_begin {w : World} {g h : Heap} {L : Addr} {Gd G P Ch V Ck Dr No Ga Kd Kx F1 F2 Hd Hx S Cd Cx R D0 Pl D2 Tb Rc Rw : Nat} {h1 h2 h3 h4 h5 h6 h7 h8 h9 h10 h11 h12 h13 : Int} {k1 k2 k3 k4 k5 k6 k7 k8 k9 k10 k11 k12 k13 k20 k21 t0 : Tok} {m0 m1 m2 m3 m4 m5 m6 m7 : Nat} {l pl : Int} {T : Tre} {chv vav nov gav : List Value} {imm ps : List (Addr × Obj)} {size np n1 n2 npl : Nat} {so ro d0 d2 : Obj} {vs1 vs2 : List Value}
    (N : News g L h ((Rc, tupO [.ref D0, .ref Pl, .ref D2]) :: (D2, d2) :: (Pl, listOf (kmc_refs ps).toArray npl) :: (D0, d0) :: (Tb, tupO [.ref Hx, .ref Kx, .ref Cx]) :: (R, ro) :: (Cx, instObj 194 Cd) :: (Cd, dictOf [⟨h13, .str (Str.ofString "replies") k13, .ref R⟩] m7) :: (F2, listOf vs2.toArray n2) :: (F1, listOf vs1.toArray n1) :: (Kx, instObj 159 Kd) :: (Kd, dictOf [⟨h8, .str (Str.ofString "plies") k8, .int pl k20⟩, ⟨h9, .str (Str.ofString "first") k9, .ref F1⟩, ⟨h10, .str (Str.ofString "second") k10, .ref F2⟩] m5) :: (S, so) :: (Hx, instObj 117 Hd) :: (Hd, dictOf [⟨h11, .str (Str.ofString "limit") k11, .int l k21⟩, ⟨h12, .str (Str.ofString "scores") k12, .ref S⟩] m6) :: (P, listOf [Value.int 0 t0].toArray np) :: (G, instObj 335 Gd) :: (Gd, dictOf [⟨h1, .str (Str.ofString "children") k1, .ref Ch⟩, ⟨h2, .str (Str.ofString "values") k2, .ref V⟩, ⟨h3, .str (Str.ofString "checks") k3, .ref Ck⟩, ⟨h4, .str (Str.ofString "draws") k4, .ref Dr⟩, ⟨h5, .str (Str.ofString "noisy_rows") k5, .ref No⟩, ⟨h6, .str (Str.ofString "gain_rows") k6, .ref Ga⟩, ⟨h7, .str (Str.ofString "path") k7, .ref P⟩] m0) :: (Ch, listOf chv.toArray m1) :: (V, listOf vav.toArray m2) :: (No, listOf nov.toArray m3) :: (Ga, listOf gav.toArray m4) :: (Rw, tupO [.ref Ch, .ref V, .ref No, .ref Ga]) :: (imm ++ ps)))
    (hord : inc Ch [V, No, Ga, Rw, Gd, G, P, Hd, Hx, S, Kd, Kx, F1, F2, Cd, Cx, R, Tb, D0, Pl, D2, Rc]) (hRI : RI size size T chv vav nov gav imm) (hs : 1 ≤ size ∧ size ≤ 13)
    (lS : (S == sysModules) = false) (lR : (R == sysModules) = false) (l0 : (D0 == sysModules) = false) (l2 : (D2 == sysModules) = false) (hl : 20 ≤ l ∧ l ≤ 519) (hpl : 1 ≤ pl ∧ pl ≤ 3)
    (hso : intD w so [] []) (hro : intD w ro [] []) (hd0 : intD w d0 [] []) (hd2 : intD w d2 [] []) (i1 : IntsAre vs1 (List.replicate pl.toNat [0]).flatten) (i2 : IntsAre vs2 (List.replicate pl.toNat [0]).flatten)
    (hit : NoIt imm) (hiL : AllLt Gd imm) (hoff : ∀ p ∈ imm, p.1 ∉ [Ch, V, No, Ga, Rw]) (hn : ps.length = pl.toNat) (hpR : ∀ p ∈ ps, RO0 p.2) (hpn : ((Pl :: ps.map Prod.fst)).Nodup) (hpo : ∀ b ∈ [Ch, V, No, Ga, Rw, Gd, G, P, Hd, Hx, S, Kd, Kx, F1, F2, Cd, Cx, R, Tb, D0], b ∉ ps.map Prod.fst) (hpL : AllLt D2 (imm ++ ps)) :
    ∃ (a : Ad) (σ : St), WF w a σ ∧ AtN a σ 0 0 ∧ News g L h (WL a σ) ∧ (a.Ch = Ch ∧ a.V = V ∧ a.No = No ∧ a.Ga = Ga ∧ a.Rw = Rw ∧ a.G = G ∧ a.Hx = Hx ∧ a.Kx = Kx ∧ a.Cx = Cx ∧ a.Tb = Tb ∧ a.Rc = Rc ∧ a.D0 = D0 ∧ a.Pl = Pl ∧ a.D2 = D2) ∧ a.l = l ∧ a.pl = pl := by
  obtain ⟨a, σ, ha, hW, hA, hL⟩ := world_start (w := w) (Ck := Ck) (Dr := Dr) (hh := (fun i => if i = 1 then h1 else if i = 2 then h2 else if i = 3 then h3 else if i = 4 then h4 else if i = 5 then h5 else if i = 6 then h6 else if i = 7 then h7 else if i = 8 then h8 else if i = 9 then h9 else if i = 10 then h10 else if i = 11 then h11 else if i = 12 then h12 else h13)) (kk := (fun i => if i = 1 then k1 else if i = 2 then k2 else if i = 3 then k3 else if i = 4 then k4 else if i = 5 then k5 else if i = 6 then k6 else if i = 7 then k7 else if i = 8 then k8 else if i = 9 then k9 else if i = 10 then k10 else if i = 11 then k11 else if i = 12 then k12 else if i = 13 then k13 else if i = 20 then k20 else k21)) (nn := (fun i => if i = 0 then m0 else if i = 1 then m1 else if i = 2 then m2 else if i = 3 then m3 else if i = 4 then m4 else if i = 5 then m5 else if i = 6 then m6 else m7)) (np := np) (n1 := n1) (n2 := n2) (npl := npl) (t0 := t0) hord hRI hs lS lR l0 l2 hl hpl hso hro hd0 hd2 i1 i2 hit hiL hoff hn hpR hpn hpo hpL
  refine ⟨a, σ, hW, hA, ?_, ?_, ?_⟩
  · rw [hL]
    intro p hp
    refine N p ?_
    clear N hord hRI lS lR l0 l2 hso hro hd0 hd2 i1 i2 hoff hpo hpL hW hA hL ha hit hiL hpR hpn
    revert p
    show ∀ p ∈ ((Ch, listOf chv.toArray m1) :: (V, listOf vav.toArray m2) :: (No, listOf nov.toArray m3) :: (Ga, listOf gav.toArray m4) :: (Rw, tupO [.ref Ch, .ref V, .ref No, .ref Ga]) :: (Gd, dictOf [⟨h1, .str (Str.ofString "children") k1, .ref Ch⟩, ⟨h2, .str (Str.ofString "values") k2, .ref V⟩, ⟨h3, .str (Str.ofString "checks") k3, .ref Ck⟩, ⟨h4, .str (Str.ofString "draws") k4, .ref Dr⟩, ⟨h5, .str (Str.ofString "noisy_rows") k5, .ref No⟩, ⟨h6, .str (Str.ofString "gain_rows") k6, .ref Ga⟩, ⟨h7, .str (Str.ofString "path") k7, .ref P⟩] m0) :: (G, instObj 335 Gd) :: (P, listOf [Value.int 0 t0].toArray np) :: (Hd, dictOf [⟨h11, .str (Str.ofString "limit") k11, .int l k21⟩, ⟨h12, .str (Str.ofString "scores") k12, .ref S⟩] m6) :: (Hx, instObj 117 Hd) :: (Kd, dictOf [⟨h8, .str (Str.ofString "plies") k8, .int pl k20⟩, ⟨h9, .str (Str.ofString "first") k9, .ref F1⟩, ⟨h10, .str (Str.ofString "second") k10, .ref F2⟩] m5) :: (Kx, instObj 159 Kd) :: (F1, listOf vs1.toArray n1) :: (F2, listOf vs2.toArray n2) :: (Cd, dictOf [⟨h13, .str (Str.ofString "replies") k13, .ref R⟩] m7) :: (Cx, instObj 194 Cd) :: (R, ro) :: (Tb, tupO [.ref Hx, .ref Kx, .ref Cx]) :: (D0, d0) :: (Pl, listOf (kmc_refs ps).toArray npl) :: (D2, d2) :: (Rc, tupO [.ref D0, .ref Pl, .ref D2]) :: (S, so) :: (imm ++ ps)), p ∈ _
    repeat (refine all_cons (by k_mem) ?_)
    intro p hp
    repeat (refine List.Mem.tail _ ?_)
    exact hp
  · subst ha
    exact ⟨rfl, rfl, rfl, rfl, rfl, rfl, rfl, rfl, rfl, rfl, rfl, rfl, rfl, rfl⟩
  · subst ha
    exact ⟨rfl, rfl⟩
end
section
theorem on_Z0 : True := by
  k_with_none
  k_with "om2" => (lia)
  trivial
/-! law: the start -/
theorem to_ktr {M : Model} {E : Value → Shared → Prop} {Q : Flow → Shared → Prop} {s : Shared} {cn : Str} {cs : Scope} {L a : Addr} {ccd : Value} {body : List Stmt}
    (k : ∀ dp un gd, dp + 200 < recursionLimit → un + 800 < cLine → wpAny M (ktrTop dp un gd cn cs L a ccd [] []) (execs body (envOf cn cs L a ccd)) Q E s) : wpAny M (callerA.deeper (envOf cn cs L a ccd)) (execs body (envOf cn cs L a ccd)) Q E s :=
  k _ _ _ (by decide +kernel) (by decide +kernel)
theorem news_all {g h h' : Heap} {L : Addr} {m : Str → Option Value} {l r : List (Addr × Obj)} (F : Fr g L h m) (hl : ∀ p ∈ l, h'.get? p.1 = some p.2 ∧ h.get? p.1 = none) (N' : News g L h' r) : News g L h' (l ++ r) := fun p hp => by
  rcases List.mem_append.mp hp with hp | hp
  · exact news_made (a := p.1) (o := p.2) F (hl p hp).2 (hl p hp).1 News.nil p (.head _)
  · exact N' p hp
end
section
theorem on_Y0 : True := by
  k_with_none
  k_with "om2" => (lia)
  trivial
/-! a dict's keys as they lie: walked, sorted -/
def RawD (h : Heap) (d : Addr) (es : Array DictEntry) (ep : Nat) : Prop := ∃ o, h.get? d = some o ∧ o.ExactDict ∧ o.data = .dict es ep
theorem RawD.at {h h' : Heap} {d : Addr} {es : Array DictEntry} {ep : Nat} (x : RawD h d es ep) (e : ∀ o, h.get? d = some o → h'.get? d = some o) : RawD h' d es ep := let ⟨o, ho, r⟩ := x; ⟨o, e _ ho, r⟩
theorem RawD.lt {h : Heap} {d : Addr} {es : Array DictEntry} {ep : Nat} (x : RawD h d es ep) : d < h.objs.size := let ⟨_, ho, _⟩ := x; Heap.lt_size ho
theorem RawD.typeIs {s : Shared} {d : Addr} {es : Array DictEntry} {ep : Nat} (x : RawD s.heap d es ep) : s.TypeIs (.ref d) "dict" := let ⟨o, ho, hc, _⟩ := x; ⟨o, ho, hc.1⟩
section
variable {prog : Program} {w : World} {A : Around} {E : Value → Shared → Prop} {s : Shared} {d : Addr} {es : Array DictEntry} {ep : Nat}
theorem raw_iter {Q : Value → Shared → Prop} (hd : (d == sysModules) = false) (hm : RawD s.heap d es ep)
    (hQ : Q (.ref s.heap.objs.size) { s with heap := s.heap.push { cls := .type "dict_keyiterator", data := .fields #[.ref d, .int 0 0, .int es.size 0, .int ep 0] } }) :
    wpAny (model prog w) A (pyIter (.ref d)) Q E s := by
  have hT := hm.typeIs
  obtain ⟨o, ho, hc, hdat⟩ := hm
  refine wpAny_pyIter_slot hT F.slot_dict_iter (wpAny_call_entry F.slot_dict_iter hT F.entry_dict_iter ?_ (F.args_dict_iter_1 _))
  unfold Builtin.«dict.__iter__» Builtin.Dict.dictSlotNone
  refine wpAny_bind (wpAny_bind (wpAny_notOrdered_dict hT ?_))
  show wpAny _ _ (pure (Value.ref d)) _ _ s
  refine wpAny_pure ?_
  show wpAny _ _ (Builtin.Dict.showsAll d >>= _) _ _ s
  unfold Builtin.Dict.showsAll
  rw [if_neg (by rw [hd]; exact Bool.false_ne_true)]
  refine wpAny_bind (wpAny_pure (wpAny_bind (wpAny_dictEntries ho hdat (wpAny_bind (wpAny_dictEpoch ho hdat ?_)))))
  refine wpAny_bind (wpAny_newObj_type (wpAny_pure ⟨_, rfl, "dict_keyiterator", _, ⟨_, Heap.get?_push_size _ rfl, rfl⟩, F.slot_dict_keyiterator_next.lookup, ?_⟩))
  simpa [rawInt] using hQ
theorem raw_item {it : Addr} {i : Nat} {Q : Option Value → Shared → Prop} (hit : s.heap.IsKeyIter it d i es.size ep) (hm : RawD s.heap d es ep) (hi : i < es.size)
    (hQ : ∀ h', h'.IsKeyIter it d (i + 1) es.size ep → Heap.SameBut it s.heap h' → Q (some es[i].key) { s with heap := h' }) :
    wpAny (model prog w) A (pyNext (.ref it)) Q E s := by
  obtain ⟨o, ho, hc, hd⟩ := id hit
  obtain ⟨od, hod, hcd, hdd⟩ := hm
  unfold pyNext
  refine wpAny_bind (wpAny_attempt (wpAny_callSpecial?_slot (name := Str.ofString "__next__") hit.typeIs F.slot_dict_keyiterator_next
    (wpAny_call_entry F.slot_dict_keyiterator_next hit.typeIs F.entry_dict_keyiterator_next ?_ (F.args_dict_keyiterator_next_1 _))))
  refine wpAny_bind (wpAny_pure (wpAny_bind (wpAny_bind ?_)))
  refine wpAny_bind (wpAny_typeNameOfWhole_keyiter hit.typeIs (wpAny_pure ?_))
  refine wpAny_bind (wpAny_fieldsOf ho hd ?_)
  simp only [show Builtin.Dict_items.ownsTuple "dict_keyiterator" = false by decide, Bool.false_eq_true, if_false]
  show wpAny _ _ (if (Value.ref d == Value.none) = true then _ else _) _ _ s
  rw [if_neg (show ¬ ((Value.ref d == Value.none) = true) from Bool.false_ne_true)]
  refine wpAny_bind (wpAny_pure (wpAny_bind (wpAny_dictEntries hod hdd ?_)))
  rw [if_neg (by simp)]
  refine wpAny_bind (wpAny_pure (wpAny_bind (wpAny_dictEpoch hod hdd ?_)))
  rw [if_neg (by simp)]
  refine wpAny_pure ?_
  simp only [show ¬ ((i : Int) < 0) from by omega, if_false, Int.toNat_natCast, Array.getElem?_eq_getElem hi]
  refine wpAny_bind ?_
  refine wpAny_bind (wpAny_typeNameOfWhole_keyiter hit.typeIs (wpAny_pure ?_))
  refine wpAny_bind (wpAny_isOneOf_keyiter hit.typeIs ?_)
  show wpAny _ _ (setField (.ref it) 1 (rawInt ((i : Int) + 1)) >>= _) _ _ s
  refine wpAny_bind (wpAny_setField ho hd (by simp) ?_)
  have hit' : (s.heap.update it (Obj.mapFields (·.setIfInBounds 1 (rawInt ((i : Int) + 1))))).IsKeyIter it d (i + 1) es.size ep :=
    ⟨_, Heap.get?_update_self _ ho (Obj.isFreed_of_fields (Obj.data_mapFields hd _)), (Obj.cls_mapFields ..).trans hc, by rw [Obj.data_mapFields hd]; simp [rawInt]⟩
  refine wpAny_bind (wpAny_holding (wpAny_bind (wpAny_isOneOf_keyiter (s := { s with heap := s.heap.update it (Obj.mapFields (·.setIfInBounds 1 (rawInt ((i : Int) + 1)))) }) hit'.typeIs ?_)))
  show wpAny _ _ (pure es[i].key) _ _ _
  exact wpAny_pure (wpAny_pure ⟨_, rfl, wpAny_pure (hQ _ hit' (Heap.SameBut.update ..))⟩)
theorem raw_end {it : Addr} {i : Nat} {Q : Option Value → Shared → Prop} (hh : A.handled = none) (hit : s.heap.IsKeyIter it d i es.size ep) (hm : RawD s.heap d es ep) (hi : es.size ≤ i)
    (hQ : ∀ h', Heap.ExtBut it s.heap h' → Q none { s with heap := h' }) : wpAny (model prog w) A (pyNext (.ref it)) Q E s := by
  obtain ⟨o, ho, hc, hd⟩ := id hit
  obtain ⟨od, hod, hcd, hdd⟩ := hm
  unfold pyNext
  refine wpAny_bind (wpAny_attempt (wpAny_callSpecial?_slot (name := Str.ofString "__next__") hit.typeIs F.slot_dict_keyiterator_next
    (wpAny_call_entry F.slot_dict_keyiterator_next hit.typeIs F.entry_dict_keyiterator_next ?_ (F.args_dict_keyiterator_next_1 _))))
  refine wpAny_bind (wpAny_pure (wpAny_bind (wpAny_bind ?_)))
  refine wpAny_bind (wpAny_typeNameOfWhole_keyiter hit.typeIs (wpAny_pure ?_))
  refine wpAny_bind (wpAny_fieldsOf ho hd ?_)
  simp only [show Builtin.Dict_items.ownsTuple "dict_keyiterator" = false by decide, Bool.false_eq_true, if_false]
  show wpAny _ _ (if (Value.ref d == Value.none) = true then _ else _) _ _ s
  rw [if_neg (show ¬ ((Value.ref d == Value.none) = true) from Bool.false_ne_true)]
  refine wpAny_bind (wpAny_pure (wpAny_bind (wpAny_dictEntries hod hdd ?_)))
  rw [if_neg (by simp)]
  refine wpAny_bind (wpAny_pure (wpAny_bind (wpAny_dictEpoch hod hdd ?_)))
  rw [if_neg (by simp)]
  refine wpAny_pure ?_
  simp only [show ¬ ((i : Int) < 0) from by omega, if_false, Int.toNat_natCast, Array.getElem?_eq_none hi]
  refine wpAny_bind ?_
  refine wpAny_bind (wpAny_typeNameOfWhole_keyiter hit.typeIs (wpAny_pure ?_))
  show wpAny _ _ (setField (.ref it) 0 .none >>= _) _ _ s
  refine wpAny_bind (wpAny_setField ho hd (by simp) ?_)
  show wpAny _ _ (newExc (.type "StopIteration") [] >>= _) _ _ _
  refine wpAny_bind ?_
  simp only [newExc, newTuple]
  refine wpAny_bind (wpAny_newObj_type ?_ (by size_fits))
  refine wpAny_bind (m := firstArgMember _ _) (wpAny_of_eq (a := Value.none) (by first | rfl | (simp only [firstArgMember]; rfl)) ?_)
  refine wpAny_newObj_type ?_ (by size_fits)
  simp only [raiseNew]
  refine wpAny_bind (wpAny_handled ?_)
  rw [show A.in1.handled = none from hh]
  refine wpAny_bind (wpAny_pure (wpAny_throw ?_))
  refine wpAny_bind (wpAny_isInstance (T := "StopIteration") (b := true) ⟨_, Heap.get?_push_size _ rfl, rfl⟩ isSubtype_stop ?_)
  exact wpAny_pure (hQ _ (((Heap.SameBut.update ..).extBut.push _).push _))
theorem raw_walks (hh : A.handled = none) (I d : Addr) (hne : d ≠ I) (es : Array DictEntry) (ep : Nat) :
    Walks prog w A I [I, d] [I] es.size (fun i v => (es[i]?).map (·.key) = some v) (fun i h => h.IsKeyIter I d i es.size ep ∧ RawD h d es ep) where
  sub := fun b hb => by simp at hb; simp [hb]
  frame := fun _ _ _ st hk => ⟨st.1.at fun o e => hk I (by simp) o e, st.2.at fun o e => hk d (by simp) o e⟩
  item := fun i s Q E hi st hQ => raw_item st.1 st.2 hi fun h' hit' hs' => hQ _ h' s.toks (by rw [Array.getElem?_eq_getElem hi]; rfl) ⟨hit', st.2.at fun o e => hs'.extBut d o hne e⟩ fun b o hb e => hs'.extBut b o (fun h => hb (by simp [h])) e
  done := fun s Q E st hQ => raw_end hh st.1 st.2 (Nat.le_refl _) fun h' he' => hQ h' s.toks fun b o hb e => he' b o (fun h => hb (by simp [h])) e
  self := fun _ _ _ _ st hQ => wpAny_pyIter_keyiter st.1 hQ
theorem raw_src (lo : (d == sysModules) = false) : KdlSrc prog w "dict" d d es.size (fun i v => (es[i]?).map (·.key) = some v) (fun h => RawD h d es ep) where
  type := fun _ hm => hm.typeIs
  there := fun _ hm => ⟨hm.lt, hm.lt⟩
  keep := fun _ _ hm hk => hm.at fun o e => hk d (.inl rfl) o e
  notList := by decide
  notTuple := by decide
  hint := fun _ _ _ _ hm hq => kdl_hint_dict hm.typeIs hq
  iter := fun _ _ hh hm => ⟨_, _, (fun _ _ hq => raw_iter lo hm hq), raw_walks hh _ d (Nat.ne_of_lt hm.lt) es ep, ⟨⟨_, Heap.get?_push_size _ rfl, rfl, rfl⟩, hm.at fun o e => Heap.get?_push_of_some _ e⟩⟩
end
/-- a tuple's object, as the dict's key is told -/
def KeyAt (h : Heap) (u : TU) : Prop := ∃ o n, h.get? u.1 = some o ∧ o.cls = .type "tuple" ∧ o.data = .seq u.2.1.toArray n
section
variable {prog : Program} {w : World} {A : Around} {E : Value → Shared → Prop} {s : Shared} {k : Nat}
theorem kat_ltU {Q : Bool → Shared → Prop} {x y : TU} (hx : KeyAt s.heap x) (hy : KeyAt s.heap y) (hv : IntsAre x.2.1 x.2.2) (hw : IntsAre y.2.1 y.2.2) (hl : x.2.2.length = y.2.2.length) (h : Q (lex x.2.2 y.2.2) s) :
    wpAny (model prog w) A (keyLt' (tuples' true) (.ref x.1) (.ref y.1)) Q E s := by
  obtain ⟨ox, nx, gx, _, dx⟩ := hx
  obtain ⟨oy, ny, gy, _, dy⟩ := hy
  refine kat_lt gx dx gy dy ?_
  have e : decide (x.2.1.toArray.size < y.2.1.toArray.size) = false := by
    have h1 := hv.length
    have h2 := hw.length
    simp
    omega
  rw [e]
  exact kat_ints Q hv hw hl 0 h
theorem kat_tups_ofU {h : Heap} : ∀ {us : List TU}, (∀ u ∈ us, KeyAt h u) → (∀ u ∈ us, IntsAre u.2.1 u.2.2) → (∀ u ∈ us, u.2.2.length = k + 1) → ∃ fs ns, KatTups h (us.map tuR) fs ∧ IntsAre fs ns ∧ fs.length = us.length
  | [], _, _, _ => ⟨[], [], .nil, .nil, rfl⟩
  | u :: us, h1, h2, h3 => by
    obtain ⟨fs, ns, a, b, c⟩ := kat_tups_ofU (us := us) (fun v hv => h1 v (.tail _ hv)) (fun v hv => h2 v (.tail _ hv)) fun v hv => h3 v (.tail _ hv)
    have hi := h2 u (.head _)
    have hlen := h3 u (.head _)
    obtain ⟨o, n, hg, hc, hd⟩ := h1 u (.head _)
    revert hi hlen hd
    generalize u.2.1 = vs
    generalize u.2.2 = ks
    intro hi hlen hd
    cases hi with
    | nil => simp at hlen
    | @cons n t vs ns' hr => exact ⟨.int n t :: fs, n :: ns, .cons hg hc hd rfl a, .cons _ _ b, by simp [c]⟩
end
section
variable {prog : Program} {w : World} {A : Around} {E : Value → Shared → Prop} {s : Shared} {g : Heap} {L : Addr} {m : Str → Option Value} {news : List (Addr × Obj)} {us : List TU} {k : Nat}
theorem sort_perm {Q : Shared → Prop} {D : Addr} {n : Nat} (F : Fr g L s.heap m) (N : News g L s.heap ((D, listOf (us.map tuR).toArray n) :: news)) (hlt : ∀ q ∈ news, q.1 < D) (h64 : us.length < 64)
    (hT : ∀ h, Fr g L h m → News g L h news → ∀ u ∈ us, KeyAt h u) (hI : ∀ u ∈ us, IntsAre u.2.1 u.2.2) (hk : ∀ u ∈ us, u.2.2.length = k + 1)
    (h : ∀ c h' (us' : List TU), us'.Perm us → Fr g L h' m → News g L h' ((D, listOf (us'.map tuR).toArray c) :: news) → Q { s with heap := h' }) :
    wpAny (model prog w) A (call (.builtin "list.sort") [.ref D]) (fun _ s' => Q s') E s := by
  have hN := N _ (.head _)
  have N0 : News g L s.heap news := fun p hp => N p (.tail _ hp)
  have hne : ∀ p ∈ news, p.1 ≠ D := fun p hp => Nat.ne_of_lt (hlt p hp)
  by_cases h2 : 2 ≤ us.length
  · refine wpAny_call_entry slot_list_sort ⟨_, hN.1, rfl⟩ entry_list_sort ?body (args_list_sort _)
    case body =>
      refine kat_list_sort F N0 hN.1 hN.2.1 hN.2.2 hne (by simpa using h2) (by simpa using h64) fun e1 h' F' N' => ?_
      have hT' := hT h' F' fun p hp => N' p (.tail _ hp)
      obtain ⟨fs, ns, ht, hf, hlen⟩ := kat_tups_ofU hT' hI hk
      refine kat_kind (T := .type "int") ht (by omega) (looks_int hf) (by decide) ?_
      rw [List.length_map]
      refine AllK.wp (P := Pm us.length) (fun i j hi hj C hC => ?_) _ (all_sort (by omega)) fun p hp => ?_
      · unfold kas_ask
        rw [tu_get hi, tu_get hj]
        exact kat_ltU (hT' _ (tu_mem hi)) (hT' _ (tu_mem hj)) (hI _ (tu_mem hi)) (hI _ (tu_mem hj)) ((hk _ (tu_mem hi)).trans (hk _ (tu_mem hj)).symm) (hC _)
      · have hR : ∀ i ∈ p.toList, i < us.length := fun i hi => by
          have := (Array.perm_iff_toList_perm.mp hp).mem_iff.mp hi
          simpa using this
        rw [tu_map hR]
        refine KasFin.intro F' N' (.head fun q hq => hne q hq) fun h'' c F'' N'' => ⟨_, rfl, h c h'' _ ?_ F'' N''⟩
        have := (Array.perm_iff_toList_perm.mp hp).map fun i => us.getD i tu0
        rw [show (List.toArray (List.range us.length)).toList = List.range us.length from rfl, range_getD] at this
        exact this
  · refine wpAny_call_entry slot_list_sort ⟨_, hN.1, rfl⟩ entry_list_sort (sort_few hN.1 (by simp; omega) fun h' c k' hg => ⟨_, rfl, ?_⟩) (args_list_sort _)
    have F' : Fr g L h' m := by
      obtain ⟨oL, es, ep, hL, hLd, hLk, hLf⟩ := F.ns
      exact ⟨⟨oL, es, ep, k' L oL (fun e => hN.2.1 e.symm) hL, hLd, hLk, hLf⟩, fun b o e => k' b o (fun z => by rw [z, hN.2.2] at e; cases e) (F.keep b o e), F.above⟩
    refine h c h' us (List.Perm.refl _) F' fun p hp => ?_
    rcases List.mem_cons.mp hp with rfl | hp
    · exact ⟨hg, hN.2⟩
    · exact ⟨k' _ _ (hne p hp) (N0 p hp).1, (N0 p hp).2⟩
/-- sorted over a dict by tuples of ints -/
theorem sorted_dict {Q : Value → Shared → Prop} {d : Addr} {es : Array DictEntry} {ep : Nat} (lo : (d == sysModules) = false) (hh : A.handled = none) (F : Fr g L s.heap m) (N : News g L s.heap news) (hm : RawD s.heap d es ep) (he : es.toList.map (·.key) = us.map tuR) (h64 : us.length < 64)
    (hT : ∀ h, Fr g L h m → News g L h news → ∀ u ∈ us, KeyAt h u) (hI : ∀ u ∈ us, IntsAre u.2.1 u.2.2) (hk : ∀ u ∈ us, u.2.2.length = k + 1)
    (h : ∀ (D : Nat) c h' tk (us' : List TU), us'.Perm us → Fr g L h' m → News g L h' ((D, listOf (us'.map tuR).toArray c) :: news) → (∀ q ∈ news, q.1 < D) → Q (.ref D) { s with heap := h', toks := tk }) :
    wpAny (model prog w) A (call (.builtin "sorted") [.ref d]) Q E s := by
  have hlen : es.size = us.length := by have := congrArg List.length he; simpa using this
  refine kdu_sorted (raw_src (es := es) (ep := ep) lo) hh F N hm (by rw [hlen, sizeLine_eq]; omega) fun D h' tk vs F' N' hlt hl hv => ?_
  have hvs : vs = us.map tuR := by
    refine List.ext_getElem? fun i => ?_
    by_cases hi : i < vs.length
    · have e1 := hv i _ (List.getElem?_eq_getElem hi)
      rw [List.getElem?_eq_getElem hi, ← he, List.getElem?_map, ← e1, Array.getElem?_toList]
    · rw [List.getElem?_eq_none (by omega), List.getElem?_eq_none (by rw [List.length_map]; omega)]
  subst hvs
  exact sort_perm F' N' hlt h64 hT hI hk fun c h'' us' hp F'' N'' => h D c h'' tk us' hp F'' N'' hlt
end
end
section
theorem on_Y1 : True := by
  k_with_none
  k_with "om2" => (lia)
  trivial
/-! the ageing, plain -/
theorem age_bound {l v : Int} (h : -l ≤ v ∧ v ≤ l) : -l ≤ halfOf v ∧ halfOf v ≤ l := half_bound h
theorem age_wf {l : Int} : ∀ (c k : List (Int × Int)), WFc l k → (∀ p ∈ c, p.1 ∈ allKeys ∧ -l ≤ p.2 ∧ p.2 ≤ l) → WFc l (c.foldl ageStep k) := by
  intro c
  induction c with
  | nil => intro k hk _; exact hk
  | cons p r ih =>
    intro k hk h
    rw [List.foldl_cons]
    refine ih _ ?_ fun q hq => h q (.tail _ hq)
    unfold ageStep
    split
    · exact hk.put (h p (.head _)).1 (half_bound (h p (.head _)).2)
    · exact hk
theorem ageC_wf {l : Int} {c : List (Int × Int)} (h : WFc l c) : WFc l (ageC c) := age_wf c [] WFc.nil fun p hp => ⟨h.keys p hp, h.bound p hp⟩
theorem kdf_cons (p : Int × Int) (r : List (Int × Int)) (j : Int) : kdfLook (p :: r) j 0 = if p.1 = j then p.2 else kdfLook r j 0 := by
  unfold kdfLook
  rw [List.find?_cons]
  by_cases e : p.1 = j
  · rw [if_pos e]; simp [e]
  · rw [if_neg e]; simp [e]
theorem kdf_none {c : List (Int × Int)} {j : Int} (h : j ∉ c.map (·.1)) : kdfLook c j 0 = 0 := by
  induction c with
  | nil => rfl
  | cons p r ih =>
    rw [List.map_cons, List.mem_cons, not_or] at h
    rw [kdf_cons, if_neg (fun e => h.1 e.symm)]
    exact ih h.2
theorem age_fold (j : Int) : ∀ (c k : List (Int × Int)), (c.map (·.1)).Nodup → kdfLook (c.foldl ageStep k) j 0 = if j ∈ c.map (·.1) ∧ halfOf (kdfLook c j 0) ≠ 0 then halfOf (kdfLook c j 0) else kdfLook k j 0 := by
  intro c
  induction c with
  | nil => intro k _; simp
  | cons p r ih =>
    intro k hn
    rw [List.map_cons, List.nodup_cons] at hn
    rw [List.foldl_cons, ih _ hn.2, kdf_cons, List.map_cons]
    simp only [List.mem_cons]
    by_cases e : p.1 = j
    · have h0 : ¬ j ∈ r.map (·.1) := e ▸ hn.1
      rw [if_neg (fun q => h0 q.1), if_pos e]
      unfold ageStep
      by_cases hz : halfOf p.2 ≠ 0
      · rw [if_pos hz, kdfLook_put, if_pos e.symm, if_pos ⟨.inl e.symm, hz⟩]
      · rw [if_neg hz, if_neg (fun q => hz q.2)]
    · rw [if_neg e]
      have hs : kdfLook (ageStep k p) j 0 = kdfLook k j 0 := by
        unfold ageStep
        split
        · rw [kdfLook_put, if_neg (fun q => e q.symm)]
        · rfl
      rw [hs]
      by_cases hj : j ∈ r.map (·.1)
      · simp [hj]
      · rw [if_neg (fun q => hj q.1), if_neg (fun q => q.1.elim (fun z => e z.symm) hj)]
theorem half_zero : halfOf 0 = 0 := by decide
theorem age_look {l : Int} {c : List (Int × Int)} (h : WFc l c) (j : Int) : kdfLook (ageC c) j 0 = halfOf (kdfLook c j 0) := by
  unfold ageC
  rw [age_fold j c [] h.nodup]
  by_cases hj : j ∈ c.map (·.1)
  · by_cases hz : halfOf (kdfLook c j 0) = 0
    · rw [if_neg (fun q => q.2 hz), hz]; rfl
    · rw [if_pos ⟨hj, hz⟩]
  · rw [if_neg (fun q => hj q.1), kdf_none hj, half_zero]; rfl
theorem half_pos {v : Int} (h : 0 < v) : (if v < 0 then -v else v).fdiv 2 = halfOf v := by
  unfold halfOf
  rw [if_neg (by omega), if_neg (by omega), Int.mul_one]
theorem half_neg {v : Int} (h : ¬ 0 < v) : -(if v < 0 then -v else v).fdiv 2 = halfOf v := by
  unfold halfOf
  by_cases e : v = 0
  · subst e; decide
  · rw [if_pos (by omega), if_pos (by omega), Int.mul_one]
/-! the records' scores, halved one by one -/
theorem ints_items {w : World} {ks : List Int} {vs : List Value} (h : ItemsAre (knT w) ks vs) : IntsAre vs ks := by
  induction h with
  | nil => exact .nil
  | cons hk _ ih =>
    obtain ⟨t, rfl⟩ := Value.isInt_shape hk
    exact .cons _ t ih
theorem td_us {w : World} {imm : List (Addr × Obj)} : ∀ (xs : TT), (∀ x ∈ xs, ∃ ok, (x.2.1, ok) ∈ imm ∧ TupKeyObj (knT w) x.1 ok) → ∃ us : List TU, us.map (fun u => (u.1, u.2.2)) = xs.map (fun x => (x.2.1, x.1)) ∧
    ∀ u ∈ us, IntsAre u.2.1 u.2.2 ∧ ∃ ok n, (u.1, ok) ∈ imm ∧ ok.cls = .type "tuple" ∧ ok.data = .seq u.2.1.toArray n
  | [], _ => ⟨[], rfl, fun _ h => nomatch h⟩
  | x :: xs, h => by
    obtain ⟨us, e, hu⟩ := td_us xs fun y hy => h y (.tail _ hy)
    obtain ⟨ok, hm, hc, items, n, hd, hi⟩ := h x (.head _)
    refine ⟨(x.2.1, items.toList, x.1) :: us, by simp [e], fun u hu' => ?_⟩
    rcases List.mem_cons.mp hu' with rfl | hu'
    · exact ⟨ints_items hi, ok, n, hm, hc, by rw [hd]⟩
    · exact hu u hu'
theorem us_ref {us : List TU} {xs : TT} (e : us.map (fun u => (u.1, u.2.2)) = xs.map (fun x => (x.2.1, x.1))) : us.map tuR = xs.map (fun x => .ref x.2.1) := by
  have := congrArg (List.map fun p : Addr × List Int => Value.ref p.1) e
  rw [List.map_map, List.map_map] at this
  exact this
theorem us_key {us : List TU} {xs : TT} (e : us.map (fun u => (u.1, u.2.2)) = xs.map (fun x => (x.2.1, x.1))) : us.map (·.2.2) = xs.map (·.1) := by
  have := congrArg (List.map fun p : Addr × List Int => p.2) e
  rw [List.map_map, List.map_map] at this
  exact this
theorem TD.raw {w : World} {imm : List (Addr × Obj)} {o : Obj} {xs : TT} {h : Heap} {d : Addr} (t : TD w imm o xs) (hg : h.get? d = some o) : ∃ es ep, RawD h d es ep ∧ es.toList.map (·.key) = xs.map (fun x => .ref x.2.1) := by
  obtain ⟨es, ep, h1, h2⟩ := t.data
  refine ⟨es, ep, ⟨o, hg, t.ex, h1⟩, ?_⟩
  rw [h2, List.map_map]
  rfl
theorem atKey_some {xs : TT} {k : List Int} (h : k ∈ xs.map (·.1)) : ∃ p, atKey xs k = some p := by
  unfold atKey
  obtain ⟨x, hx, e⟩ := List.mem_map.mp h
  have : (xs.find? fun x => decide (x.1 = k)).isSome = true := List.find?_isSome.mpr ⟨x, hx, by simp [e]⟩
  obtain ⟨y, hy⟩ := Option.isSome_iff_exists.mp this
  exact ⟨_, by rw [hy]; rfl⟩
theorem tlook_none {xs : TT} {k : List Int} (h : k ∉ xs.map (·.1)) : tlook xs k = 0 := by
  unfold tlook
  have : atKey xs k = none := by
    unfold atKey
    rw [Option.map_eq_none_iff]
    exact List.find?_eq_none.mpr fun x hx e => h (List.mem_map.mpr ⟨x, hx, by simpa using e⟩)
  rw [this]
theorem stored_keys {xs : TT} {k : List Int} {a : Addr} {v : Value} (h : k ∈ xs.map (·.1)) : (storedH xs k a v).map (·.1) = xs.map (·.1) := by
  obtain ⟨p, hp⟩ := atKey_some h
  unfold storedH
  rw [if_pos (by rw [hp]; rfl), List.map_map]
  apply List.map_congr_left
  intro x _
  simp only [Function.comp]
  unfold putAt
  split <;> rfl
/-- after i of the sorted keys -/
def Halved (xs₀ xs : TT) (done : List (List Int)) : Prop := xs.map (·.1) = xs₀.map (·.1) ∧ ∀ k, tlook xs k = if k ∈ done then halfOf (tlook xs₀ k) else tlook xs₀ k
theorem Halved.start {xs : TT} : Halved xs xs [] := ⟨rfl, fun k => by simp⟩
theorem Halved.step {xs₀ xs : TT} {us : List TU} {i : Nat} {u : TU} {v : Int} {t : Tok} (h : Halved xs₀ xs ((us.take i).map (·.2.2))) (hn : (us.map (·.2.2)).Nodup) (hu : us[i]? = some u) (hk : u.2.2 ∈ xs₀.map (·.1)) (hv : v = halfOf (tlook xs u.2.2)) {a : Addr} :
    Halved xs₀ (storedH xs u.2.2 a (.int v t)) ((us.take (i + 1)).map (·.2.2)) := by
  obtain ⟨h1, h2⟩ := h
  have hni : u.2.2 ∉ (us.take i).map (·.2.2) := fun q => by
    obtain ⟨y, hy, e⟩ := List.mem_map.mp q
    obtain ⟨j, hj, rfl⟩ := List.getElem_of_mem hy
    rw [List.length_take] at hj
    have e1 : (us.map (·.2.2))[j]? = some u.2.2 := by
      rw [List.getElem?_map, List.getElem?_eq_getElem (by omega), Option.map_some, ← e, List.getElem_take]
    have e2 : (us.map (·.2.2))[i]? = some u.2.2 := by rw [List.getElem?_map, hu]; rfl
    have hji : j = i := (List.getElem?_inj (by rw [List.length_map]; omega) hn).mp (e1.trans e2.symm)
    omega
  have hv' : v = halfOf (tlook xs₀ u.2.2) := by rw [hv, h2, if_neg hni]
  refine ⟨(stored_keys (h1 ▸ hk)).trans h1, fun k => ?_⟩
  rw [tlook_stored, List.take_add_one, hu, List.map_append]
  by_cases e : k = u.2.2
  · rw [if_pos e, if_pos (List.mem_append_right _ (by simp [e])), e]
    exact hv'
  · rw [if_neg e, h2]
    by_cases q : k ∈ (us.take i).map (·.2.2)
    · rw [if_pos q, if_pos (List.mem_append_left _ q)]
    · rw [if_neg q, if_neg]
      intro z
      rcases List.mem_append.mp z with z | z
      · exact q z
      · exact e (by simpa using z)
theorem Halved.agr {l : Int} {c : List (Int × Int)} {xs₀ xs : TT} {us us' : List TU} (h : Halved xs₀ xs (us'.map (·.2.2))) (hp : us'.Perm us) (he : us.map (·.2.2) = xs₀.map (·.1)) (ha : Agr c xs₀) (hc : WFc l c) : Agr (ageC c) xs := by
  intro s m hs hm
  rw [age_look hc, ← ha s m hs hm, h.2]
  split
  · rfl
  · rename_i hn
    have : [s, m] ∉ xs₀.map (·.1) := fun q => hn ((hp.map (·.2.2)).mem_iff.mpr (he ▸ q))
    rw [tlook_none this, half_zero]
section
variable {w : World} {A : Around} {E : Value → Shared → Prop} {s : Shared} {d ka : Addr} {o ok : Obj} {xs : TT} {k : List Int} {imm : List (Addr × Obj)}
theorem my_itemT {value slice : Expr} {Q : Value → Shared → Prop} (h : TD w imm o xs) (hu : A.units + 1 < cLine) (ho : s.heap.get? d = some o) (hi : AllAt s.heap imm) (hk : s.heap.get? ka = some ok) (tk : TupKeyObj (knT w) k ok) (hin : k ∈ xs.map (·.1))
    (ret : ∀ t', Q (.int (tlook xs k) t') { s with toks := s.toks + (k.length + 1) })
    (hs : subscripted slice false (.ref d) (.ref ka) = operate [.ref d, .ref ka] (getItem (.ref d) (.ref ka)) := by with_unfolding_all rfl) (hg : ∀ r, letTemporaryGo value (.ref d) r = pure () := by intro _; with_unfolding_all rfl) :
    wpAny (model PySem.Challenge.rw_nt0425_01.row.prog w) A (subscriptTail value slice (.ref d) (.ref ka)) Q E s := by
  have hd := h.at ho hi
  obtain ⟨p, hp⟩ := atKey_some hin
  refine subscriptTail_builtin hd.typeIs slot_dict_getitem.lookup (wpAny_getItem_heap (knd := tupleKind (knT w)) (tupleKind_room_in1 hu) (tk.key hk) hd hp ?_) hs hg
  unfold tlook at ret
  rw [hp] at ret
  obtain ⟨a, v⟩ := p
  obtain ⟨⟨n, t', hv, _⟩, _⟩ := h.good _ (atKey_mem hp)
  have hv : v = .int n t' := hv
  subst hv
  exact ret t'
end
end
section
theorem on_Y2 : True := by
  k_with_none
  k_with "om2" => (lia)
  trivial
/-! loops within loops: what stood before the loop may hold iterators, and the turn is told what its own objects are -/
def NoItB (old : List Addr) (news : List (Addr × Obj)) : Prop := ∀ p ∈ news, itCls p.2 = false ∨ p.1 ∈ old
def OwnL (l : Addr) (own : List (Addr × Obj)) : Prop := (∀ p ∈ own, p.1 = l ∨ itCls p.2 = true) ∧ ∃ o, (l, o) ∈ own
def OwnR (own : List (Addr × Obj)) : Prop := ∀ p ∈ own, itCls p.2 = true
section
variable {prog : Program} {w : World} {A : Around} {E : Value → Shared → Prop} {s : Shared} {env : Env} {h₀ : Heap} {x : Str} {body : List Stmt} {Q : Flow → Shared → Prop}
theorem walk_J2 {I : Addr} {fp : List Addr} {n : Nat} {P : Nat → Value → Prop} {St : Nat → Heap → Prop} {m₀ : Str → Option Value} {news : List (Addr × Obj)} {s₂ : Shared} (old : List Addr)
    (J : Nat → (Str → Option Value) → List (Addr × Obj) → Prop) (W : Walks prog w A I fp [I] n P St) (hit : ∀ i h, St i h → ∃ o, h.get? I = some o ∧ itCls o = true)
    (hLf : env.locals ∉ fp) (hI : h₀.get? I = none) (hIo : I ∉ old) (hst : St 0 s₂.heap) (F : Fr h₀ env.locals s₂.heap m₀) (N : News h₀ env.locals s₂.heap news) (hj : J 0 m₀ news) (hno : ∀ i m n, J i m n → NoItB old n)
    (turn : ∀ i v m₁ news₁ h tk own, i < n → P i v → (∀ p ∈ own, p.1 ∈ fp) → (∀ p ∈ own, h.get? p.1 = some p.2) → (∀ b ∈ fp, h₀.get? b = none → ∀ o, h.get? b = some o → (b, o) ∈ own) → St (i + 1) h → J i m₁ news₁ → Fr h₀ env.locals h (fun y => if y = x then some v else m₁ y) → News h₀ env.locals h (own ++ news₁) →
      wpAny (model prog w) A (execs body env) (EndJ h₀ env.locals own (J (i + 1)) { s₂ with heap := h, toks := tk } Q) E { s₂ with heap := h, toks := tk })
    (done : ∀ m₁ news₁ h tk, J n m₁ news₁ → Fr h₀ env.locals h m₁ → News h₀ env.locals h news₁ → Q .next { s₂ with heap := h, toks := tk }) :
    LoopAtV prog w A h₀ env x body Q E (.ref I) s₂ := by
  have off : ∀ {i h n} {L : Addr} (_ : St i h) (_ : News h₀ L h n) (_ : NoItB old n), ∀ p ∈ n, p.1 ∉ [I] := fun st N no p hp hm => by
    obtain ⟨o, ho, hc⟩ := hit _ _ st
    have e := List.mem_singleton.mp hm
    rcases no p hp with z | z
    · have q := (N p hp).1
      rw [e, ho] at q
      have q := Option.some.inj q
      rw [← q, hc] at z; cases z
    · exact hIo (e ▸ z)
  refine ei9 I fp [I] n P St m₀ news J ⟨rfl, W, hLf, fun b hb => (List.mem_singleton.mp hb) ▸ hI, off hst N (hno _ _ _ hj), hst, F, N, hj, ?_, ?_⟩
  · rintro i v m₁ news₁ s₁ own ⟨h, tk, rfl⟩ hi hP hJ _ hsub hown hall hst₁ F₁ N₁
    refine wpAny_mono (turn i v m₁ news₁ h tk own hi hP hsub hown hall hst₁ hJ F₁ N₁) (fun f s₃ p => ?_) fun _ _ e => e
    have up : (∃ h' tk' m' news', s₃ = { s₂ with heap := h', toks := tk' } ∧ Fr h₀ env.locals h' m' ∧ News h₀ env.locals h' (own ++ news') ∧ J (i + 1) m' news') → LoopStepU h₀ env.locals [I] own (J (i + 1)) { s₂ with heap := h, toks := tk } .next s₃ := by
      rintro ⟨h', tk', m', news', rfl, F', N', j⟩
      refine ⟨rfl, h', tk', m', news', rfl, F', N', ?_, j⟩
      have hst' : St (i + 1) h' := W.frame _ _ _ hst₁ fun b hb o e => by
        cases hn : h₀.get? b with
        | some o₀ =>
          have : o₀ = o := by have := F₁.keep b o₀ hn; rw [e] at this; exact (Option.some.inj this).symm
          exact this ▸ F'.keep b o₀ hn
        | none => exact (N' _ (List.mem_append_left _ (hall b hb hn o e))).1
      exact off hst' (fun p hp => N' p (List.mem_append_right _ hp)) (hno _ _ _ j)
    cases f with
    | ret v => exact .ret p
    | brk => exact .brk p
    | next => exact .next (up p)
    | cont => exact .cont (up p)
  · rintro h' tk m' news' F' N' _ hJ
    exact done m' news' h' tk hJ F' N'
theorem new_off {h : Heap} {old : List Addr} (ha : ∀ a ∈ old, (h.get? a).isSome = true) : h.objs.size ∉ old := fun hm => by
  obtain ⟨o, ho⟩ := Option.isSome_iff_exists.mp (ha _ hm)
  exact absurd (Heap.lt_size ho) (Nat.lt_irrefl _)
theorem list_J2 {l : Nat} {vs : List Value} {m₀ : Str → Option Value} {news : List (Addr × Obj)} (old : List Addr) (J : Nat → (Str → Option Value) → List (Addr × Obj) → Prop)
    (hh : A.handled = none) (hl : s.heap.IsList l vs.toArray) (hlL : l ≠ env.locals) (hl0 : h₀.get? l = none) (F : Fr h₀ env.locals s.heap m₀) (N : News h₀ env.locals s.heap news) (ha : ∀ a ∈ old, (s.heap.get? a).isSome = true) (hj : J 0 m₀ news) (hno : ∀ i m n, J i m n → NoItB old n)
    (turn : ∀ i v m₁ news₁ h tk own, vs[i]? = some v → OwnL l own → J i m₁ news₁ → Fr h₀ env.locals h (fun y => if y = x then some v else m₁ y) → News h₀ env.locals h (own ++ news₁) →
      wpAny (model prog w) A (execs body env) (EndJ h₀ env.locals own (J (i + 1)) { s with heap := h, toks := tk } Q) E { s with heap := h, toks := tk })
    (done : ∀ m₁ news₁ h tk, J vs.length m₁ news₁ → Fr h₀ env.locals h m₁ → News h₀ env.locals h news₁ → Q .next { s with heap := h, toks := tk }) :
    wpAny (model prog w) A (pyIter (.ref l)) (fun it s₂ => LoopAtV prog w A h₀ env x body Q E it s₂) E s := by
  obtain ⟨ol, hol, _⟩ := id hl
  have hlt : l < s.heap.objs.size := Heap.lt_size hol
  have hne : l ≠ s.heap.objs.size := Nat.ne_of_lt hlt
  refine wpAny_pyIter_list hl ?_
  have W := Walks.list (prog := prog) (w := w) hh s.heap.objs.size l hne vs.toArray
  have e : vs.toArray.size = vs.length := by simp
  rw [e] at W
  refine walk_J2 old J W (fun i h st => ?_) ?_ (next_is_new F) (new_off ha) ⟨⟨_, Heap.get?_push_size _ rfl, rfl, rfl⟩, hl.at fun o e => Heap.get?_push_of_some _ e⟩ (F.push _) (fun p hp => ⟨Heap.get?_push_of_some _ (N p hp).1, (N p hp).2⟩) hj hno ?_ done
  · obtain ⟨⟨o, ho, hc, _⟩, _⟩ := st
    exact ⟨o, ho, by unfold itCls; rw [hc]; rfl⟩
  · intro hm
    rcases List.mem_cons.mp hm with e | hm
    · exact absurd F.ns.lt (e ▸ Nat.lt_irrefl _)
    · exact hlL (List.mem_singleton.mp hm).symm
  · intro i v m₁ news₁ h tk own hi hP hsub hown hall hst hJ F' N'
    refine turn i v m₁ news₁ h tk own (by simpa using hP) ⟨fun p hp => ?_, ?_⟩ hJ F' N'
    · rcases List.mem_cons.mp (hsub p hp) with e | e
      · right
        obtain ⟨⟨o, ho, hc, _⟩, _⟩ := hst
        have q := hown p hp
        rw [e, ho] at q
        rw [← Option.some.inj q]
        unfold itCls; rw [hc]; rfl
      · exact .inl (List.mem_singleton.mp e)
    · obtain ⟨_, ⟨o, ho, _⟩⟩ := hst
      exact ⟨o, hall l (.tail _ (.head _)) hl0 o ho⟩
theorem range_J2 {r : Addr} {a₀ b₀ : Int} {t₀ u₀ v₀ : Tok} {n : Nat} {m₀ : Str → Option Value} {news : List (Addr × Obj)} (old : List Addr) (J : Nat → (Str → Option Value) → List (Addr × Obj) → Prop)
    (hh : A.handled = none) (hr : IsRange s.heap r a₀ b₀ 1 t₀ u₀ v₀) (hsmall : Builtin.Range.small a₀ b₀ 1 = true) (hn : Builtin.Range.rangeSize a₀ b₀ 1 = (n : Int)) (F : Fr h₀ env.locals s.heap m₀) (N : News h₀ env.locals s.heap news) (ha : ∀ a ∈ old, (s.heap.get? a).isSome = true) (hj : J 0 m₀ news) (hno : ∀ i m n, J i m n → NoItB old n)
    (turn : ∀ (i : Nat) t m₁ news₁ h tk own, i < n → OwnR own → J i m₁ news₁ → Fr h₀ env.locals h (fun y => if y = x then some (.int (a₀ + i) t) else m₁ y) → News h₀ env.locals h (own ++ news₁) →
      wpAny (model prog w) A (execs body env) (EndJ h₀ env.locals own (J (i + 1)) { s with heap := h, toks := tk } Q) E { s with heap := h, toks := tk })
    (done : ∀ m₁ news₁ h tk, J n m₁ news₁ → Fr h₀ env.locals h m₁ → News h₀ env.locals h news₁ → Q .next { s with heap := h, toks := tk }) :
    wpAny (model prog w) A (pyIter (.ref r)) (fun it s₂ => LoopAtV prog w A h₀ env x body Q E it s₂) E s := by
  refine wpAny_pyIter_range hr hsmall ?_
  have W := Walks.range (prog := prog) (w := w) hh s.heap.objs.size a₀ 1 n
  refine walk_J2 old J W (fun i h st => ?_) ?_ (next_is_new F) (new_off ha) (by rw [hn]; simpa using Heap.get?_push_size _ rfl) (F.push _) (fun p hp => ⟨Heap.get?_push_of_some _ (N p hp).1, (N p hp).2⟩) hj hno ?_ done
  · exact ⟨_, st, rfl⟩
  · intro hm
    exact absurd F.ns.lt ((List.mem_singleton.mp hm) ▸ Nat.lt_irrefl _)
  · rintro i v m₁ news₁ h tk own hi ⟨t, rfl⟩ hsub hown hall hst hJ F₁ N₁
    have e1 : a₀ + (i : Int) * 1 = a₀ + (i : Int) := by omega
    rw [e1] at F₁
    refine turn i t m₁ news₁ h tk own hi (fun p hp => ?_) hJ F₁ N₁
    have q := hown p hp
    have hst : h.get? s.heap.objs.size = some _ := hst
    rw [List.mem_singleton.mp (hsub p hp), hst] at q
    rw [← Option.some.inj q]
    rfl
end
section
variable {prog : Program} {w : World} {A : Around} {E : Value → Shared → Prop} {s : Shared} {env : Env} {h₀ : Heap} {x : Str} {body : List Stmt} {Q : Flow → Shared → Prop} {σ : Type}
theorem list_K2 {l : Nat} {vs : List Value} {m₀ : Str → Option Value} (old : List Addr) (Led : σ → List (Addr × Obj)) (ps : σ → List (Str × Value)) (stored : List Str) (P : Nat → σ → Prop) (c₀ : σ)
    (hh : A.handled = none) (hl : s.heap.IsList l vs.toArray) (hlL : l ≠ env.locals) (hl0 : h₀.get? l = none) (F : Fr h₀ env.locals s.heap m₀) (N : News h₀ env.locals s.heap (Led c₀)) (ha : ∀ a ∈ old, (s.heap.get? a).isSome = true) (hp : P 0 c₀) (hk : ∀ p ∈ ps c₀, m₀ p.1 = some p.2)
    (hno : ∀ i c, P i c → NoItB old (Led c))
    (turn : ∀ i v (c : σ) (u : Str → Option Value) h tk own, vs[i]? = some v → OwnL l own → P i c → Fr h₀ env.locals h (fun y => if y = x then some v else kstB (fun z => if stored.contains z then u z else m₀ z) (ps c) y) → News h₀ env.locals h (Led c ++ own) →
      wpAny (model prog w) A (execs body env) (EndJ h₀ env.locals own (KJ Led ps x stored m₀ P (i + 1)) { s with heap := h, toks := tk } Q) E { s with heap := h, toks := tk })
    (done : ∀ (c : σ) (u : Str → Option Value) h tk, P vs.length c → Fr h₀ env.locals h (fun y => if y = x then u y else kstB (fun z => if stored.contains z then u z else m₀ z) (ps c) y) → News h₀ env.locals h (Led c) → Q .next { s with heap := h, toks := tk }) :
    wpAny (model prog w) A (pyIter (.ref l)) (fun it s₂ => LoopAtV prog w A h₀ env x body Q E it s₂) E s := by
  refine list_J2 old (KJ Led ps x stored m₀ P) hh hl hlL hl0 F N ha ⟨c₀, rfl, hp, hk, fun _ _ _ _ => rfl⟩ ?_ ?_ ?_
  · rintro i m n ⟨c, rfl, h1, _⟩
    exact hno i c h1
  · rintro i v m₁ nx h tk own hv ho ⟨c, rfl, hp', h1, h2⟩ F₁ N₁
    exact turn i v c m₁ h tk own hv ho hp' (kst_fr h1 h2 F₁) (own_last N₁)
  · rintro m₁ nx h tk ⟨c, rfl, hp', h1, h2⟩ F₁ N₁
    exact done c m₁ h tk hp' (kst_frOut h1 h2 F₁) N₁
theorem range_K2 {r : Addr} {a₀ b₀ : Int} {t₀ u₀ v₀ : Tok} {n : Nat} {m₀ : Str → Option Value} (old : List Addr) (Led : σ → List (Addr × Obj)) (ps : σ → List (Str × Value)) (stored : List Str) (P : Nat → σ → Prop) (c₀ : σ)
    (hh : A.handled = none) (hr : IsRange s.heap r a₀ b₀ 1 t₀ u₀ v₀) (hsmall : Builtin.Range.small a₀ b₀ 1 = true) (hn : Builtin.Range.rangeSize a₀ b₀ 1 = (n : Int)) (F : Fr h₀ env.locals s.heap m₀) (N : News h₀ env.locals s.heap (Led c₀)) (ha : ∀ a ∈ old, (s.heap.get? a).isSome = true) (hp : P 0 c₀) (hk : ∀ p ∈ ps c₀, m₀ p.1 = some p.2)
    (hno : ∀ i c, P i c → NoItB old (Led c))
    (turn : ∀ (i : Nat) t (c : σ) (u : Str → Option Value) h tk own, i < n → OwnR own → P i c → Fr h₀ env.locals h (fun y => if y = x then some (.int (a₀ + i) t) else kstB (fun z => if stored.contains z then u z else m₀ z) (ps c) y) → News h₀ env.locals h (Led c ++ own) →
      wpAny (model prog w) A (execs body env) (EndJ h₀ env.locals own (KJ Led ps x stored m₀ P (i + 1)) { s with heap := h, toks := tk } Q) E { s with heap := h, toks := tk })
    (done : ∀ (c : σ) (u : Str → Option Value) h tk, P n c → Fr h₀ env.locals h (fun y => if y = x then u y else kstB (fun z => if stored.contains z then u z else m₀ z) (ps c) y) → News h₀ env.locals h (Led c) → Q .next { s with heap := h, toks := tk }) :
    wpAny (model prog w) A (pyIter (.ref r)) (fun it s₂ => LoopAtV prog w A h₀ env x body Q E it s₂) E s := by
  refine range_J2 old (KJ Led ps x stored m₀ P) hh hr hsmall hn F N ha ⟨c₀, rfl, hp, hk, fun _ _ _ _ => rfl⟩ ?_ ?_ ?_
  · rintro i m n ⟨c, rfl, h1, _⟩
    exact hno i c h1
  · rintro i t m₁ nx h tk own hi ho ⟨c, rfl, hp', h1, h2⟩ F₁ N₁
    exact turn i t c m₁ h tk own hi ho hp' (kst_fr h1 h2 F₁) (own_last N₁)
  · rintro m₁ nx h tk ⟨c, rfl, hp', h1, h2⟩ F₁ N₁
    exact done c m₁ h tk hp' (kst_frOut h1 h2 F₁) N₁
end
theorem ownL_off {h₀ h : Heap} {L l : Addr} {own led : List (Addr × Obj)} (N : News h₀ L h (led ++ own)) (ho : OwnL l own) {b : Addr} {o : Obj} (hb : (b, o) ∈ led) (hc : itCls o = false) (hl : b ≠ l) : ∀ p ∈ own, p.1 ≠ b := fun p hp e => by
  rcases ho.1 p hp with q | q
  · exact hl (e.symm.trans q)
  · have h1 := (N p (List.mem_append_right _ hp)).1
    have h2 : h.get? b = some o := (N (b, o) (List.mem_append_left _ hb)).1
    rw [e, h2] at h1
    rw [← Option.some.inj h1, hc] at q
    cases q
end
section
theorem on_Y3 : True := by
  k_with_none
  trivial
/-! the world, aged: the history's dict is a new one -/
abbrev reA (a : Ad) (S : Nat) (f : Nat → Nat) : Ad := ⟨a.Gd, a.G, a.P, a.Ch, a.V, a.Ck, a.Dr, a.No, a.Ga, a.Kd, a.Kx, a.F1, a.F2, a.Hd, a.Hx, S, a.Cd, a.Cx, a.R, a.D0, a.Pl, a.D2, a.Tb, a.Rc, a.Rw, a.hh, a.kk, f, a.l, a.pl, a.T, a.chv, a.vav, a.nov, a.gav⟩
abbrev agS (σ : St) (o : Obj) (kvs : List (Int × Value)) : St := { σ with so := o, skv := kvs, sc := ageC σ.sc }
def preA (a : Ad) : List Addr := [a.Ch, a.V, a.No, a.Ga, a.Rw, a.Gd, a.G, a.P, a.Hd, a.Hx, a.Kd, a.Kx, a.F1, a.F2, a.Cd, a.Cx, a.R, a.Tb, a.D0, a.Pl, a.D2, a.Rc]
theorem fix_pre (a : Ad) : a.fix = preA a ++ [a.S] := rfl
theorem pre_fix {a : Ad} {b : Addr} (h : b ∈ preA a) : b ∈ a.fix := List.mem_append_left _ h
def wHd (a : Ad) (S n : Nat) : Obj := dictOf [⟨a.hh 11, .str (Str.ofString "limit") (a.kk 11), .int a.l (a.kk 21)⟩, ⟨a.hh 12, .str (Str.ofString "scores") (a.kk 12), .ref S⟩] n
def reF (a : Ad) (n : Nat) : Nat → Nat := fun i => if i = 6 then n else a.nn i
section
variable {w : World} {a : Ad} {σ : St}
theorem aged_at {H h' : Heap} {S n : Nat} {o : Obj} {kvs : List (Int × Value)} (hA : AllAt H (WL a σ)) (hord : Ord a) (hoff : ∀ p ∈ σ.imm, p.1 ∉ a.fix) (K : Kept [a.Hd] H h') (hg : h'.get? S = some o) (hh : h'.get? a.Hd = some (wHd a S n)) :
    AllAt h' (WL (reA a S (reF a n)) (agS σ o kvs)) := by
  have o1 := hord.o1
  have o2 := hord.o2
  have oS := hord.oS
  have key : ∀ p ∈ WX a σ, @Ne Nat p.1 a.Hd → h'.get? p.1 = some p.2 := fun p hp hn => K _ _ (hA p (wx hp)) fun q => hn (List.mem_singleton.mp q)
  intro p hp0
  rcases List.mem_append.mp hp0 with hp | hp
  · clear hp0
    revert p
    show ∀ p ∈ roL a ++ ((a.Rw, rwO a) :: (gaL a σ ++ ((a.Hd, wHd a S n) :: (a.Hx, instObj 117 a.Hd) :: (kiL a σ ++ (cnL a σ ++ (reL a σ ++ [(S, o)])))))), h'.get? p.1 = some p.2
    simp only [roL, gaL, gameL, kiL, killL, cnL, cntL, reL, List.cons_append, List.nil_append]
    repeat (refine all_cons (by first | exact hh | exact hg | exact key _ (by k_mem) (by dsimp only; omega)) ?_)
    exact List.forall_mem_nil _
  · exact K _ _ (hA p (wim hp)) fun q => hoff p hp (by rw [List.mem_singleton.mp q]; unfold Ad.fix; k_mem)
theorem aged_wb {H : Heap} {S n : Nat} {o : Obj} {kvs : List (Int × Value)} (hA : AllAt H (WL a σ)) (h : WB w a σ) (hS : H.get? S = none) (hlow : (S == sysModules) = false) (hi : intD w o kvs (ageC σ.sc)) :
    WB w (reA a S (reF a n)) (agS σ o kvs) := by
  have hne : ∀ b ∈ a.fix, b ≠ S := fun b hb e => by
    obtain ⟨p, hp, e'⟩ := fix_in σ hb
    have := hA p hp
    rw [e', e, hS] at this; cases this
  have hnp : ∀ b ∈ preA a, b ≠ S := fun b hb => hne b (pre_fix hb)
  have q1 := h.ord.oS
  refine { ord := ⟨h.ord.o1, h.ord.o2, ⟨(hnp a.Hd (by unfold preA; k_mem)).symm, (hnp a.Hx (by unfold preA; k_mem)).symm, (hnp a.Kd (by unfold preA; k_mem)).symm, (hnp a.Kx (by unfold preA; k_mem)).symm, (hnp a.F1 (by unfold preA; k_mem)).symm, (hnp a.F2 (by unfold preA; k_mem)).symm⟩, ?_, hlow, h.ord.lR, h.ord.l0, h.ord.l2, h.ord.lim, h.ord.pls⟩, rws := ⟨h.rws.n, h.rws.va, h.rws.nva, h.rws.lch, h.rws.ch, h.rws.no, h.rws.ga, h.rws.lens, h.rws.kids, h.rws.vals⟩, off := ?_, path := h.path, k1 := h.k1, k2 := h.k2, e1 := h.e1, e2 := h.e2, hi := hi, wsc := ageC_wf h.wsc, cn := h.cn, wrc := h.wrc, t0 := h.t0, t2 := h.t2, lpl := h.lpl, noit := h.noit, kb := h.kb }
  · show (preA a ++ [S]).Nodup
    have nd : (preA a ++ [a.S]).Nodup := h.ord.nd
    refine List.nodup_append.mpr ⟨(List.nodup_append.mp nd).1, List.nodup_cons.mpr ⟨fun z => (nomatch z), List.nodup_nil⟩, fun b hb c hc e => ?_⟩
    exact hnp b hb (e.trans (List.mem_singleton.mp hc))
  · intro p hp hm
    rcases List.mem_append.mp (show p.1 ∈ preA a ++ [S] from hm) with z | z
    · exact h.off p hp (pre_fix z)
    · have := hA p (wim hp)
      rw [List.mem_singleton.mp z, hS] at this; cases this
theorem age_W (h : WB w a σ) : Con w 114 [.ref a.Hx] (WL a σ) [] [a.Hd] 3 12
    (fun H r h' => r = .none ∧ ∃ (S n : Nat) (o : Obj) (kvs : List (Int × Value)), WB w (reA a S (reF a n)) (agS σ o kvs) ∧ AllAt h' (WL (reA a S (reF a n)) (agS σ o kvs)) ∧ H.get? S = none) := by
  have q := h.ord.o1
  have l := h.ord.lim
  refine ((history_age_ok (l := a.l) (t4 := a.kk 21) (k1 := a.kk 11) (k2 := a.kk 12) (Hd := a.Hd) (Hx := a.Hx) (hh1 := a.hh 11) (hh2 := a.hh 12) (n := a.nn 6) h.hi h.wsc (by omega) h.ord.lS (by omega) ⟨h.ord.oS.1, h.ord.oS.2.1⟩).frame (wxs sub_hi) (fun _ h => nomatch h)).post fun H r h' hA K p => ?_
  obtain ⟨rfl, S, o, kvs, n, hS, hlow, hgS, hI, hgH⟩ := p
  exact ⟨rfl, S, n, o, kvs, aged_wb hA h hS hlow hI, aged_at hA h.ord h.off K hgS hgH, hS⟩
theorem aged_news {g h h' : Heap} {L : Addr} {m : Str → Option Value} {S n : Nat} {o : Obj} {kvs : List (Int × Value)} {news own : List (Addr × Obj)} (F : Fr g L h m) (N : News g L h news) (hs : ∀ p ∈ WL a σ, p ∈ news) (how : ∀ p ∈ own, p ∈ news) (K : Kept [a.Hd] h h') (hoff : ∀ p ∈ own, p.1 ∉ a.fix)
    (hA : AllAt h' (WL (reA a S (reF a n)) (agS σ o kvs))) (hS : h.get? S = none) : News g L h' (WL (reA a S (reF a n)) (agS σ o kvs) ++ own) ∧ ∀ p ∈ own, p.1 ∉ (reA a S (reF a n)).fix := by
  refine ⟨fun p hp => ?_, fun p hp hm => ?_⟩
  · rcases List.mem_append.mp hp with hp | hp
    · by_cases e : p.1 = S
      · exact news_made (a := p.1) (o := p.2) F (e ▸ hS) (hA p hp) News.nil p (.head _)
      · refine ⟨hA p hp, ?_⟩
        rcases WL_addr hp with z | z
        · rcases List.mem_append.mp (show p.1 ∈ preA a ++ [S] from z) with z | z
          · obtain ⟨q, hq, e'⟩ := fix_in σ (pre_fix z)
            exact e' ▸ (N q (hs q hq)).2
          · exact absurd (List.mem_singleton.mp z) e
        · exact (N p (hs p (wim z))).2
    · exact ⟨K _ _ (N p (how p hp)).1 (fun z => hoff p hp (by rw [List.mem_singleton.mp z]; unfold Ad.fix; k_mem)), (N p (how p hp)).2⟩
  · rcases List.mem_append.mp (show p.1 ∈ preA a ++ [S] from hm) with z | z
    · exact hoff p hp (pre_fix z)
    · have := (N p (how p hp)).1
      rw [List.mem_singleton.mp z, hS] at this; cases this
theorem own_fix {g h : Heap} {L l : Addr} {own : List (Addr × Obj)} (N : News g L h (WL a σ ++ own)) (hW : WB w a σ) (ho : OwnL l own) (hl : l ∉ a.fix) : ∀ p ∈ own, p.1 ∉ a.fix := fun p hp hm => by
  obtain ⟨q, hq, e⟩ := fix_in σ hm
  exact ownL_off N ho (b := q.1) (o := q.2) hq (noIt_WL hW q hq) (fun z => hl (by rw [← z, e]; exact hm)) p hp e.symm
theorem led_step {g h h' : Heap} {L : Addr} {m : Str → Option Value} {σ' : St} {own news : List (Addr × Obj)} {wr : List Addr} (F : Fr g L h m) (N : News g L h news) (hs : ∀ p ∈ WL a σ, p ∈ news) (how : ∀ p ∈ own, p ∈ news) (K : Kept wr h h') (hw : ∀ b ∈ wr, b ∈ a.fix) (ho : ∀ p ∈ own, p.1 ∉ a.fix) (S : Step a h σ h' σ') : News g L h' (WL a σ' ++ own) := fun p hp =>
  step_news2 (ow := own) F N hs how K (fun q hq z => ho q hq (hw _ z)) S p (by
    rcases List.mem_append.mp hp with hp | hp
    · exact List.mem_append_right _ hp
    · exact List.mem_append_left _ hp)
theorem WB.withT0 {o : Obj} {xs : TT} (h : WB w a σ) (t : TD w σ.imm o xs) : WB w a { σ with d0 := o, xs := xs } := { h with t0 := t }
theorem wr_sub : ∀ b ∈ wrW a, b ∈ a.fix := fun _ hb => wr_fix hb
/-- one of the fixed objects changed, its object told -/
theorem led_set {g h h' : Heap} {L : Addr} {m : Str → Option Value} {σ' : St} {own news : List (Addr × Obj)} {b : Addr} {ob : Obj} (j : Nat) (F : Fr g L h m) (N : News g L h news) (hs : ∀ p ∈ WL a σ, p ∈ news) (how : ∀ p ∈ own, p ∈ news) (hW : WB w a σ) (K : Kept [b] h h') (ho : ∀ p ∈ own, p.1 ∉ a.fix) (hb : b ∈ a.fix) (hj : a.fix[j]? = some b) (hg : h'.get? b = some ob)
    (e : WX a σ' = (WX a σ).set j (b, ob)) (hi : σ'.imm = σ.imm) : News g L h' (WL a σ' ++ own) :=
  led_step F N hs how K (fun _ z => List.mem_singleton.mp z ▸ hb) ho
    (step_set [(j, b, ob)] hW.ord.nd hW.off (fun p hp => (N p (hs p hp)).1) K e (List.forall_mem_singleton.mpr ⟨hb, _, .head _, rfl⟩) (List.forall_mem_singleton.mpr ⟨hj, hg⟩) hi)
end
end
section
theorem on_Y4 : True := by
  k_with_none
  k_with "om2" => (lia)
  trivial
/-! law's first loop, plain -/
theorem plain_bd {T : Tre} (hv : ∀ v ∈ T.va, -20 ≤ v ∧ v ≤ 20) (hn : T.va.length = T.ch.length) (hk : ∀ i, i < T.ch.length → ∀ c ∈ T.ch.getD i [], 0 ≤ c ∧ c < T.ch.length) : ∀ (d node : Nat), node < T.ch.length → -20 ≤ plainM T d node ∧ plainM T d node ≤ 20 := by
  have leaf : ∀ node, node < T.ch.length → -20 ≤ T.va.getD node 0 ∧ T.va.getD node 0 ≤ 20 := fun node h => hv _ (getD_inI (xs := T.va) (by omega))
  intro d
  induction d with
  | zero => intro node h; exact leaf node h
  | succ d ih =>
    intro node h
    by_cases e : T.ch.getD node [] = []
    · rw [plain_leaf (.inr e)]; exact leaf node h
    · obtain ⟨c, hc, q⟩ := plain_in (d := d) e
      have hc2 := hk node h c hc
      have := ih c.toNat (by omega)
      rw [q]; omega
theorem spec_root {v t : Int} (h : Spec v (-1000) 1000 t) (hb : -20 ≤ t ∧ t ≤ 20) : v = t := by
  obtain ⟨h1, h2, h3, h4⟩ := h
  by_cases q1 : v ≤ -1000
  · have := h1 q1; omega
  · by_cases q2 : 1000 ≤ v
    · have := h2 q2; omega
    · exact h3 (by omega) (by omega)
theorem clrK_len {f : List Int} {p : Int} : (clrK f p).length = f.length := by unfold clrK; rw [List.length_set]
theorem clrK_kb {f : List Int} {p : Int} (h : ∀ x ∈ f, 0 ≤ x ∧ x ≤ 3) : ∀ x ∈ clrK f p, 0 ≤ x ∧ x ≤ 3 := fun x hx => by
  rcases List.mem_or_eq_of_mem_set hx with q | q
  · exact h x q
  · rw [q]; decide
theorem clrK_get {f : List Int} {p : Int} (i : Nat) : (clrK f p).getD i 0 = if i = p.toNat then 0 else f.getD i 0 := by
  unfold clrK
  rw [List.getD_eq_getElem?_getD, List.getD_eq_getElem?_getD, List.getElem?_set]
  by_cases e : p.toNat = i
  · rw [if_pos e, if_pos e.symm]
    split <;> rfl
  · rw [if_neg e, if_neg (fun q => e q.symm)]
theorem clrK_far {f : List Int} {p : Int} (h : (f.length : Int) ≤ p) : clrK f p = f := List.set_eq_of_length_le (by omega)
abbrev stT0 (σ : St) (o : Obj) (xs : TT) : St := { σ with d0 := o, xs := xs }
abbrev stCl (σ : St) (p : Int) (vs1 : List Value) (n1 : Nat) (vs2 : List Value) (n2 : Nat) : St := { σ with vs1 := vs1, n1 := n1, f1 := clrK σ.f1 p, vs2 := vs2, n2 := n2, f2 := clrK σ.f2 p }
abbrev stZ (σ : St) (plv : List Value) (npl : Nat) (Z : Addr) (o : Obj) : St := { σ with plv := plv, npl := npl, imm := σ.imm ++ [(Z, o)] }
section
variable {w : World} {a : Ad} {σ : St}
theorem WB.t0S {o : Obj} {xs : TT} (h : WB w a σ) (t : TD w σ.imm o xs) : WB w a (stT0 σ o xs) := h.withT0 t
theorem WB.cleared (h : WB w a σ) {p : Int} {vs1 vs2 : List Value} {n1 n2 : Nat} (i1 : IntsAre vs1 (clrK σ.f1 p)) (i2 : IntsAre vs2 (clrK σ.f2 p)) :
    WB w a { σ with vs1 := vs1, n1 := n1, f1 := clrK σ.f1 p, vs2 := vs2, n2 := n2, f2 := clrK σ.f2 p } :=
  ⟨h.ord, h.rws, h.off, h.path, i1, i2, by (show ((clrK σ.f1 p).length : Int) = a.pl); rw [clrK_len]; exact h.e1, by (show ((clrK σ.f2 p).length : Int) = a.pl); rw [clrK_len]; exact h.e2, h.hi, h.wsc, h.cn, h.wrc, h.t0, h.t2, h.lpl, h.noit, ⟨clrK_kb h.kb.1, clrK_kb h.kb.2⟩⟩
theorem clear_S (h : WB w a σ) {ply : Int} {t1 : Tok} (hp : 0 ≤ ply ∧ ply ≤ 20) : Con w 156 [.ref a.Kx, .int ply t1] (WL a σ) [] [a.F1, a.F2] 2 8
    (fun H r h' => r = .none ∧ ∃ vs1 n1 vs2 n2, Step a H σ h' (stCl σ ply vs1 n1 vs2 n2) ∧ WB w a (stCl σ ply vs1 n1 vs2 n2)) :=
  (clear_W h hp).post fun H r h' _ _ p => by
    obtain ⟨rfl, vs1, n1, vs2, n2, S, i1, i2⟩ := p
    exact ⟨rfl, vs1, n1, vs2, n2, S, h.cleared i1 i2⟩
theorem WB.withPl (h : WB w a σ) {Z k npl : Nat} {zs plv : List Value} (hZ : (Z : Addr) ∉ a.fix) (hl : plv.length = σ.plv.length) : WB w a (stZ σ plv npl Z (listOf zs.toArray k)) :=
  have hs : ∀ p ∈ σ.imm, p ∈ σ.imm ++ [((Z : Addr), listOf zs.toArray k)] := fun p hp => List.mem_append_left _ hp
  ⟨h.ord, h.rws.mono hs, fun p hp => (List.mem_append.mp hp).elim (h.off p) fun q => by rw [List.mem_singleton.mp q]; exact hZ, h.path, h.k1, h.k2, h.e1, h.e2, h.hi, h.wsc, h.cn, h.wrc, h.t0.mono hs, h.t2.mono hs, by (show (plv.length : Int) = a.pl); rw [hl]; exact h.lpl, noIt_app h.noit (noIt_cons (by rfl) noIt_nil), h.kb⟩
end
theorem prs_clear {imm : List (Addr × Obj)} {plv zs : List Value} {f1 f2 : List Int} {k q : Int} {Z zk : Nat} (h : Prs imm plv f1 f2) (hk : 0 ≤ k) (hq1 : (f1.length : Int) ≤ q) (hq2 : (f2.length : Int) ≤ q) (hz : IntsAre zs [0, 0]) :
    Prs (imm ++ [((Z : Addr), listOf zs.toArray zk)]) (plv.set k.toNat (.ref Z)) (clrK (clrK f1 k) q) (clrK (clrK f2 k) q) := fun i hi => by
  rw [List.length_set] at hi
  rw [clrK_far (f := clrK f1 k) (p := q) (by rw [clrK_len]; exact hq1), clrK_far (f := clrK f2 k) (p := q) (by rw [clrK_len]; exact hq2), clrK_get, clrK_get]
  by_cases e : i = k.toNat
  · subst e
    rw [if_pos rfl, if_pos rfl]
    refine ⟨Z, zs, zk, ?_, List.mem_append_right _ (.head _), hz⟩
    rw [List.getElem?_set, if_pos rfl, if_pos hi]
  · rw [if_neg e, if_neg e]
    obtain ⟨pa, vs, kk, h1, h2, h3⟩ := h i hi
    refine ⟨pa, vs, kk, ?_, List.mem_append_left _ h2, h3⟩
    rw [List.getElem?_set, if_neg (fun z => e z.symm)]
    exact h1
theorem fr_names {g h : Heap} {L : Addr} {m : Str → Option Value} {ps : List (Str × Value)} (F : Fr g L h m) (hk : ∀ p ∈ ps, m p.1 = some p.2) : Fr g L h (kstB m ps) := by
  have e : kstB m ps = m := funext fun z => kstB_eq hk (fun _ => rfl)
  rw [e]; exact F
theorem led_imm {g h : Heap} {L Z : Addr} {a : Ad} {σ : St} {o : Obj} {own : List (Addr × Obj)} (N : News g L h (WL a σ ++ own)) (hz : News g L h [(Z, o)]) : News g L h (WL a { σ with imm := σ.imm ++ [(Z, o)] } ++ own) := fun p hp => by
  rcases List.mem_append.mp hp with hp | hp
  · rcases List.mem_append.mp hp with hp | hp
    · exact N p (List.mem_append_left _ (wx hp))
    · rcases List.mem_append.mp hp with hp | hp
      · exact N p (List.mem_append_left _ (wim hp))
      · exact hz p hp
  · exact N p (List.mem_append_right _ hp)
theorem td_len_us {w : World} {imm : List (Addr × Obj)} {o : Obj} {xs : TT} {us : List TU} (h : TD w imm o xs) (e : us.map (·.2.2) = xs.map (·.1)) : us.length < 64 := by
  have := h.len
  have := congrArg List.length e
  simp only [List.length_map] at this
  omega
theorem td_two {w : World} {imm : List (Addr × Obj)} {o : Obj} {xs : TT} {us : List TU} (h : TD w imm o xs) (e : us.map (·.2.2) = xs.map (·.1)) : ∀ u ∈ us, u.2.2.length = 1 + 1 := fun u hu => by
  have : u.2.2 ∈ xs.map (·.1) := e ▸ List.mem_map_of_mem (f := fun u : TU => u.2.2) hu
  obtain ⟨x, hx, q⟩ := List.mem_map.mp this
  obtain ⟨_, s, m, z, _⟩ := h.good x hx
  rw [← q, z]; rfl
/-- the names that law's loops read -/
def lawNames (a : Ad) (low : Int) (t1 t2 t3 : Tok) : List (Str × Value) := [(Str.ofString "ok", .bool true), (Str.ofString "low", .int low t1), (Str.ofString "records", .ref a.Rc), (Str.ofString "counters", .ref a.Cx), (Str.ofString "killers", .ref a.Kx), (Str.ofString "history", .ref a.Hx), (Str.ofString "tables", .ref a.Tb), (Str.ofString "plies", .int a.pl t2), (Str.ofString "limit", .int a.l t3), (Str.ofString "game", .ref a.G), (Str.ofString "children", .ref a.Ch), (Str.ofString "values", .ref a.V), (Str.ofString "rows", .ref a.Rw)]
theorem head_addr {g h : Heap} {L l : Addr} {o : Obj} {r : List (Addr × Obj)} (_N : News g L h ((l, o) :: r)) : ∃ b : Addr, b = l := ⟨l, rfl⟩
theorem lt_off {a : Ad} {σ : St} {Tr : Addr} (q : ∀ p ∈ WL a σ, p.1 < Tr) : Tr ∉ a.fix := fun hx => by
  obtain ⟨p, hp, e⟩ := fix_in σ hx
  have := q p hp
  rw [e] at this
  exact absurd this (Nat.lt_irrefl _)
theorem lt_offA {a : Ad} {σ : St} {Tr : Addr} {own : List (Addr × Obj)} (q : AllLt Tr (WL a σ ++ own)) : Tr ∉ a.fix := lt_off (a := a) (σ := σ) (of_allLtA q)
theorem lt_offB {a : Ad} {σ : St} {Tr : Addr} {own : List (Addr × Obj)} (q : ∀ p ∈ WL a σ ++ own, p.1 < Tr) : Tr ∉ a.fix := lt_off (a := a) (σ := σ) fun p hp => q p (List.mem_append_left _ hp)
def stPl (σ : St) (plv : List Value) (npl : Nat) : St := { σ with plv := plv, npl := npl }
theorem pl_fix {a : Ad} : a.Pl ∈ a.fix := by unfold Ad.fix; k_mem
theorem d0_fix {a : Ad} : a.D0 ∈ a.fix := by unfold Ad.fix; k_mem
theorem led_d0 {w : World} {a : Ad} {σ : St} {g h h' : Heap} {L : Addr} {m : Str → Option Value} {own news : List (Addr × Obj)} {o : Obj} {xs : TT} (F : Fr g L h m) (N : News g L h news) (hs : ∀ p ∈ WL a σ, p ∈ news) (how : ∀ p ∈ own, p ∈ news) (hW : WB w a σ) (K : Kept [a.D0] h h') (ho : ∀ p ∈ own, p.1 ∉ a.fix) (hg : h'.get? a.D0 = some o) :
    News g L h' (WL a (stT0 σ o xs) ++ own) :=
  led_set (b := a.D0) (ob := o) 18 F N hs how hW K ho d0_fix rfl hg rfl rfl
theorem led_pl {w : World} {a : Ad} {σ : St} {g h h' : Heap} {L : Addr} {m : Str → Option Value} {own news : List (Addr × Obj)} {plv : List Value} {npl : Nat} {Z : Addr} {o : Obj} (F : Fr g L h m) (N : News g L h news) (hs : ∀ p ∈ WL a σ, p ∈ news) (how : ∀ p ∈ own, p ∈ news) (hW : WB w a σ) (K : Kept [a.Pl] h h') (ho : ∀ p ∈ own, p.1 ∉ a.fix) (hg : h'.get? a.Pl = some (listOf plv.toArray npl))
    (hz : News g L h [(Z, o)]) (hZ : Z ∉ a.fix) : News g L h' (WL a (stZ σ plv npl Z o) ++ own) :=
  have hb : a.Pl ∈ a.fix := pl_fix
  have h1 : News g L h' (WL a (stPl σ plv npl) ++ own) := led_set (σ' := stPl σ plv npl) (b := a.Pl) (ob := listOf plv.toArray npl) 19 F N hs how hW K ho hb rfl hg rfl rfl
  have hz' := hz _ (.head _)
  have h2 : News g L h' [(Z, o)] := fun p hp => by
    rw [List.mem_singleton.mp hp]
    exact ⟨K _ _ hz'.1 (fun z => hZ (by rw [show Z = a.Pl from List.mem_singleton.mp z]; exact hb)), hz'.2⟩
  led_imm (σ := stPl σ plv npl) h1 h2
end
section
theorem on_Z1 : True := by
  k_with_none
  k_with "om2" => (lia)
  trivial
/-! law -/
theorem slice_16 (vs : List Value) : kms_pick vs.toArray.toList none (some 16) = vs.take 16 := by
  unfold kms_pick kms_lo kms_hi
  simp only [Nat.sub_zero, List.drop_zero, List.toList_toArray]
  rw [if_neg (by decide)]
  have e : (16 : Int).toNat = 16 := rfl
  rw [e, ← List.take_eq_take_min]
theorem ints_take {vs : List Value} {ns : List Int} (h : IntsAre vs ns) : ∀ {n : Nat}, IntsAre (vs.take n) (ns.take n) := by
  induction h with
  | nil => intro n; simp; exact .nil
  | cons k t r ih =>
    intro n
    cases n with
    | zero => exact .nil
    | succ n => exact .cons k t ih
theorem law_same {K : Frag} {f : Addr} {oc dV kV doc pm cdv ct : Value} {od an : Option Addr} {osl : Array (Option Value)} {name qual : Str} {params : Arguments} {body : List Stmt} {scope : Scope} {oc' dV' kV' doc' pm' cdv' ct' : Value} {od' an' : Option Addr} {osl' : Array (Option Value)} {name' qual' : Str} {params' : Arguments} {body' : List Stmt} {scope' : Scope}
    (h1 : K.lookup f = some ⟨oc, od, .func (fnOf name qual params body scope dV kV doc pm an cdv ct), osl⟩) (h2 : K.lookup f = some ⟨oc', od', .func (fnOf name' qual' params' body' scope' dV' kV' doc' pm' an' cdv' ct'), osl'⟩) : body = body' ∧ scope = scope' := by
  rw [h1] at h2
  unfold fnOf at h2
  simp only [Option.some.injEq, Obj.mk.injEq, Data.func.injEq, FuncData.mk.injEq, FuncBody.stmts.injEq] at h2
  exact ⟨by simp_all, by simp_all⟩
end
section
theorem on_Y5 : True := by
  k_with_none
  k_with "om0" => (first | with_reducible assumption | exact cj0 (by with_reducible assumption) | exact cj1 (by with_reducible assumption) | exact cj2 (by with_reducible assumption) | exact cj3 (by with_reducible assumption) | exact cj4 (by with_reducible assumption) | exact cj5 (by with_reducible assumption) | exact cj6 (by with_reducible assumption) | exact cj7 (by with_reducible assumption) | exact cj8 (by with_reducible assumption) | exact cj9 (by with_reducible assumption) | exact cj10 (by with_reducible assumption) | exact cj11 (by with_reducible assumption) | exact cj12 (by with_reducible assumption) | exact ce1 (by with_reducible assumption) | exact ce2 (by with_reducible assumption) | exact ce3 (by with_reducible assumption) | exact ce4 (by with_reducible assumption) | exact ce5 (by with_reducible assumption) | exact ce6 (by with_reducible assumption) | exact ce7 (by with_reducible assumption) | exact ce8 (by with_reducible assumption) | exact ce9 (by with_reducible assumption) | exact ce10 (by with_reducible assumption) | exact ce11 (by with_reducible assumption) | exact ce12 (by with_reducible assumption))
  k_with "om2" => (first | k_extra "om0" | ((with_reducible refine Nat.ne_of_lt ?_); k_extra "om0") | ((with_reducible refine Nat.ne_of_gt ?_); k_extra "om0") | ((with_reducible refine Ne.symm ?_); k_extra "om0") | ((with_reducible refine' Nat.lt_of_le_of_lt (Nat.add_le_add_left ?p9 _) ?q9); (case q9 => with_reducible assumption); (case p9 => decide)) | ((with_reducible refine' Nat.le_trans ?p9 ?q9); (case p9 => k_extra "om0"); (case q9 => decide)) | ((with_reducible refine' Nat.lt_of_le_of_lt ?p9 ?q9); (case p9 => k_extra "om0"); (case q9 => decide)) | ((with_reducible refine' Int.le_trans ?p9 ?q9); (case p9 => k_extra "om0"); (case q9 => decide)) | ((with_reducible refine' Int.le_trans ?p9 ?q9); (case q9 => k_extra "om0"); (case p9 => decide)) | ((with_reducible refine' Int.lt_of_le_of_lt ?p9 ?q9); (case p9 => k_extra "om0"); (case q9 => decide)) | ((with_reducible refine' Int.lt_of_lt_of_le ?p9 ?q9); (case q9 => k_extra "om0"); (case p9 => decide)) | ((with_reducible refine And.intro ?_ ?_) <;> omega) | lia)
  trivial
/-! law's first loop, walked -/
set_option genInjectivity false
set_option genSizeOf false
structure DS where
  S : Nat
  f : Nat → Nat
  s : St
structure HS where
  o : Obj
  xs : TT
set_option genInjectivity true
set_option genSizeOf true
def AtI {α : Type} (n : Nat) (l : List α) (x : α) : Prop := l[n]? = some x
theorem AtI.eq {α : Type} {n : Nat} {l : List α} {x y : α} (h : AtI n l x) (e : l[n]? = some y) : x = y := Option.some.inj (h.symm.trans e)
theorem two_three {ta tb : Tok} {i : Nat} {v : Value} (h : [Value.int 2 ta, Value.int 3 tb][i]? = some v) : ∃ (d : Nat) (td : Tok), (d = 2 ∨ d = 3) ∧ v = .int (d : Int) td := by
  match i, h with
  | 0, h => exact ⟨2, ta, .inl rfl, (Option.some.inj h).symm⟩
  | 1, h => exact ⟨3, tb, .inr rfl, (Option.some.inj h).symm⟩
  | i + 2, h => exact absurd h (by simp)
theorem us_at {us : List TU} {i : Nat} {v : Value} (h : (us.map tuR)[i]? = some v) : ∃ (ua : Addr) (uv : List Value) (uk : List Int), us[i]? = some (ua, uv, uk) ∧ v = .ref ua := by
  rw [List.getElem?_map] at h
  obtain ⟨u, hu, rfl⟩ := Option.map_eq_some_iff.mp h
  exact ⟨u.1, u.2.1, u.2.2, hu, rfl⟩
theorem items_ints {w : World} {vs : List Value} {ks : List Int} (h : IntsAre vs ks) : ItemsAre (knT w) ks vs := by
  induction h with
  | nil => exact .nil
  | cons n t _ ih => exact .cons (intKind_is _ _ _ _) ih
theorem mem_rc {a : Ad} {σ : St} : (a.Rc, tupO [.ref a.D0, .ref a.Pl, .ref a.D2]) ∈ WL a σ := wx (sub_re _ (.tail _ (.tail _ (.tail _ (.tail _ (.head _))))))
theorem mem_d0 {a : Ad} {σ : St} : (a.D0, σ.d0) ∈ WL a σ := wx (sub_re _ (.tail _ (.head _)))
theorem mem_pl {a : Ad} {σ : St} : (a.Pl, listOf σ.plv.toArray σ.npl) ∈ WL a σ := wx (sub_re _ (.tail _ (.tail _ (.head _))))
theorem fdiv_two {n : Int} (h : 1 ≤ n ∧ n ≤ 3) : 0 ≤ n.fdiv 2 ∧ n.fdiv 2 < n := by
  rw [Int.fdiv_eq_ediv_of_nonneg _ (by decide)]; omega
theorem sq_le {n : Int} (h : -3 ≤ n ∧ n ≤ 3) : 0 ≤ n * n ∧ n * n ≤ 9 := by
  have : n = -3 ∨ n = -2 ∨ n = -1 ∨ n = 0 ∨ n = 1 ∨ n = 2 ∨ n = 3 := by omega
  rcases this with rfl | rfl | rfl | rfl | rfl | rfl | rfl <;> decide
theorem hd_us {w : World} {imm : List (Addr × Obj)} {o : Obj} {xs xs₀ : TT} {k : List Int} (h : TD w imm o xs) (e : xs.map (·.1) = xs₀.map (·.1)) (hk : k ∈ xs₀.map (·.1)) : ∃ s m : Int, k = [s, m] ∧ (0 ≤ s ∧ s ≤ 1) ∧ 0 ≤ m ∧ m ≤ 3 := by
  rw [← e] at hk
  obtain ⟨x, hx, rfl⟩ := List.mem_map.mp hk
  obtain ⟨_, s, m, z, h1, h2⟩ := h.good x hx
  exact ⟨s, m, z, h1, h2⟩
set_option maxHeartbeats 8000000 in
theorem law_depths {w : World} {oc dV kV doc pm cdv ct : Value} {od an : Option Addr} {osl : Array (Option Value)} {name qual : Str} {params : Arguments} {body : List Stmt} {scope : Scope} {st : Stmt}
    (ho : (hd.heap_39 w.params).lookup 394 = some ⟨oc, od, .func (fnOf name qual params body scope dV kV doc pm an cdv ct), osl⟩) (hst : AtI 12 body st) {dp un : Nat} {gd : Option (List Code)} {cn : Str} {aa : Addr} {ccd : Value} {A₀ : Around} {h₀ : Heap} {L : Nat} {s : Shared} {mean : ExcName → Option Value} {mg mb : Str → Option Value} {Q : Flow → Shared → Prop} {m₀ : Str → Option Value} {a : Ad} {σ : St} {low : Int} {t1 t2 t3 : Tok}
    (B : Below A₀ h₀ [] h₀) (X : (hd.heap_39 w.params).In h₀) (T : Top hd.view_39 (looseW hd.view_39 []) mean mg mb h₀) (hD : dp + 100 < recursionLimit) (hU : un + 600 < cLine) (hW : WF w a σ) (hN : AtN a σ 0 0) (hlow : -3 ≤ low ∧ low ≤ 3)
    (F : Fr h₀ L s.heap m₀) (N : News h₀ L s.heap (WL a σ)) (hk : ∀ p ∈ lawNames a low t1 t2 t3, m₀ p.1 = some p.2)
    (ret : ∀ (S : Nat) (f : Nat → Nat) (σ' : St) h' tk' m', WF w (reA a S f) σ' → Fr h₀ L h' m' → News h₀ L h' (WL (reA a S f) σ') → (∀ p ∈ lawNames a low t1 t2 t3, m' p.1 = some p.2) → Q .next { s with heap := h', toks := tk' }) :
    wpAny (model PySem.Challenge.rw_nt0425_01.row.prog w) (ktrTop dp un gd cn scope L aa ccd [] []) (exec st (envOf cn scope L aa ccd)) Q (fun _ _ => False) s := by
  have hs := law_same ho (by k_is)
  obtain ⟨hb, hs⟩ := hs
  subst hb hs
  clear ho
  have hst' := hst.eq rfl
  clear hst
  subst hst'
  have F := fr_names F hk
  clear hk
  have hpls := hW.ord.pls
  have hp2 := fdiv_two hpls
  have hsq := sq_le hlow
  have hB : Bx (WF w a σ) := ⟨hW⟩
  have hNB : Bx (AtN a σ 0 0) := ⟨hN⟩
  clear hW hN
  dsimp only [lawNames, kstB] at F
  refine (let m9 : Str → Option Value := _; (fun (F : Fr _ _ _ m9) => ?_) F)
  k_whole
  (try k_fold)
  k_with_none
  k_with "storeName" => (k_dflt (k_here; refine' store2 ?F ?N ?_ ?a ?b; (case F => k_asm); (case N => k_asm); (case a => rfl); (case b => rfl); k_whole; intro h' tk' F' N'; refine (let m9 : Str → Option Value := _; (fun (F' : Fr _ _ _ m9) => ?_) F'); (try k_sweep)))
  k_with "eval Constant int" => (k_dflt (first | with_reducible refine const_int3 ?_ | refine const_int3 ?_))
  k_with "binaryOp Add int int" => (k_dflt (first | with_reducible refine add_int3 ?_ | refine add_int3 ?_))
  k_with "binaryOp Sub int int" => (k_dflt (first | with_reducible refine sub_int3 ?_ | refine sub_int3 ?_))
  k_with "unaryOp USub int" => (k_dflt (first | with_reducible refine neg_int3 ?_ | refine neg_int3 ?_))
  k_with "om0" => (first | with_reducible assumption | exact cj0 (by with_reducible assumption) | exact cj1 (by with_reducible assumption) | exact cj2 (by with_reducible assumption) | exact cj3 (by with_reducible assumption) | exact cj4 (by with_reducible assumption) | exact cj5 (by with_reducible assumption) | exact cj6 (by with_reducible assumption) | exact cj7 (by with_reducible assumption) | exact cj8 (by with_reducible assumption) | exact cj9 (by with_reducible assumption) | exact cj10 (by with_reducible assumption) | exact cj11 (by with_reducible assumption) | exact cj12 (by with_reducible assumption) | exact ce1 (by with_reducible assumption) | exact ce2 (by with_reducible assumption) | exact ce3 (by with_reducible assumption) | exact ce4 (by with_reducible assumption) | exact ce5 (by with_reducible assumption) | exact ce6 (by with_reducible assumption) | exact ce7 (by with_reducible assumption) | exact ce8 (by with_reducible assumption) | exact ce9 (by with_reducible assumption) | exact ce10 (by with_reducible assumption) | exact ce11 (by with_reducible assumption) | exact ce12 (by with_reducible assumption))
  k_with "om2" => (first | k_extra "om0" | ((with_reducible refine Nat.ne_of_lt ?_); k_extra "om0") | ((with_reducible refine Nat.ne_of_gt ?_); k_extra "om0") | ((with_reducible refine Ne.symm ?_); k_extra "om0") | ((with_reducible refine' Nat.lt_of_le_of_lt (Nat.add_le_add_left ?p9 _) ?q9); (case q9 => with_reducible assumption); (case p9 => decide)) | ((with_reducible refine' Nat.le_trans ?p9 ?q9); (case p9 => k_extra "om0"); (case q9 => decide)) | ((with_reducible refine' Nat.lt_of_le_of_lt ?p9 ?q9); (case p9 => k_extra "om0"); (case q9 => decide)) | ((with_reducible refine' Int.le_trans ?p9 ?q9); (case p9 => k_extra "om0"); (case q9 => decide)) | ((with_reducible refine' Int.le_trans ?p9 ?q9); (case q9 => k_extra "om0"); (case p9 => decide)) | ((with_reducible refine' Int.lt_of_le_of_lt ?p9 ?q9); (case p9 => k_extra "om0"); (case q9 => decide)) | ((with_reducible refine' Int.lt_of_lt_of_le ?p9 ?q9); (case q9 => k_extra "om0"); (case p9 => decide)) | ((with_reducible refine And.intro ?_ ?_) <;> omega) | lia)
  k_with "pyIter ref" => (k_dflt (((rename News _ _ _ _ => N9); (rename Fr _ _ _ _ => F9); obtain ⟨lA, hlA⟩ := head_addr N9; subst hlA; refine' list_K2 (σ := DS) (vs := [Value.int 2 _, Value.int 3 _]) [] (fun c => WL (reA a c.S c.f) c.s) (fun _ => lawNames a low t1 t2 t3) ["value", "same", "at", "old"] (fun _ c => WF w (reA a c.S c.f) c.s ∧ AtN (reA a c.S c.f) c.s 0 0 ∧ lA ∉ (reA a c.S c.f).fix) ⟨a.S, a.nn, σ⟩ ?zhh (News.isList N9 (.head _)) ?zhlL ?zhl0 F9 (fun p hp => N9 p (.tail _ hp)) (fun _ h => nomatch h) ?zhp ?zhk ?zhno ?zturn ?zdone; (case zhh => exact rfl); (case zhlL => exact (N9 _ (.head _)).2.1); (case zhl0 => exact (N9 _ (.head _)).2.2); (case zhp => exact ⟨hB.out, hNB.out, lt_off (a := a) (σ := σ) (by assumption)⟩); (case zhk => exact names_rfl rfl); (case zhno => exact fun i c hP p hp => .inl (noIt_WL hP.1.toWB p hp)); (case' zturn => (clear F9 N9 hB hNB; intro i v c u h9 tk9 own hv ho hP F' N'; (try dsimp only); k_fold; refine an3 hP fun hWc hNc hlc => ?_; clear hP; obtain ⟨d, td, hd3, rfl⟩ := two_three hv; have hd4 : d ≤ 3 := (by omega); have hof := own_fix N' hWc.toWB ho hlc; (dsimp only [kstB, lawNames] at F' N' ⊢; refine (let m9 : Str → Option Value := _; (fun (F' : Fr _ _ _ m9) => ?_) F')))); (case' zdone => (clear F9 N9 hB hNB; intro c u h9 tk9 hP F' N'; refine (let m9 : Str → Option Value := _; (fun (F' : Fr _ _ _ m9) => ?_) F'))))))
  k_with "call ref" => (k_dflt ((rename News _ _ _ _ => N9); (rename Fr _ _ _ _ => F9); (try k_fold); refine' con_use (seek_all (a := reA a c.S c.f) d hd4 (node := 0) hWc hNc rfl rfl ?x1 ?x2 ?x3) ?k1 ?k2 ?k3 ?k4 ?k5 ?kK ?ks ?kt ?kd ?ku ?_; (case k1 => k_asm); (case k2 => k_asm); (case k3 => k_asm); (case k4 => k_asm); (case k5 => k_asm); (case kK => exact rfl); (case ks => (intro p9 hp9; repeat (first | exact hp9 | exact List.mem_append_left _ hp9 | exact List.mem_append_right _ hp9 | refine List.mem_append_left _ ?_ | refine List.Mem.tail _ ?_))); (case kt => exact List.forall_mem_nil _); (case kd => omega); (case ku => omega); (case x1 => omega); (case x2 => omega); (case x3 => omega); k_whole; intro r9 h' tk' F' K9 p9; obtain ⟨v1, σ1, ra, tv, rfl, hnr, hgr, hS1, hW1, hp1, hSp⟩ := p9; have N' := news_made F9 hnr hgr (led_step (own := own) F9 N9 (by (intro p9 hp9; repeat (first | exact hp9 | exact List.mem_append_left _ hp9 | exact List.mem_append_right _ hp9 | refine List.mem_append_left _ ?_ | refine List.Mem.tail _ ?_))) (by (intro p9 hp9; repeat (first | exact hp9 | exact List.mem_append_left _ hp9 | exact List.mem_append_right _ hp9 | refine List.mem_append_left _ ?_ | refine List.Mem.tail _ ?_))) K9 wr_sub hof hS1); obtain rfl := spec_root hSp (plain_bd hWc.rws.vals hWc.rws.nva hWc.rws.kids d 0 hNc.lt); have hN1 := hNc.of_path hp1; clear hSp hS1; (try dsimp only); (try k_sweep)))
  k_with "assign Tuple" => (k_dflt (((rename News _ _ _ _ => N9); (rename Fr _ _ _ _ => F9); refine' unpackN_ F9 N9 (tup_is (vs := [.int (plainM (reA a c.S c.f).T d 0) tv, .bool true]) (News.get N9 (a := ra) (.head _))) ?k1 ?k2 ?k3 ?_; (case k1 => exact rfl); (case k2 => exact rfl); (case k3 => exact rfl); k_whole; intro h' F' N'; (try k_sweep))))
  k_with "call ref" => (k_dflt ((rename News _ _ _ _ => N9); (rename Fr _ _ _ _ => F9); (try k_fold); refine' con_use0 (plain_all (a := reA a c.S c.f) d hd4 hW1.toWB ?y1 rfl rfl) ?k1 ?k2 ?k3 ?k4 ?k5 ?kK ?ks ?kt ?kd ?ku ?_; (case k1 => k_asm); (case k2 => k_asm); (case k3 => k_asm); (case k4 => k_asm); (case k5 => k_asm); (case kK => exact rfl); (case ks => (intro p9 hp9; repeat (first | exact hp9 | exact List.mem_append_left _ hp9 | exact List.mem_append_right _ hp9 | refine List.mem_append_left _ ?_ | refine List.Mem.tail _ ?_))); (case kt => exact List.forall_mem_nil _); (case kd => omega); (case ku => omega); (case y1 => exact hNc.lt); k_whole; intro r9 h' tk' F' N' p9; obtain ⟨t9, rfl⟩ := p9; (try dsimp only); (try k_sweep)))
  k_with "call ref" => (k_dflt (((rename News _ _ _ _ => N9); (rename Fr _ _ _ _ => F9); (try k_fold); refine' con_use (age_W (a := reA a c.S c.f) hW1.toWB) ?k1 ?k2 ?k3 ?k4 ?k5 ?kK ?ks ?kt ?kd ?ku ?_; (case k1 => k_asm); (case k2 => k_asm); (case k3 => k_asm); (case k4 => k_asm); (case k5 => k_asm); (case kK => exact rfl); (case ks => (intro p9 hp9; repeat (first | exact hp9 | exact List.mem_append_left _ hp9 | exact List.mem_append_right _ hp9 | refine List.mem_append_left _ ?_ | refine List.Mem.tail _ ?_))); (case kt => exact List.forall_mem_nil _); (case kd => omega); (case ku => omega); k_whole; intro r9 h' tk' F' K9 p9; obtain ⟨rfl, S2, n2, o2, kvs2, hW2, hA2, hS2⟩ := p9; obtain ⟨N', hof2⟩ := aged_news (own := own) F9 N9 (by (intro p9 hp9; repeat (first | exact hp9 | exact List.mem_append_left _ hp9 | exact List.mem_append_right _ hp9 | refine List.mem_append_left _ ?_ | refine List.Mem.tail _ ?_))) (by (intro p9 hp9; repeat (first | exact hp9 | exact List.mem_append_left _ hp9 | exact List.mem_append_right _ hp9 | refine List.mem_append_left _ ?_ | refine List.Mem.tail _ ?_))) K9 hof hA2 hS2; have hl2 : lA ∉ ((reA (reA a c.S c.f) S2 (reF (reA a c.S c.f) n2))).fix := (by obtain ⟨_, oq, hq⟩ := ho; exact hof2 _ hq); clear hA2 hS2; (try dsimp only); (try k_sweep))))
  k_with "subscriptTail" => (k_dflt (((with_reducible show wpAny _ _ (subscriptTail (Expr.Name (Str.ofString "records") _) (Expr.Constant (Const.int 0) _ _) _ _) _ _ _); (rename News _ _ _ _ => N9); refine my_tup (l := [.ref a.D0, .ref a.Pl, .ref a.D2]) (j := 0) (tup_is (N9 (a.Rc, tupO [.ref a.D0, .ref a.Pl, .ref a.D2]) (by (repeat (first | exact mem_rc | exact mem_d0 | exact mem_pl | exact hp9 | exact List.mem_append_right _ hp9 | refine List.mem_append_left _ ?_ | refine List.Mem.tail _ ?_)))).1) (by decide) rfl ?_)))
  k_with "subscriptTail" => (k_dflt (((with_reducible show wpAny _ _ (subscriptTail (Expr.Name (Str.ofString "records") _) (Expr.Constant (Const.int 1) _ _) _ _) _ _ _); (rename News _ _ _ _ => N9); refine my_tup (l := [.ref a.D0, .ref a.Pl, .ref a.D2]) (j := 1) (tup_is (N9 (a.Rc, tupO [.ref a.D0, .ref a.Pl, .ref a.D2]) (by (repeat (first | exact mem_rc | exact mem_d0 | exact mem_pl | exact hp9 | exact List.mem_append_right _ hp9 | refine List.mem_append_left _ ?_ | refine List.Mem.tail _ ?_)))).1) (by decide) rfl ?_)))
  k_with "call builtin:sorted" => (k_dflt ((((rename News _ _ _ _ => N9); (rename Fr _ _ _ _ => F9); obtain ⟨us, hus1, hus2⟩ := td_us σ1.xs hW1.t0.keys; obtain ⟨es, ep, hR, hek⟩ := hW1.t0.raw (d := a.D0) (N9 (a.D0, σ1.d0) (by (repeat (first | exact mem_rc | exact mem_d0 | exact mem_pl | exact hp9 | exact List.mem_append_right _ hp9 | refine List.mem_append_left _ ?_ | refine List.Mem.tail _ ?_)))).1; have hus3 := us_key hus1; refine' sorted_dict (us := us) (k := 1) hW1.ord.l0 ?zh F9 N9 hR ?ze ?z64 ?zT ?zI ?zk ?_; (case zh => exact rfl); (case ze => exact hek.trans (us_ref hus1).symm); (case z64 => exact td_len_us hW1.t0 hus3); (case zT => exact (by intro h F N u hu; obtain ⟨_, ok, n, hm, hc, hd⟩ := hus2 u hu; exact ⟨ok, n, (N (u.1, ok) (by have hp9 := wim (a := (reA (reA a c.S c.f) S2 (reF (reA a c.S c.f) n2))) (σ := agS σ1 o2 kvs2) hm; exact (by (repeat (first | exact mem_rc | exact mem_d0 | exact mem_pl | exact hp9 | exact List.mem_append_right _ hp9 | refine List.mem_append_left _ ?_ | refine List.Mem.tail _ ?_))))).1, hc, hd⟩)); (case zI => exact fun u hu => (hus2 u hu).1); (case zk => exact td_two hW1.t0 hus3); k_whole; intro Dk ck h' tk' us' hpm F' N' hlt))))
  k_with "pyIter ref" => (k_dflt ((((rename News _ _ _ _ => N9); (rename Fr _ _ _ _ => F9); have hlt9 : ∀ p ∈ WL (reA (reA a c.S c.f) S2 (reF (reA a c.S c.f) n2)) (agS σ1 o2 kvs2), @LT.lt Nat _ p.1 Dk := (fun p hp => hlt p (by revert p; (intro p9 hp9; repeat (first | exact hp9 | exact List.mem_append_left _ hp9 | exact List.mem_append_right _ hp9 | refine List.mem_append_left _ ?_ | refine List.Mem.tail _ ?_)))); have hDk : Dk ∉ ((reA (reA a c.S c.f) S2 (reF (reA a c.S c.f) n2))).fix := lt_off (a := (reA (reA a c.S c.f) S2 (reF (reA a c.S c.f) n2))) (σ := agS σ1 o2 kvs2) hlt9; refine' list_K2 (σ := HS) (vs := us'.map tuR) (own.map (·.1)) (fun e => WL (reA (reA a c.S c.f) S2 (reF (reA a c.S c.f) n2)) (stT0 (agS σ1 o2 kvs2) e.o e.xs) ++ own) (fun _ => []) ["old"] (fun i e => TD w σ1.imm e.o e.xs ∧ Halved σ1.xs e.xs ((us'.take i).map (·.2.2))) ⟨σ1.d0, σ1.xs⟩ ?yhh (News.isList N9 (a := Dk) (.head _)) ?yhlL ?yhl0 F9 (fun p hp => N9 p (by revert p; (intro p9 hp9; repeat (first | exact hp9 | exact List.mem_append_left _ hp9 | exact List.mem_append_right _ hp9 | refine List.mem_append_left _ ?_ | refine List.Mem.tail _ ?_)))) ?yha ⟨hW1.t0, Halved.start⟩ (fun _ h => nomatch h) ?yhno ?yturn ?ydone; (case yhh => exact rfl); (case yhlL => exact (N9 _ (.head _)).2.1); (case yhl0 => exact (N9 _ (.head _)).2.2); (case yha => exact (by intro b hb; obtain ⟨p, hp, rfl⟩ := List.mem_map.mp hb; rw [(N9 p (by have hp9 := hp; exact (by (repeat (first | exact mem_rc | exact mem_d0 | exact mem_pl | exact hp9 | exact List.mem_append_right _ hp9 | refine List.mem_append_left _ ?_ | refine List.Mem.tail _ ?_))))).1]; rfl)); (case yhno => exact fun i e hP p hp => (List.mem_append.mp hp).elim (fun q => .inl (noIt_WL (hW2.t0S hP.1) p q)) fun q => .inr (List.mem_map_of_mem q)); (case' yturn => (clear F9 N9; intro j v e u h9 tk9 own2 hv2 ho2 hP F' N'; (try dsimp only); k_fold; obtain ⟨hT, hH⟩ := hP; have hnd : (us'.map (·.2.2)).Nodup := (hpm.map (·.2.2)).nodup_iff.mpr (hus3 ▸ hW1.t0.nodup); obtain ⟨ua, uv, uk, hu0, rfl⟩ := us_at hv2; obtain ⟨hI0, ok0, n0, hm0, hc0, hd0⟩ := hus2 _ (hpm.mem_iff.mp (List.mem_of_getElem? hu0)); have hk0 : uk ∈ σ1.xs.map (·.1) := hus3 ▸ List.mem_map_of_mem (f := fun u : TU => u.2.2) (hpm.mem_iff.mp (List.mem_of_getElem? hu0)); obtain ⟨sd, mm, rfl, hsd, hmm⟩ := hd_us hT hH.1 hk0; have hW3 := hW2.t0S hT; have tk0 : TupKeyObj (knT w) [sd, mm] ok0 := ⟨hc0, _, n0, hd0, items_ints hI0⟩; have hlk := TD.look (k := [sd, mm]) hT; have hof3 := own_fix (a := (reA (reA a c.S c.f) S2 (reF (reA a c.S c.f) n2))) (own := own2) (fun p hp => N' p ((List.mem_append.mp hp).elim (fun q => List.mem_append_left _ (List.mem_append_left _ q)) fun q => List.mem_append_right _ q)) hW3 ho2 hDk; (dsimp only [kstB] at F' N' ⊢; refine (let m9 : Str → Option Value := _; (fun (F' : Fr _ _ _ m9) => ?_) F')))); (case' ydone => (clear F9 N9; intro e u h9 tk9 hP F' N'; obtain ⟨hT, hH⟩ := hP; have hW3 := hW2.t0S hT; (dsimp only [kstB] at F' N' ⊢; refine (let m9 : Str → Option Value := _; (fun (F' : Fr _ _ _ m9) => ?_) F'))))))))
  k_with "subscriptTail" => (k_dflt ((((with_reducible show wpAny _ _ (subscriptTail (Expr.Name (Str.ofString "_") _) _ _ _) _ _ _); (rename News _ _ _ _ => N9); refine' my_itemT hT ?ju (N9 (a.D0, e.o) (by (repeat (first | exact mem_rc | exact mem_d0 | exact mem_pl | exact hp9 | exact List.mem_append_right _ hp9 | refine List.mem_append_left _ ?_ | refine List.Mem.tail _ ?_)))).1 ?ji (N9 (ua, ok0) (by have hp9 := wim (a := (reA (reA a c.S c.f) S2 (reF (reA a c.S c.f) n2))) (σ := (stT0 (agS σ1 o2 kvs2) e.o e.xs)) hm0; exact (by (repeat (first | exact mem_rc | exact mem_d0 | exact mem_pl | exact hp9 | exact List.mem_append_right _ hp9 | refine List.mem_append_left _ ?_ | refine List.Mem.tail _ ?_))))).1 tk0 ?jh ?_; (case ju => (show un + 1 < cLine); omega); (case ji => exact fun p hp => (N9 p (by have hp9 := wim (a := (reA (reA a c.S c.f) S2 (reF (reA a c.S c.f) n2))) (σ := (stT0 (agS σ1 o2 kvs2) e.o e.xs)) hp; exact (by (repeat (first | exact mem_rc | exact mem_d0 | exact mem_pl | exact hp9 | exact List.mem_append_right _ hp9 | refine List.mem_append_left _ ?_ | refine List.Mem.tail _ ?_))))).1); (case jh => exact hH.1 ▸ hk0); intro t9))))
  k_with "setItem ref ref" => (k_dflt ((((rename News _ _ _ _ => N9); (rename Fr _ _ _ _ => F9); refine' my_setT (imm' := σ1.imm) hT F9 N9 (by (repeat (first | exact mem_rc | exact mem_d0 | exact mem_pl | exact hp9 | exact List.mem_append_right _ hp9 | refine List.mem_append_left _ ?_ | refine List.Mem.tail _ ?_))) ?ji ?ju (N9 (ua, ok0) (by have hp9 := wim (a := (reA (reA a c.S c.f) S2 (reF (reA a c.S c.f) n2))) (σ := (stT0 (agS σ1 o2 kvs2) e.o e.xs)) hm0; exact (by (repeat (first | exact mem_rc | exact mem_d0 | exact mem_pl | exact hp9 | exact List.mem_append_right _ hp9 | refine List.mem_append_left _ ?_ | refine List.Mem.tail _ ?_))))).1 tk0 (fun _ hp => hp) hm0 ?jv hsd hmm ?_; (case ju => (show un + 1 < cLine); omega); (case ji => exact fun p hp => (N9 p (by have hp9 := wim (a := (reA (reA a c.S c.f) S2 (reF (reA a c.S c.f) n2))) (σ := (stT0 (agS σ1 o2 kvs2) e.o e.xs)) hp; exact (by (repeat (first | exact mem_rc | exact mem_d0 | exact mem_pl | exact hp9 | exact List.mem_append_right _ hp9 | refine List.mem_append_left _ ?_ | refine List.Mem.tail _ ?_))))).1); (case jv => first | (rw [half_pos (by assumption)]; exact age_bound hlk) | (rw [half_neg (by assumption)]; exact age_bound hlk)); intro h' o9 F' K9 hg9 hT9; (first | rw [half_pos (by assumption)] at hT9 | rw [half_neg (by assumption)] at hT9); obtain ⟨xs9, hT9, hH9⟩ : ∃ xs9, TD w σ1.imm o9 xs9 ∧ Halved σ1.xs xs9 ((us'.take (j + 1)).map (·.2.2)) := ⟨_, hT9, hH.step hnd hu0 hk0 rfl⟩; have N' := led_d0 (a := (reA (reA a c.S c.f) S2 (reF (reA a c.S c.f) n2))) (σ := (stT0 (agS σ1 o2 kvs2) e.o e.xs)) (xs := xs9) (own := own ++ own2) F9 N9 (by (intro p9 hp9; repeat (first | exact hp9 | exact List.mem_append_left _ hp9 | exact List.mem_append_right _ hp9 | refine List.mem_append_left _ ?_ | refine List.Mem.tail _ ?_))) (fun p hp => (List.mem_append.mp hp).elim (fun q => List.mem_append_left _ (List.mem_append_right _ q)) fun q => List.mem_append_right _ q) hW3 K9 (fun p hp => (List.mem_append.mp hp).elim (hof2 p) (hof3 p)) hg9))))
  k_with "call ref" => (k_dflt ((rename News _ _ _ _ => N9); (rename Fr _ _ _ _ => F9); (try k_fold); refine' con_use (clear_S (a := (reA (reA a c.S c.f) S2 (reF (reA a c.S c.f) n2))) (σ := (stT0 (agS σ1 o2 kvs2) e.o e.xs)) hW3 ?x1) ?k1 ?k2 ?k3 ?k4 ?k5 ?kK ?ks ?kt ?kd ?ku ?_; (case k1 => k_asm); (case k2 => k_asm); (case k3 => k_asm); (case k4 => k_asm); (case k5 => k_asm); (case kK => exact rfl); (case ks => (intro p9 hp9; repeat (first | exact hp9 | exact List.mem_append_left _ hp9 | exact List.mem_append_right _ hp9 | refine List.mem_append_left _ ?_ | refine List.Mem.tail _ ?_))); (case kt => exact List.forall_mem_nil _); (case kd => omega); (case ku => omega); (case x1 => omega); k_whole; intro r9 h' tk' F' K9 p9; obtain ⟨rfl, vs1, n1, vs2, n3, hS4, hW4⟩ := p9; have N' := led_step (own := own) F9 N9 (by (intro p9 hp9; repeat (first | exact hp9 | exact List.mem_append_left _ hp9 | exact List.mem_append_right _ hp9 | refine List.mem_append_left _ ?_ | refine List.Mem.tail _ ?_))) (by (intro p9 hp9; repeat (first | exact hp9 | exact List.mem_append_left _ hp9 | exact List.mem_append_right _ hp9 | refine List.mem_append_left _ ?_ | refine List.Mem.tail _ ?_))) K9 (by (first | (refine sub_of ?_; (repeat (first | refine List.Sublist.cons_cons _ ?_ | ((fail_if_success exact List.nil_sublist _); refine List.Sublist.cons _ ?_))); exact List.nil_sublist _) | ((repeat (refine all_cons (by k_mem) ?_)); exact List.forall_mem_nil _))) hof2 hS4; clear hS4; (try dsimp only); (try k_sweep)))
  k_with "call ref" => (k_dflt ((rename News _ _ _ _ => N9); (rename Fr _ _ _ _ => F9); (try k_fold); refine' con_use (clear_S (a := (reA (reA a c.S c.f) S2 (reF (reA a c.S c.f) n2))) hW4 ?x1) ?k1 ?k2 ?k3 ?k4 ?k5 ?kK ?ks ?kt ?kd ?ku ?_; (case k1 => k_asm); (case k2 => k_asm); (case k3 => k_asm); (case k4 => k_asm); (case k5 => k_asm); (case kK => exact rfl); (case ks => (intro p9 hp9; repeat (first | exact hp9 | exact List.mem_append_left _ hp9 | exact List.mem_append_right _ hp9 | refine List.mem_append_left _ ?_ | refine List.Mem.tail _ ?_))); (case kt => exact List.forall_mem_nil _); (case kd => omega); (case ku => omega); (case x1 => omega); k_whole; intro r9 h' tk' F' K9 p9; obtain ⟨rfl, vs3, n4, vs4, n5, hS5, hW5⟩ := p9; have N' := led_step (own := own) F9 N9 (by (intro p9 hp9; repeat (first | exact hp9 | exact List.mem_append_left _ hp9 | exact List.mem_append_right _ hp9 | refine List.mem_append_left _ ?_ | refine List.Mem.tail _ ?_))) (by (intro p9 hp9; repeat (first | exact hp9 | exact List.mem_append_left _ hp9 | exact List.mem_append_right _ hp9 | refine List.mem_append_left _ ?_ | refine List.Mem.tail _ ?_))) K9 (by (first | (refine sub_of ?_; (repeat (first | refine List.Sublist.cons_cons _ ?_ | ((fail_if_success exact List.nil_sublist _); refine List.Sublist.cons _ ?_))); exact List.nil_sublist _) | ((repeat (refine all_cons (by k_mem) ?_)); exact List.forall_mem_nil _))) hof2 hS5; clear hS5; (try dsimp only); (try k_sweep)))
  k_with "setItem ref int" => (k_dflt ((((rename News _ _ _ _ => N9); (rename Fr _ _ _ _ => F9); obtain ⟨Z, hZ⟩ := head_addr N9; subst hZ; have hZf : Z ∉ ((reA (reA a c.S c.f) S2 (reF (reA a c.S c.f) n2))).fix := (by first | exact lt_offB (by assumption) | exact lt_offA (by assumption)); refine' my_store (D := a.Pl) F9 N9 (by (repeat (first | exact mem_rc | exact mem_d0 | exact mem_pl | exact hp9 | exact List.mem_append_right _ hp9 | refine List.mem_append_left _ ?_ | refine List.Mem.tail _ ?_))) (by omega) (by omega) ?jl ?_; (case jl => (have q := hW5.lpl; exact q ▸ hp2.2)); intro h' F' K9 hg9; have N' := led_pl (a := (reA (reA a c.S c.f) S2 (reF (reA a c.S c.f) n2))) (own := own) F9 N9 (by (intro p9 hp9; repeat (first | exact hp9 | exact List.mem_append_left _ hp9 | exact List.mem_append_right _ hp9 | refine List.mem_append_left _ ?_ | refine List.Mem.tail _ ?_))) (by (intro p9 hp9; repeat (first | exact hp9 | exact List.mem_append_left _ hp9 | exact List.mem_append_right _ hp9 | refine List.mem_append_left _ ?_ | refine List.Mem.tail _ ?_))) hW5 K9 hof2 hg9 (fun p hp => List.mem_singleton.mp hp ▸ N9 _ (.head _)) hZf))))
  k_steps
  · exact ret c.S c.f c.s _ _ _ hP.1 F' N' (names_rfl rfl)
  · ((rename News _ _ _ _ => N9); (rename Fr _ _ _ _ => F9))
    rw [List.take_of_length_le (by rw [List.length_map]; exact Nat.le_refl _)] at hH
    have hag := hH.agr (l := a.l) (c := σ1.sc) hpm hus3 hW1.agr hW1.wsc
    refine' endK2 (σ := DS) ⟨S2, _, _⟩ F9 N9 ?eo (fun p hp => List.mem_append_left _ hp) ⟨⟨hW5.withPl hZf (by rw [List.length_set]), hag, hW1.agr2, prs_clear hW1.prs hp2.1 ?q1 ?q2 ?q3⟩, ⟨hN1.lt, hN1.last, hN1.len, hN1.ply⟩, hl2⟩ ?eh ?ez
    case eo => exact fun p hp => List.mem_append_right _ hp
    case q1 => (have q : (σ1.f1.length : Int) = a.pl := hW1.e1; (show (σ1.f1.length : Int) ≤ a.pl + low * low); omega)
    case q2 => (have q : (σ1.f2.length : Int) = a.pl := hW1.e2; (show (σ1.f2.length : Int) ≤ a.pl + low * low); omega)
    case q3 => exact .cons _ _ (.cons _ _ .nil)
    case eh => exact names_cons (by first | rfl | ((show some (Value.bool _) = some (Value.bool _)); simp only [beq_self_eq_true])) (names_rfl rfl)
    case ez => ((repeat (first | exact Out.st rfl | exact Out.kst (Out.st rfl) rfl | refine Out.ite ?_ rfl | refine Out.itf ?_ rfl | refine Out.stf ?_ rfl)))
  · ((rename News _ _ _ _ => N9); (rename Fr _ _ _ _ => F9); exact endK2 (σ := HS) ⟨o9, xs9⟩ F9 N9 (fun p hp => List.mem_append_right _ (List.mem_append_right _ hp)) (fun p hp => (List.mem_append.mp hp).elim (List.mem_append_left _) fun q => List.mem_append_right _ (List.mem_append_left _ q)) ⟨hT9, hH9⟩ (fun _ h => nomatch h) (by ((repeat (first | exact Out.st rfl | exact Out.kst (Out.st rfl) rfl | refine Out.ite ?_ rfl | refine Out.itf ?_ rfl | refine Out.stf ?_ rfl)))))
  · ((rename News _ _ _ _ => N9); (rename Fr _ _ _ _ => F9); exact endK2 (σ := HS) ⟨o9, xs9⟩ F9 N9 (fun p hp => List.mem_append_right _ (List.mem_append_right _ hp)) (fun p hp => (List.mem_append.mp hp).elim (List.mem_append_left _) fun q => List.mem_append_right _ (List.mem_append_left _ q)) ⟨hT9, hH9⟩ (fun _ h => nomatch h) (by ((repeat (first | exact Out.st rfl | exact Out.kst (Out.st rfl) rfl | refine Out.ite ?_ rfl | refine Out.itf ?_ rfl | refine Out.stf ?_ rfl)))))
  · ((rename News _ _ _ _ => N9); (rename Fr _ _ _ _ => F9))
    refine' endK2 (σ := DS) ⟨c.S, c.f, σ1⟩ F9 N9 ?eo2 ?el2 ⟨hW1, hN1, hlc⟩ ?eh2 ?ez2
    case eo2 => exact fun p hp => .tail _ (List.mem_append_right _ hp)
    case el2 => exact fun p hp => .tail _ (List.mem_append_left _ hp)
    case eh2 => exact names_cons (by first | rfl | ((show some (Value.bool _) = some (Value.bool _)); simp only [beq_self_eq_true])) (names_rfl rfl)
    case ez2 => ((repeat (first | exact Out.st rfl | exact Out.kst (Out.st rfl) rfl | refine Out.ite ?_ rfl | refine Out.itf ?_ rfl | refine Out.stf ?_ rfl)))
end
section
theorem on_Y6 : True := by
  k_with_none
  k_with "om0" => (first | with_reducible assumption | exact cj0 (by with_reducible assumption) | exact cj1 (by with_reducible assumption) | exact cj2 (by with_reducible assumption) | exact cj3 (by with_reducible assumption) | exact cj4 (by with_reducible assumption) | exact cj5 (by with_reducible assumption) | exact cj6 (by with_reducible assumption) | exact cj7 (by with_reducible assumption) | exact cj8 (by with_reducible assumption) | exact cj9 (by with_reducible assumption) | exact cj10 (by with_reducible assumption) | exact cj11 (by with_reducible assumption) | exact cj12 (by with_reducible assumption) | exact ce1 (by with_reducible assumption) | exact ce2 (by with_reducible assumption) | exact ce3 (by with_reducible assumption) | exact ce4 (by with_reducible assumption) | exact ce5 (by with_reducible assumption) | exact ce6 (by with_reducible assumption) | exact ce7 (by with_reducible assumption) | exact ce8 (by with_reducible assumption) | exact ce9 (by with_reducible assumption) | exact ce10 (by with_reducible assumption) | exact ce11 (by with_reducible assumption) | exact ce12 (by with_reducible assumption))
  k_with "om2" => (first | k_extra "om0" | ((with_reducible refine Nat.ne_of_lt ?_); k_extra "om0") | ((with_reducible refine Nat.ne_of_gt ?_); k_extra "om0") | ((with_reducible refine Ne.symm ?_); k_extra "om0") | ((with_reducible refine' Nat.lt_of_le_of_lt (Nat.add_le_add_left ?p9 _) ?q9); (case q9 => with_reducible assumption); (case p9 => decide)) | ((with_reducible refine' Nat.le_trans ?p9 ?q9); (case p9 => k_extra "om0"); (case q9 => decide)) | ((with_reducible refine' Nat.lt_of_le_of_lt ?p9 ?q9); (case p9 => k_extra "om0"); (case q9 => decide)) | ((with_reducible refine' Int.le_trans ?p9 ?q9); (case p9 => k_extra "om0"); (case q9 => decide)) | ((with_reducible refine' Int.le_trans ?p9 ?q9); (case q9 => k_extra "om0"); (case p9 => decide)) | ((with_reducible refine' Int.lt_of_le_of_lt ?p9 ?q9); (case p9 => k_extra "om0"); (case q9 => decide)) | ((with_reducible refine' Int.lt_of_lt_of_le ?p9 ?q9); (case q9 => k_extra "om0"); (case p9 => decide)) | ((with_reducible refine And.intro ?_ ?_) <;> omega) | lia)
  trivial
/-! law's reading of the tables -/
theorem mem_d2 {a : Ad} {σ : St} : (a.D2, σ.d2) ∈ WL a σ := wx (sub_re _ (.tail _ (.tail _ (.tail _ (.head _)))))
theorem live_map {g h : Heap} {L : Addr} {news own : List (Addr × Obj)} (N : News g L h news) (hs : ∀ p ∈ own, p ∈ news) : ∀ b ∈ own.map (·.1), (h.get? b).isSome = true := fun b hb => by
  obtain ⟨p, hp, rfl⟩ := List.mem_map.mp hb
  rw [(N p (hs p hp)).1]; rfl
theorem noItB_own {w : World} {a : Ad} {σ : St} {own : List (Addr × Obj)} (h : WB w a σ) : NoItB (own.map (·.1)) (WL a σ ++ own) := fun p hp => (List.mem_append.mp hp).elim (fun q => .inl (noIt_WL h p q)) fun q => .inr (List.mem_map_of_mem q)
set_option maxHeartbeats 8000000 in
theorem law_sides {w : World} {oc dV kV doc pm cdv ct : Value} {od an : Option Addr} {osl : Array (Option Value)} {name qual : Str} {params : Arguments} {body : List Stmt} {scope : Scope} {st : Stmt}
    (ho : (hd.heap_39 w.params).lookup 394 = some ⟨oc, od, .func (fnOf name qual params body scope dV kV doc pm an cdv ct), osl⟩) (hst : AtI 13 body st) {dp un : Nat} {gd : Option (List Code)} {cn : Str} {aa : Addr} {ccd : Value} {A₀ : Around} {h₀ : Heap} {L : Nat} {s : Shared} {mean : ExcName → Option Value} {mg mb : Str → Option Value} {Q : Flow → Shared → Prop} {m₀ : Str → Option Value} {a : Ad} {σ : St} {low : Int} {t1 t2 t3 : Tok}
    (B : Below A₀ h₀ [] h₀) (X : (hd.heap_39 w.params).In h₀) (T : Top hd.view_39 (looseW hd.view_39 []) mean mg mb h₀) (hD : dp + 100 < recursionLimit) (hU : un + 600 < cLine) (hW : WF w a σ)
    (F : Fr h₀ L s.heap m₀) (N : News h₀ L s.heap (WL a σ)) (hk : ∀ p ∈ lawNames a low t1 t2 t3, m₀ p.1 = some p.2)
    (ret : ∀ h' tk' m', Fr h₀ L h' m' → News h₀ L h' (WL a σ) → (∀ p ∈ lawNames a low t1 t2 t3, m' p.1 = some p.2) → Q .next { s with heap := h', toks := tk' }) :
    wpAny (model PySem.Challenge.rw_nt0425_01.row.prog w) (ktrTop dp un gd cn scope L aa ccd [] []) (exec st (envOf cn scope L aa ccd)) Q (fun _ _ => False) s := by
  have hs := law_same ho (by k_is)
  obtain ⟨hb, hs⟩ := hs
  subst hb hs
  clear ho
  have hst' := hst.eq rfl
  clear hst
  subst hst'
  have F := fr_names F hk
  clear hk
  have hlim := hW.ord.lim
  have hlo : ∀ k, -a.l ≤ kdfLook σ.sc k 0 ∧ kdfLook σ.sc k 0 ≤ a.l := fun k => hW.wsc.look (by omega) k
  have hB : Bx (WF w a σ) := ⟨hW⟩
  clear hW
  dsimp only [lawNames, kstB] at F
  refine (let m9 : Str → Option Value := _; (fun (F : Fr _ _ _ m9) => ?_) F)
  k_whole
  (try k_fold)
  k_with_none
  k_with "storeName" => (k_dflt (k_here; refine' store2 ?F ?N ?_ ?a ?b; (case F => k_asm); (case N => k_asm); (case a => rfl); (case b => rfl); k_whole; intro h' tk' F' N'; refine (let m9 : Str → Option Value := _; (fun (F' : Fr _ _ _ m9) => ?_) F'); (try k_sweep)))
  k_with "eval Constant int" => (k_dflt (first | with_reducible refine const_int3 ?_ | refine const_int3 ?_))
  k_with "binaryOp Add int int" => (k_dflt (first | with_reducible refine add_int3 ?_ | refine add_int3 ?_))
  k_with "binaryOp Sub int int" => (k_dflt (first | with_reducible refine sub_int3 ?_ | refine sub_int3 ?_))
  k_with "unaryOp USub int" => (k_dflt (first | with_reducible refine neg_int3 ?_ | refine neg_int3 ?_))
  k_with "om0" => (first | with_reducible assumption | exact cj0 (by with_reducible assumption) | exact cj1 (by with_reducible assumption) | exact cj2 (by with_reducible assumption) | exact cj3 (by with_reducible assumption) | exact cj4 (by with_reducible assumption) | exact cj5 (by with_reducible assumption) | exact cj6 (by with_reducible assumption) | exact cj7 (by with_reducible assumption) | exact cj8 (by with_reducible assumption) | exact cj9 (by with_reducible assumption) | exact cj10 (by with_reducible assumption) | exact cj11 (by with_reducible assumption) | exact cj12 (by with_reducible assumption) | exact ce1 (by with_reducible assumption) | exact ce2 (by with_reducible assumption) | exact ce3 (by with_reducible assumption) | exact ce4 (by with_reducible assumption) | exact ce5 (by with_reducible assumption) | exact ce6 (by with_reducible assumption) | exact ce7 (by with_reducible assumption) | exact ce8 (by with_reducible assumption) | exact ce9 (by with_reducible assumption) | exact ce10 (by with_reducible assumption) | exact ce11 (by with_reducible assumption) | exact ce12 (by with_reducible assumption))
  k_with "om2" => (first | k_extra "om0" | ((with_reducible refine Nat.ne_of_lt ?_); k_extra "om0") | ((with_reducible refine Nat.ne_of_gt ?_); k_extra "om0") | ((with_reducible refine Ne.symm ?_); k_extra "om0") | ((with_reducible refine' Nat.lt_of_le_of_lt (Nat.add_le_add_left ?p9 _) ?q9); (case q9 => with_reducible assumption); (case p9 => decide)) | ((with_reducible refine' Nat.le_trans ?p9 ?q9); (case p9 => k_extra "om0"); (case q9 => decide)) | ((with_reducible refine' Nat.lt_of_le_of_lt ?p9 ?q9); (case p9 => k_extra "om0"); (case q9 => decide)) | ((with_reducible refine' Int.le_trans ?p9 ?q9); (case p9 => k_extra "om0"); (case q9 => decide)) | ((with_reducible refine' Int.le_trans ?p9 ?q9); (case q9 => k_extra "om0"); (case p9 => decide)) | ((with_reducible refine' Int.lt_of_le_of_lt ?p9 ?q9); (case p9 => k_extra "om0"); (case q9 => decide)) | ((with_reducible refine' Int.lt_of_lt_of_le ?p9 ?q9); (case q9 => k_extra "om0"); (case p9 => decide)) | ((with_reducible refine And.intro ?_ ?_) <;> omega) | lia)
  k_with "pyIter ref" => (k_dflt ((((rename News _ _ _ _ => N9); (rename Fr _ _ _ _ => F9); refine' range_K2 (σ := Unit) (a₀ := 0) (b₀ := 2) (n := 2) [] (fun _ => WL a σ) (fun _ => lawNames a low t1 t2 t3) ["move", "score"] (fun _ _ => True) () ?zhh (by assumption) (by rfl) (by rfl) F9 (fun p hp => N9 p (by have hp9 := hp; exact (by (repeat (first | exact mem_rc | exact mem_d0 | exact mem_d2 | exact hp9 | exact List.mem_append_right _ hp9 | refine List.mem_append_left _ ?_ | refine List.Mem.tail _ ?_))))) (fun _ h => nomatch h) trivial ?zhk ?zhno ?zturn ?zdone; (case zhh => exact rfl); (case zhk => exact names_rfl rfl); (case zhno => exact fun _ _ _ p hp => .inl (noIt_WL hB.out.toWB p hp)); (case' zturn => (clear F9 N9; intro i tks _ u h9 tk9 own hi2 ho hP F' N'; (try dsimp only); k_fold; clear ho hP; (dsimp only [kstB, lawNames] at F' N' ⊢; refine (let m9 : Str → Option Value := _; (fun (F' : Fr _ _ _ m9) => ?_) F')))); (case' zdone => (clear F9 N9; intro _ u h9 tk9 hP F' N'; refine (let m9 : Str → Option Value := _; (fun (F' : Fr _ _ _ m9) => ?_) F')))))))
  k_with "pyIter ref" => (k_dflt ((((rename News _ _ _ _ => N9); (rename Fr _ _ _ _ => F9); refine' range_K2 (σ := Unit) (a₀ := 0) (b₀ := 5) (n := 5) (own.map (·.1)) (fun _ => WL a σ ++ own) (fun _ => (Str.ofString "side", .int (0 + (i : Int)) tks) :: lawNames a low t1 t2 t3) ["score"] (fun _ _ => True) () ?yhh (by assumption) (by rfl) (by rfl) F9 (fun p hp => N9 p ((List.mem_append.mp hp).elim (fun hp9 => (by (repeat (first | exact mem_rc | exact mem_d0 | exact mem_d2 | exact hp9 | exact List.mem_append_right _ hp9 | refine List.mem_append_left _ ?_ | refine List.Mem.tail _ ?_)))) (fun hp9 => (by (repeat (first | exact mem_rc | exact mem_d0 | exact mem_d2 | exact hp9 | exact List.mem_append_right _ hp9 | refine List.mem_append_left _ ?_ | refine List.Mem.tail _ ?_)))))) (live_map N9 (fun p hp9 => (by (repeat (first | exact mem_rc | exact mem_d0 | exact mem_d2 | exact hp9 | exact List.mem_append_right _ hp9 | refine List.mem_append_left _ ?_ | refine List.Mem.tail _ ?_))))) trivial ?yhk ?yhno ?yturn ?ydone; (case yhh => exact rfl); (case yhk => exact names_rfl rfl); (case yhno => exact fun _ _ _ => noItB_own hB.out.toWB); (case' yturn => (clear F9 N9; intro j tkm _ u h9 tk9 own2 hj2 ho hP F' N'; (try dsimp only); k_fold; clear ho hP; have hag := hB.out.agr (0 + (i : Int)) (0 + (j : Int)) (by omega) (by omega); have hag2 := hB.out.agr2 (0 + (i : Int)) (0 + (j : Int)) (by omega) (by omega); have hlo1 := hlo ((0 + (i : Int)) * 65536 + (0 + (j : Int))); (dsimp only [kstB, lawNames] at F' N' ⊢; refine (let m9 : Str → Option Value := _; (fun (F' : Fr _ _ _ m9) => ?_) F')))); (case' ydone => (clear F9 N9; intro _ u h9 tk9 hP F' N'; (dsimp only [kstB, lawNames] at F' N' ⊢; refine (let m9 : Str → Option Value := _; (fun (F' : Fr _ _ _ m9) => ?_) F'))))))))
  k_with "call ref" => (k_dflt ((rename News _ _ _ _ => N9); (rename Fr _ _ _ _ => F9); (try k_fold); refine' con_use0 (hget_W hB.out.toWB ?x1 ?x2) ?k1 ?k2 ?k3 ?k4 ?k5 ?kK ?ks ?kt ?kd ?ku ?_; (case k1 => k_asm); (case k2 => k_asm); (case k3 => k_asm); (case k4 => k_asm); (case k5 => k_asm); (case kK => exact rfl); (case ks => (intro p9 hp9; repeat (first | exact hp9 | exact List.mem_append_left _ hp9 | exact List.mem_append_right _ hp9 | refine List.mem_append_left _ ?_ | refine List.Mem.tail _ ?_))); (case kt => exact List.forall_mem_nil _); (case kd => omega); (case ku => omega); (case x1 => omega); (case x2 => omega); k_whole; intro r9 h' tk' F' N' p9; obtain ⟨t9, rfl⟩ := p9; (try dsimp only); (try k_sweep)))
  k_with "call ref" => (k_dflt ((rename News _ _ _ _ => N9); (rename Fr _ _ _ _ => F9); (try k_fold); refine' con_use0 (cget_W hB.out.toWB ?x1 ?x2) ?k1 ?k2 ?k3 ?k4 ?k5 ?kK ?ks ?kt ?kd ?ku ?_; (case k1 => k_asm); (case k2 => k_asm); (case k3 => k_asm); (case k4 => k_asm); (case k5 => k_asm); (case kK => exact rfl); (case ks => (intro p9 hp9; repeat (first | exact hp9 | exact List.mem_append_left _ hp9 | exact List.mem_append_right _ hp9 | refine List.mem_append_left _ ?_ | refine List.Mem.tail _ ?_))); (case kt => exact List.forall_mem_nil _); (case kd => omega); (case ku => omega); (case x1 => omega); (case x2 => omega); k_whole; intro r9 h' tk' F' N' p9; obtain ⟨t9, rfl⟩ := p9; (try dsimp only); (try k_sweep)))
  k_with "subscriptTail" => (k_dflt (((with_reducible show wpAny _ _ (subscriptTail (Expr.Name (Str.ofString "records") _) (Expr.Constant (Const.int 0) _ _) _ _) _ _ _); (rename News _ _ _ _ => N9); refine my_tup (l := [.ref a.D0, .ref a.Pl, .ref a.D2]) (j := 0) (tup_is (N9 (a.Rc, tupO [.ref a.D0, .ref a.Pl, .ref a.D2]) (by (repeat (first | exact mem_rc | exact mem_d0 | exact mem_d2 | exact hp9 | exact List.mem_append_right _ hp9 | refine List.mem_append_left _ ?_ | refine List.Mem.tail _ ?_)))).1) (by decide) rfl ?_)))
  k_with "subscriptTail" => (k_dflt (((with_reducible show wpAny _ _ (subscriptTail (Expr.Name (Str.ofString "records") _) (Expr.Constant (Const.int 2) _ _) _ _) _ _ _); (rename News _ _ _ _ => N9); refine my_tup (l := [.ref a.D0, .ref a.Pl, .ref a.D2]) (j := 2) (tup_is (N9 (a.Rc, tupO [.ref a.D0, .ref a.Pl, .ref a.D2]) (by (repeat (first | exact mem_rc | exact mem_d0 | exact mem_d2 | exact hp9 | exact List.mem_append_right _ hp9 | refine List.mem_append_left _ ?_ | refine List.Mem.tail _ ?_)))).1) (by decide) rfl ?_)))
  k_with "getMethod ref" => (k_dflt (((with_reducible show wpAny _ _ (getMethod (Value.ref (Ad.D0 _)) _ _) _ _ _); (rename News _ _ _ _ => N9); refine my_meth (N9 (a.D0, σ.d0) (by (repeat (first | exact mem_rc | exact mem_d0 | exact mem_d2 | exact hp9 | exact List.mem_append_right _ hp9 | refine List.mem_append_left _ ?_ | refine List.Mem.tail _ ?_)))).1 hB.out.t0.ex ?_)))
  k_with "getMethod ref" => (k_dflt (((with_reducible show wpAny _ _ (getMethod (Value.ref (Ad.D2 _)) _ _) _ _ _); (rename News _ _ _ _ => N9); refine my_meth (N9 (a.D2, σ.d2) (by (repeat (first | exact mem_rc | exact mem_d0 | exact mem_d2 | exact hp9 | exact List.mem_append_right _ hp9 | refine List.mem_append_left _ ?_ | refine List.Mem.tail _ ?_)))).1 hB.out.t2.ex ?_)))
  k_with "call builtin:dict.get" => (k_dflt ((((with_reducible show wpAny _ _ (call _ (Value.ref (Ad.D0 _) :: _)) _ _ _); (rename News _ _ _ _ => N9); (rename Fr _ _ _ _ => F9); refine my_getT hB.out.t0 hB.out.ord.l0 (by (show un + 1 < cLine); omega) (N9 (a.D0, σ.d0) (by (repeat (first | exact mem_rc | exact mem_d0 | exact mem_d2 | exact hp9 | exact List.mem_append_right _ hp9 | refine List.mem_append_left _ ?_ | refine List.Mem.tail _ ?_)))).1 (fun p hp => (N9 p (by have hp9 := wim (a := a) (σ := σ) hp; exact (by (repeat (first | exact mem_rc | exact mem_d0 | exact mem_d2 | exact hp9 | exact List.mem_append_right _ hp9 | refine List.mem_append_left _ ?_ | refine List.Mem.tail _ ?_))))).1) (News.get N9 (.head _)) tupKey ?_; intro t9; rw [hag]))))
  k_with "call builtin:dict.get" => (k_dflt ((((with_reducible show wpAny _ _ (call _ (Value.ref (Ad.D2 _) :: _)) _ _ _); (rename News _ _ _ _ => N9); (rename Fr _ _ _ _ => F9); refine my_getT hB.out.t2 hB.out.ord.l2 (by (show un + 1 < cLine); omega) (N9 (a.D2, σ.d2) (by (repeat (first | exact mem_rc | exact mem_d0 | exact mem_d2 | exact hp9 | exact List.mem_append_right _ hp9 | refine List.mem_append_left _ ?_ | refine List.Mem.tail _ ?_)))).1 (fun p hp => (N9 p (by have hp9 := wim (a := a) (σ := σ) hp; exact (by (repeat (first | exact mem_rc | exact mem_d0 | exact mem_d2 | exact hp9 | exact List.mem_append_right _ hp9 | refine List.mem_append_left _ ?_ | refine List.Mem.tail _ ?_))))).1) (News.get N9 (.head _)) tupKey ?_; intro t9; rw [hag2]))))
  k_with "compareOp Eq int int" => (k_dflt (((refine eq_int ?_; rw [beq_self_eq_true]))))
  k_steps
  · exact ret _ _ _ F' N' (names_rfl rfl)
  · ((rename News _ _ _ _ => N9); (rename Fr _ _ _ _ => F9))
    exact endK2 (σ := Unit) () F9 N9 (fun p hp => List.mem_append_right _ hp) (fun p hp => List.mem_append_left _ hp) trivial (names_rfl rfl) (by ((repeat (first | exact Out.st rfl | exact Out.kst (Out.st rfl) rfl | refine Out.ite ?_ rfl | refine Out.itf ?_ rfl | refine Out.stf ?_ rfl))))
  · ((rename News _ _ _ _ => N9); (rename Fr _ _ _ _ => F9))
    exact endK2 (σ := Unit) () F9 N9 (fun p hp => .tail _ (.tail _ (List.mem_append_right _ hp))) (fun p hp => .tail _ (.tail _ (List.mem_append_left _ hp))) trivial (names_cons rfl (names_cons (by first | rfl | ((show some (Value.bool _) = some (Value.bool _)); simp [hlo1])) (names_rfl rfl))) (by ((repeat (first | exact Out.st rfl | exact Out.kst (Out.st rfl) rfl | refine Out.ite ?_ rfl | refine Out.itf ?_ rfl | refine Out.stf ?_ rfl))))
end
section
theorem on_Y7 : True := by
  k_with_none
  k_with "om2" => (lia)
  trivial
/-! law's reading of the killers -/
theorem far_zero {f : List Int} {i : Nat} (h : f.length ≤ i) : f.getD i 0 = 0 := by rw [List.getD_eq_getElem?_getD, List.getElem?_eq_none h]; rfl
set_option maxHeartbeats 8000000 in
theorem law_plys {w : World} {oc dV kV doc pm cdv ct : Value} {od an : Option Addr} {osl : Array (Option Value)} {name qual : Str} {params : Arguments} {body : List Stmt} {scope : Scope} {st : Stmt}
    (ho : (hd.heap_39 w.params).lookup 394 = some ⟨oc, od, .func (fnOf name qual params body scope dV kV doc pm an cdv ct), osl⟩) (hst : AtI 14 body st) {dp un : Nat} {gd : Option (List Code)} {cn : Str} {aa : Addr} {ccd : Value} {A₀ : Around} {h₀ : Heap} {L : Nat} {s : Shared} {mean : ExcName → Option Value} {mg mb : Str → Option Value} {Q : Flow → Shared → Prop} {m₀ : Str → Option Value} {a : Ad} {σ : St} {low : Int} {t1 t2 t3 : Tok}
    (B : Below A₀ h₀ [] h₀) (X : (hd.heap_39 w.params).In h₀) (T : Top hd.view_39 (looseW hd.view_39 []) mean mg mb h₀) (hD : dp + 100 < recursionLimit) (hU : un + 600 < cLine) (hW : WF w a σ)
    (F : Fr h₀ L s.heap m₀) (N : News h₀ L s.heap (WL a σ)) (hk : ∀ p ∈ lawNames a low t1 t2 t3, m₀ p.1 = some p.2)
    (ret : ∀ h' tk' m', Fr h₀ L h' m' → (∀ p ∈ lawNames a low t1 t2 t3, m' p.1 = some p.2) → Q .next { s with heap := h', toks := tk' }) :
    wpAny (model PySem.Challenge.rw_nt0425_01.row.prog w) (ktrTop dp un gd cn scope L aa ccd [] []) (exec st (envOf cn scope L aa ccd)) Q (fun _ _ => False) s := by
  have hs := law_same ho (by k_is)
  obtain ⟨hb, hs⟩ := hs
  subst hb hs
  clear ho
  have hst' := hst.eq rfl
  clear hst
  subst hst'
  have F := fr_names F hk
  clear hk
  have hlpl := hW.lpl
  have hpls := hW.ord.pls
  have hB : Bx (WF w a σ) := ⟨hW⟩
  clear hW
  dsimp only [lawNames, kstB] at F
  refine (let m9 : Str → Option Value := _; (fun (F : Fr _ _ _ m9) => ?_) F)
  k_whole
  (try k_fold)
  k_with_none
  k_with "storeName" => (k_dflt (k_here; refine' store2 ?F ?N ?_ ?a ?b; (case F => k_asm); (case N => k_asm); (case a => rfl); (case b => rfl); k_whole; intro h' tk' F' N'; refine (let m9 : Str → Option Value := _; (fun (F' : Fr _ _ _ m9) => ?_) F'); (try k_sweep)))
  k_with "eval Constant int" => (k_dflt (first | with_reducible refine const_int3 ?_ | refine const_int3 ?_))
  k_with "binaryOp Add int int" => (k_dflt (first | with_reducible refine add_int3 ?_ | refine add_int3 ?_))
  k_with "binaryOp Sub int int" => (k_dflt (first | with_reducible refine sub_int3 ?_ | refine sub_int3 ?_))
  k_with "unaryOp USub int" => (k_dflt (first | with_reducible refine neg_int3 ?_ | refine neg_int3 ?_))
  k_with "om2" => (lia)
  k_with "pyIter ref" => (k_dflt ((((rename News _ _ _ _ => N9); (rename Fr _ _ _ _ => F9); refine' range_K2 (σ := Unit) (a₀ := 0) (b₀ := 5) (n := 5) [] (fun _ => WL a σ) (fun _ => lawNames a low t1 t2 t3) [] (fun _ _ => True) () ?zhh (by assumption) (by rfl) (by rfl) F9 (fun p hp => N9 p (by have hp9 := hp; exact (by (repeat (first | exact mem_rc | exact mem_pl | exact hp9 | exact List.mem_append_right _ hp9 | refine List.mem_append_left _ ?_ | refine List.Mem.tail _ ?_))))) (fun _ h => nomatch h) trivial ?zhk ?zhno ?zturn ?zdone; (case zhh => exact rfl); (case zhk => exact names_rfl rfl); (case zhno => exact fun _ _ _ p hp => .inl (noIt_WL hB.out.toWB p hp)); (case' zturn => (clear F9 N9; intro i tks _ u h9 tk9 own hi2 ho hP F' N'; (try dsimp only); k_fold; clear ho hP; (dsimp only [kstB, lawNames] at F' N' ⊢; refine (let m9 : Str → Option Value := _; (fun (F' : Fr _ _ _ m9) => ?_) F')))); (case' zdone => (clear F9 N9; intro _ u h9 tk9 hP F' N'; refine (let m9 : Str → Option Value := _; (fun (F' : Fr _ _ _ m9) => ?_) F')))))))
  k_with "call ref" => (k_dflt ((rename News _ _ _ _ => N9); (rename Fr _ _ _ _ => F9); (try k_fold); refine' con_use0 (pair_W hB.out.toWB ?x1) ?k1 ?k2 ?k3 ?k4 ?k5 ?kK ?ks ?kt ?kd ?ku ?_; (case k1 => k_asm); (case k2 => k_asm); (case k3 => k_asm); (case k4 => k_asm); (case k5 => k_asm); (case kK => exact rfl); (case ks => (intro p9 hp9; repeat (first | exact hp9 | exact List.mem_append_left _ hp9 | exact List.mem_append_right _ hp9 | refine List.mem_append_left _ ?_ | refine List.Mem.tail _ ?_))); (case kt => exact List.forall_mem_nil _); (case kd => omega); (case ku => omega); (case x1 => omega); k_whole; intro r9 h' tk' F' N' p9; obtain ⟨bT, tt1, tt2, rfl, hnT, hgT⟩ := p9; have N' := news_made F9 hnT hgT N'; (try dsimp only); (try k_sweep)))
  k_with "subscriptTail" => (k_dflt (((with_reducible show wpAny _ _ (subscriptTail (Expr.Name (Str.ofString "records") _) (Expr.Constant (Const.int 1) _ _) _ _) _ _ _); (rename News _ _ _ _ => N9); refine my_tup (l := [.ref a.D0, .ref a.Pl, .ref a.D2]) (j := 1) (tup_is (N9 (a.Rc, tupO [.ref a.D0, .ref a.Pl, .ref a.D2]) (by (repeat (first | exact mem_rc | exact mem_pl | exact hp9 | exact List.mem_append_right _ hp9 | refine List.mem_append_left _ ?_ | refine List.Mem.tail _ ?_)))).1) (by decide) rfl ?_)))
  k_with "subscriptTail" => (k_dflt ((((with_reducible show wpAny _ _ (subscriptTail (Expr.Name (Str.ofString "_") _) _ _ _) _ _ _); (rename News _ _ _ _ => N9); obtain ⟨pa, pvs, pk, hpe, hpm, hpv⟩ := hB.out.prs (0 + (i : Int)).toNat (by omega); refine my_item (isList_of (N9 (a.Pl, listOf σ.plv.toArray σ.npl) (by (repeat (first | exact mem_rc | exact mem_pl | exact hp9 | exact List.mem_append_right _ hp9 | refine List.mem_append_left _ ?_ | refine List.Mem.tail _ ?_)))).1) (by omega) (by omega) hpe ?_; have N' := news_two N9 (b := pa) (o := listOf pvs.toArray pk) (by have hp9 := wim (a := a) (σ := σ) hpm; exact (by (repeat (first | exact mem_rc | exact mem_pl | exact hp9 | exact List.mem_append_right _ hp9 | refine List.mem_append_left _ ?_ | refine List.Mem.tail _ ?_)))) (fun _ hp => hp)))))
  k_steps
  · exact ret _ _ _ F' (names_rfl rfl)
  · ((rename News _ _ _ _ => N9); (rename Fr _ _ _ _ => F9))
    exact endK2 (σ := Unit) () F9 N9 (fun p hp => .tail _ (.tail _ (List.mem_append_right _ hp))) (fun p hp => .tail _ (.tail _ (List.mem_append_left _ hp))) trivial (names_cons (by first | rfl | ((show some (Value.bool _) = some (Value.bool _)); simp)) (names_rfl rfl)) (by ((repeat (first | exact Out.st rfl | exact Out.kst (Out.st rfl) rfl | refine Out.ite ?_ rfl | refine Out.itf ?_ rfl | refine Out.stf ?_ rfl))))
  · ((rename News _ _ _ _ => N9); (rename Fr _ _ _ _ => F9))
    have z1 : σ.f1.getD (0 + (i : Int)).toNat 0 = 0 := far_zero (by have := hB.out.e1; omega)
    have z2 : σ.f2.getD (0 + (i : Int)).toNat 0 = 0 := far_zero (by have := hB.out.e2; omega)
    exact endK2 (σ := Unit) () F9 N9 (fun p hp => .tail _ (.tail _ (List.mem_append_right _ hp))) (fun p hp => .tail _ (.tail _ (List.mem_append_left _ hp))) trivial (names_cons (by (show some (Value.bool _) = some (Value.bool _)); rw [z1, z2]; first | rfl | simp) (names_rfl rfl)) (by ((repeat (first | exact Out.st rfl | exact Out.kst (Out.st rfl) rfl | refine Out.ite ?_ rfl | refine Out.itf ?_ rfl | refine Out.stf ?_ rfl))))
end
section
theorem on_H3 : True := by
  k_with_none
  k_with "om0" => (first | with_reducible assumption | exact cj0 (by with_reducible assumption) | exact cj1 (by with_reducible assumption) | exact cj2 (by with_reducible assumption) | exact cj3 (by with_reducible assumption) | exact cj4 (by with_reducible assumption) | exact cj5 (by with_reducible assumption) | exact cj6 (by with_reducible assumption) | exact cj7 (by with_reducible assumption) | exact cj8 (by with_reducible assumption) | exact cj9 (by with_reducible assumption) | exact cj10 (by with_reducible assumption) | exact cj11 (by with_reducible assumption) | exact cj12 (by with_reducible assumption) | exact ce1 (by with_reducible assumption) | exact ce2 (by with_reducible assumption) | exact ce3 (by with_reducible assumption) | exact ce4 (by with_reducible assumption) | exact ce5 (by with_reducible assumption) | exact ce6 (by with_reducible assumption) | exact ce7 (by with_reducible assumption) | exact ce8 (by with_reducible assumption) | exact ce9 (by with_reducible assumption) | exact ce10 (by with_reducible assumption) | exact ce11 (by with_reducible assumption) | exact ce12 (by with_reducible assumption))
  k_with "om2" => (first | k_extra "om0" | ((with_reducible refine Nat.ne_of_lt ?_); k_extra "om0") | ((with_reducible refine Nat.ne_of_gt ?_); k_extra "om0") | ((with_reducible refine Ne.symm ?_); k_extra "om0") | ((with_reducible refine' Nat.lt_of_le_of_lt (Nat.add_le_add_left ?p9 _) ?q9); (case q9 => with_reducible assumption); (case p9 => decide)) | ((with_reducible refine' Nat.le_trans ?p9 ?q9); (case p9 => k_extra "om0"); (case q9 => decide)) | ((with_reducible refine' Nat.lt_of_le_of_lt ?p9 ?q9); (case p9 => k_extra "om0"); (case q9 => decide)) | ((with_reducible refine' Int.le_trans ?p9 ?q9); (case p9 => k_extra "om0"); (case q9 => decide)) | ((with_reducible refine' Int.le_trans ?p9 ?q9); (case q9 => k_extra "om0"); (case p9 => decide)) | ((with_reducible refine' Int.lt_of_le_of_lt ?p9 ?q9); (case p9 => k_extra "om0"); (case q9 => decide)) | ((with_reducible refine' Int.lt_of_lt_of_le ?p9 ?q9); (case q9 => k_extra "om0"); (case p9 => decide)) | ((with_reducible refine And.intro ?_ ?_) <;> omega) | lia)
  trivial
/-! the classes' calls: new objects -/
local macro_rules | `(tactic| k_room) => `(tactic| ((try simp only [depth_mark, depth_under_make, depth_under_kw, depth_in1, depth_deeper, depth_caller]); first | omega | (show _ < recursionLimit; (try dsimp only [ktrTop]); omega)))
section
variable {w : World} {dp un : Nat} {gd : Option (List Code)} {cn : Str} {cs : Scope} {a : Addr} {ccd : Value} {cl : List (Str × Addr)} {outer : List Env} {A₀ : Around} {base h₀ : Heap} {L : Addr} {m : Str → Option Value} {s : Shared}
    {mean : ExcName → Option Value} {mg mb : Str → Option Value} {Q E : Value → Shared → Prop} {W : List (Addr × Obj)}
theorem history_call {l : Int} {t1 : Tok} (B : Below A₀ base outer h₀) (F : Fr h₀ L s.heap m) (X : (hd.heap_39 w.params).In h₀) (N : News h₀ L s.heap W) (T : Top hd.view_39 (looseW hd.view_39 []) mean mg mb h₀) (hk : cs.kind = .function) (hl : 20 ≤ l ∧ l ≤ 519) (hdp : dp + 20 < recursionLimit) (hun : un + 60 < cLine)
    (ret : ∀ (Hx Hd S : Nat) (so : Obj) (h1 h2 : Int) (k1 k2 : Tok) (h' : Heap) (tk' : Nat), Fr h₀ L h' m → News h₀ L h' ((S, so) :: (Hx, instObj 117 Hd) :: (Hd, dictOf [⟨h1, .str (Str.ofString "limit") k1, .int l t1⟩, ⟨h2, .str (Str.ofString "scores") k2, .ref S⟩] 2) :: W) → (∀ p ∈ W, @LT.lt Nat _ p.1 Hd) → Hd < Hx → Hx < S → intD w so [] [] → (S == sysModules) = false → Q (.ref Hx) { s with heap := h', toks := tk' }) :
    wpAny (model PySem.Challenge.rw_nt0425_01.row.prog w) (ktrTop dp un gd cn cs L a ccd cl outer) (call (.ref 117) [.int l t1]) Q E s := by
  k_whole
  (try k_fold)
  k_with_none
  k_with "storeName" => (k_dflt (k_here; refine' store2 ?F ?N ?_ ?a ?b; (case F => k_asm); (case N => k_asm); (case a => rfl); (case b => rfl); k_whole; intro h' tk' F' N'; refine (let m9 : Str → Option Value := _; (fun (F' : Fr _ _ _ m9) => ?_) F'); (try k_sweep)))
  k_with "eval Constant int" => (k_dflt (first | with_reducible refine const_int3 ?_ | refine const_int3 ?_))
  k_with "binaryOp Add int int" => (k_dflt (first | with_reducible refine add_int3 ?_ | refine add_int3 ?_))
  k_with "binaryOp Sub int int" => (k_dflt (first | with_reducible refine sub_int3 ?_ | refine sub_int3 ?_))
  k_with "unaryOp USub int" => (k_dflt (first | with_reducible refine neg_int3 ?_ | refine neg_int3 ?_))
  k_with "om0" => (first | with_reducible assumption | exact cj0 (by with_reducible assumption) | exact cj1 (by with_reducible assumption) | exact cj2 (by with_reducible assumption) | exact cj3 (by with_reducible assumption) | exact cj4 (by with_reducible assumption) | exact cj5 (by with_reducible assumption) | exact cj6 (by with_reducible assumption) | exact cj7 (by with_reducible assumption) | exact cj8 (by with_reducible assumption) | exact cj9 (by with_reducible assumption) | exact cj10 (by with_reducible assumption) | exact cj11 (by with_reducible assumption) | exact cj12 (by with_reducible assumption) | exact ce1 (by with_reducible assumption) | exact ce2 (by with_reducible assumption) | exact ce3 (by with_reducible assumption) | exact ce4 (by with_reducible assumption) | exact ce5 (by with_reducible assumption) | exact ce6 (by with_reducible assumption) | exact ce7 (by with_reducible assumption) | exact ce8 (by with_reducible assumption) | exact ce9 (by with_reducible assumption) | exact ce10 (by with_reducible assumption) | exact ce11 (by with_reducible assumption) | exact ce12 (by with_reducible assumption))
  k_with "om2" => (first | k_extra "om0" | ((with_reducible refine Nat.ne_of_lt ?_); k_extra "om0") | ((with_reducible refine Nat.ne_of_gt ?_); k_extra "om0") | ((with_reducible refine Ne.symm ?_); k_extra "om0") | ((with_reducible refine' Nat.lt_of_le_of_lt (Nat.add_le_add_left ?p9 _) ?q9); (case q9 => with_reducible assumption); (case p9 => decide)) | ((with_reducible refine' Nat.le_trans ?p9 ?q9); (case p9 => k_extra "om0"); (case q9 => decide)) | ((with_reducible refine' Nat.lt_of_le_of_lt ?p9 ?q9); (case p9 => k_extra "om0"); (case q9 => decide)) | ((with_reducible refine' Int.le_trans ?p9 ?q9); (case p9 => k_extra "om0"); (case q9 => decide)) | ((with_reducible refine' Int.le_trans ?p9 ?q9); (case q9 => k_extra "om0"); (case p9 => decide)) | ((with_reducible refine' Int.lt_of_le_of_lt ?p9 ?q9); (case p9 => k_extra "om0"); (case q9 => decide)) | ((with_reducible refine' Int.lt_of_lt_of_le ?p9 ?q9); (case q9 => k_extra "om0"); (case p9 => decide)) | ((with_reducible refine And.intro ?_ ?_) <;> omega) | lia)
  refine' call_cls ?k1 ?k2 ?k3 ?k4 ?k5 ?k6 ?_; (case k1 => k_asm); (case k2 => k_asm); (case k3 => k_asm); (case k4 => k_is); (case k5 => k_is); (case k6 => k_is); k_whole; intro x' d' h' F' N' l1 l2; have l1W := l1; have l2W := l2; (try k_lt l1); (try k_lt2 l2); refine' code_def ?m1 ?m2 ?m3 ?m4 ?m5 ?mA ?mF ?mK ?m6 ?m7 ?m8 ?m9 ?mB ?_ ?c2 ?c3 ?c4 ?c5; (case mA => exact rfl); (case mF => exact rfl); (case mK => exact hk); (case m1 => k_asm); (case m2 => k_asm); (case m3 => k_asm); (case m4 => k_asm); (case m5 => k_asm); (case m6 => k_is); (case m7 => k_is); (case m8 => k_room); (case m9 => exact BindsTo.of_eq rfl); (case mB => exact locs rfl); (case c2 => exact rfl); (case c3 => exact rfl); (case c4 => exact rfl); (case c5 => decide); k_whole; intro g' L' h' FG' F' N' B' X' T'; (try dsimp only); (try k_lift B'); (try k_fold)
  k_steps
  (rename News _ _ _ _ => N9)
  exact ret _ _ _ _ _ _ _ _ _ _ (by assumption) N9 (by assumption) (by assumption) (by omega) ⟨by assumption, by assumption⟩ (by assumption)
theorem counters_call (B : Below A₀ base outer h₀) (F : Fr h₀ L s.heap m) (X : (hd.heap_39 w.params).In h₀) (N : News h₀ L s.heap W) (T : Top hd.view_39 (looseW hd.view_39 []) mean mg mb h₀) (hk : cs.kind = .function) (hdp : dp + 20 < recursionLimit) (hun : un + 60 < cLine)
    (ret : ∀ (Cx Cd R : Nat) (ro : Obj) (h1 : Int) (k1 : Tok) (h' : Heap) (tk' : Nat), Fr h₀ L h' m → News h₀ L h' ((R, ro) :: (Cx, instObj 194 Cd) :: (Cd, dictOf [⟨h1, .str (Str.ofString "replies") k1, .ref R⟩] 1) :: W) → (∀ p ∈ W, @LT.lt Nat _ p.1 Cd) → Cd < Cx → Cx < R → intD w ro [] [] → (R == sysModules) = false → Q (.ref Cx) { s with heap := h', toks := tk' }) :
    wpAny (model PySem.Challenge.rw_nt0425_01.row.prog w) (ktrTop dp un gd cn cs L a ccd cl outer) (call (.ref 194) []) Q E s := by
  k_whole
  (try k_fold)
  k_with_none
  k_with "storeName" => (k_dflt (k_here; refine' store2 ?F ?N ?_ ?a ?b; (case F => k_asm); (case N => k_asm); (case a => rfl); (case b => rfl); k_whole; intro h' tk' F' N'; refine (let m9 : Str → Option Value := _; (fun (F' : Fr _ _ _ m9) => ?_) F'); (try k_sweep)))
  k_with "eval Constant int" => (k_dflt (first | with_reducible refine const_int3 ?_ | refine const_int3 ?_))
  k_with "binaryOp Add int int" => (k_dflt (first | with_reducible refine add_int3 ?_ | refine add_int3 ?_))
  k_with "binaryOp Sub int int" => (k_dflt (first | with_reducible refine sub_int3 ?_ | refine sub_int3 ?_))
  k_with "unaryOp USub int" => (k_dflt (first | with_reducible refine neg_int3 ?_ | refine neg_int3 ?_))
  k_with "om0" => (first | with_reducible assumption | exact cj0 (by with_reducible assumption) | exact cj1 (by with_reducible assumption) | exact cj2 (by with_reducible assumption) | exact cj3 (by with_reducible assumption) | exact cj4 (by with_reducible assumption) | exact cj5 (by with_reducible assumption) | exact cj6 (by with_reducible assumption) | exact cj7 (by with_reducible assumption) | exact cj8 (by with_reducible assumption) | exact cj9 (by with_reducible assumption) | exact cj10 (by with_reducible assumption) | exact cj11 (by with_reducible assumption) | exact cj12 (by with_reducible assumption) | exact ce1 (by with_reducible assumption) | exact ce2 (by with_reducible assumption) | exact ce3 (by with_reducible assumption) | exact ce4 (by with_reducible assumption) | exact ce5 (by with_reducible assumption) | exact ce6 (by with_reducible assumption) | exact ce7 (by with_reducible assumption) | exact ce8 (by with_reducible assumption) | exact ce9 (by with_reducible assumption) | exact ce10 (by with_reducible assumption) | exact ce11 (by with_reducible assumption) | exact ce12 (by with_reducible assumption))
  k_with "om2" => (first | k_extra "om0" | ((with_reducible refine Nat.ne_of_lt ?_); k_extra "om0") | ((with_reducible refine Nat.ne_of_gt ?_); k_extra "om0") | ((with_reducible refine Ne.symm ?_); k_extra "om0") | ((with_reducible refine' Nat.lt_of_le_of_lt (Nat.add_le_add_left ?p9 _) ?q9); (case q9 => with_reducible assumption); (case p9 => decide)) | ((with_reducible refine' Nat.le_trans ?p9 ?q9); (case p9 => k_extra "om0"); (case q9 => decide)) | ((with_reducible refine' Nat.lt_of_le_of_lt ?p9 ?q9); (case p9 => k_extra "om0"); (case q9 => decide)) | ((with_reducible refine' Int.le_trans ?p9 ?q9); (case p9 => k_extra "om0"); (case q9 => decide)) | ((with_reducible refine' Int.le_trans ?p9 ?q9); (case q9 => k_extra "om0"); (case p9 => decide)) | ((with_reducible refine' Int.lt_of_le_of_lt ?p9 ?q9); (case p9 => k_extra "om0"); (case q9 => decide)) | ((with_reducible refine' Int.lt_of_lt_of_le ?p9 ?q9); (case q9 => k_extra "om0"); (case p9 => decide)) | ((with_reducible refine And.intro ?_ ?_) <;> omega) | lia)
  refine' call_cls ?k1 ?k2 ?k3 ?k4 ?k5 ?k6 ?_; (case k1 => k_asm); (case k2 => k_asm); (case k3 => k_asm); (case k4 => k_is); (case k5 => k_is); (case k6 => k_is); k_whole; intro x' d' h' F' N' l1 l2; have l1W := l1; have l2W := l2; (try k_lt l1); (try k_lt2 l2); refine' code_def ?m1 ?m2 ?m3 ?m4 ?m5 ?mA ?mF ?mK ?m6 ?m7 ?m8 ?m9 ?mB ?_ ?c2 ?c3 ?c4 ?c5; (case mA => exact rfl); (case mF => exact rfl); (case mK => exact hk); (case m1 => k_asm); (case m2 => k_asm); (case m3 => k_asm); (case m4 => k_asm); (case m5 => k_asm); (case m6 => k_is); (case m7 => k_is); (case m8 => k_room); (case m9 => exact BindsTo.of_eq rfl); (case mB => exact locs rfl); (case c2 => exact rfl); (case c3 => exact rfl); (case c4 => exact rfl); (case c5 => decide); k_whole; intro g' L' h' FG' F' N' B' X' T'; (try dsimp only); (try k_lift B'); (try k_fold)
  k_steps
  (rename News _ _ _ _ => N9)
  exact ret _ _ _ _ _ _ _ _ (by assumption) N9 (by assumption) (by assumption) (by omega) ⟨by assumption, by assumption⟩ (by assumption)
theorem drop2 {g h : Heap} {L a b c d : Addr} {o1 o2 o3 o4 : Obj} {r : List (Addr × Obj)} (N : News g L h ((a, o1) :: (b, o2) :: (c, o3) :: (d, o4) :: r)) : News g L h ((a, o1) :: (c, o3) :: r) := fun p hp => N p (by
  rcases List.mem_cons.mp hp with rfl | hp
  · exact .head _
  · rcases List.mem_cons.mp hp with rfl | hp
    · exact .tail _ (.tail _ (.head _))
    · exact .tail _ (.tail _ (.tail _ (.tail _ hp))))
theorem game_call {Ch V Ck Dr No Ga : Addr} (B : Below A₀ base outer h₀) (F : Fr h₀ L s.heap m) (X : (hd.heap_39 w.params).In h₀) (N : News h₀ L s.heap W) (T : Top hd.view_39 (looseW hd.view_39 []) mean mg mb h₀) (hk : cs.kind = .function) (hdp : dp + 20 < recursionLimit) (hun : un + 60 < cLine)
    (ret : ∀ (G Gd P : Nat) (h1 h2 h3 h4 h5 h6 h7 : Int) (k1 k2 k3 k4 k5 k6 k7 t0 : Tok) (h' : Heap) (tk' : Nat), Fr h₀ L h' m → News h₀ L h' ((P, listOf [Value.int 0 t0].toArray 0) :: (G, instObj 335 Gd) :: (Gd, dictOf [⟨h1, .str (Str.ofString "children") k1, .ref Ch⟩, ⟨h2, .str (Str.ofString "values") k2, .ref V⟩, ⟨h3, .str (Str.ofString "checks") k3, .ref Ck⟩, ⟨h4, .str (Str.ofString "draws") k4, .ref Dr⟩, ⟨h5, .str (Str.ofString "noisy_rows") k5, .ref No⟩, ⟨h6, .str (Str.ofString "gain_rows") k6, .ref Ga⟩, ⟨h7, .str (Str.ofString "path") k7, .ref P⟩] 7) :: W) →
      (∀ p ∈ W, @LT.lt Nat _ p.1 Gd) → Gd < G → G < P → Q (.ref G) { s with heap := h', toks := tk' }) :
    wpAny (model PySem.Challenge.rw_nt0425_01.row.prog w) (ktrTop dp un gd cn cs L a ccd cl outer) (call (.ref 335) [.ref Ch, .ref V, .ref Ck, .ref Dr, .ref No, .ref Ga]) Q E s := by
  k_whole
  (try k_fold)
  k_with_none
  k_with "storeName" => (k_dflt (k_here; refine' store2 ?F ?N ?_ ?a ?b; (case F => k_asm); (case N => k_asm); (case a => rfl); (case b => rfl); k_whole; intro h' tk' F' N'; refine (let m9 : Str → Option Value := _; (fun (F' : Fr _ _ _ m9) => ?_) F'); (try k_sweep)))
  k_with "eval Constant int" => (k_dflt (first | with_reducible refine const_int3 ?_ | refine const_int3 ?_))
  k_with "binaryOp Add int int" => (k_dflt (first | with_reducible refine add_int3 ?_ | refine add_int3 ?_))
  k_with "binaryOp Sub int int" => (k_dflt (first | with_reducible refine sub_int3 ?_ | refine sub_int3 ?_))
  k_with "unaryOp USub int" => (k_dflt (first | with_reducible refine neg_int3 ?_ | refine neg_int3 ?_))
  k_with "om0" => (first | with_reducible assumption | exact cj0 (by with_reducible assumption) | exact cj1 (by with_reducible assumption) | exact cj2 (by with_reducible assumption) | exact cj3 (by with_reducible assumption) | exact cj4 (by with_reducible assumption) | exact cj5 (by with_reducible assumption) | exact cj6 (by with_reducible assumption) | exact cj7 (by with_reducible assumption) | exact cj8 (by with_reducible assumption) | exact cj9 (by with_reducible assumption) | exact cj10 (by with_reducible assumption) | exact cj11 (by with_reducible assumption) | exact cj12 (by with_reducible assumption) | exact ce1 (by with_reducible assumption) | exact ce2 (by with_reducible assumption) | exact ce3 (by with_reducible assumption) | exact ce4 (by with_reducible assumption) | exact ce5 (by with_reducible assumption) | exact ce6 (by with_reducible assumption) | exact ce7 (by with_reducible assumption) | exact ce8 (by with_reducible assumption) | exact ce9 (by with_reducible assumption) | exact ce10 (by with_reducible assumption) | exact ce11 (by with_reducible assumption) | exact ce12 (by with_reducible assumption))
  k_with "om2" => (first | k_extra "om0" | ((with_reducible refine Nat.ne_of_lt ?_); k_extra "om0") | ((with_reducible refine Nat.ne_of_gt ?_); k_extra "om0") | ((with_reducible refine Ne.symm ?_); k_extra "om0") | ((with_reducible refine' Nat.lt_of_le_of_lt (Nat.add_le_add_left ?p9 _) ?q9); (case q9 => with_reducible assumption); (case p9 => decide)) | ((with_reducible refine' Nat.le_trans ?p9 ?q9); (case p9 => k_extra "om0"); (case q9 => decide)) | ((with_reducible refine' Nat.lt_of_le_of_lt ?p9 ?q9); (case p9 => k_extra "om0"); (case q9 => decide)) | ((with_reducible refine' Int.le_trans ?p9 ?q9); (case p9 => k_extra "om0"); (case q9 => decide)) | ((with_reducible refine' Int.le_trans ?p9 ?q9); (case q9 => k_extra "om0"); (case p9 => decide)) | ((with_reducible refine' Int.lt_of_le_of_lt ?p9 ?q9); (case p9 => k_extra "om0"); (case q9 => decide)) | ((with_reducible refine' Int.lt_of_lt_of_le ?p9 ?q9); (case q9 => k_extra "om0"); (case p9 => decide)) | ((with_reducible refine And.intro ?_ ?_) <;> omega) | lia)
  refine' call_cls ?k1 ?k2 ?k3 ?k4 ?k5 ?k6 ?_; (case k1 => k_asm); (case k2 => k_asm); (case k3 => k_asm); (case k4 => k_is); (case k5 => k_is); (case k6 => k_is); k_whole; intro x' d' h' F' N' l1 l2; have l1W := l1; have l2W := l2; (try k_lt l1); (try k_lt2 l2); refine' code_def ?m1 ?m2 ?m3 ?m4 ?m5 ?mA ?mF ?mK ?m6 ?m7 ?m8 ?m9 ?mB ?_ ?c2 ?c3 ?c4 ?c5; (case mA => exact rfl); (case mF => exact rfl); (case mK => exact hk); (case m1 => k_asm); (case m2 => k_asm); (case m3 => k_asm); (case m4 => k_asm); (case m5 => k_asm); (case m6 => k_is); (case m7 => k_is); (case m8 => k_room); (case m9 => exact BindsTo.of_eq rfl); (case mB => exact locs rfl); (case c2 => exact rfl); (case c3 => exact rfl); (case c4 => exact rfl); (case c5 => decide); k_whole; intro g' L' h' FG' F' N' B' X' T'; (try dsimp only); (try k_lift B'); (try k_fold)
  k_steps
  (rename News _ _ _ _ => N9)
  exact ret _ _ _ _ _ _ _ _ _ _ _ _ _ _ _ _ _ _ _ _ (by assumption) N9 l1W l2W (by omega)
theorem killers_call {pl : Int} {t1 : Tok} (B : Below A₀ base outer h₀) (F : Fr h₀ L s.heap m) (X : (hd.heap_39 w.params).In h₀) (N : News h₀ L s.heap W) (T : Top hd.view_39 (looseW hd.view_39 []) mean mg mb h₀) (hk : cs.kind = .function) (hl : 1 ≤ pl ∧ pl ≤ 3) (hdp : dp + 20 < recursionLimit) (hun : un + 60 < cLine)
    (ret : ∀ (Kx Kd F1 F2 n1 n2 : Nat) (vs1 vs2 : List Value) (h1 h2 h3 : Int) (k1 k2 k3 : Tok) (h' : Heap) (tk' : Nat), Fr h₀ L h' m → News h₀ L h' ((F2, listOf vs2.toArray n2) :: (F1, listOf vs1.toArray n1) :: (Kx, instObj 159 Kd) :: (Kd, dictOf [⟨h1, .str (Str.ofString "plies") k1, .int pl t1⟩, ⟨h2, .str (Str.ofString "first") k2, .ref F1⟩, ⟨h3, .str (Str.ofString "second") k3, .ref F2⟩] 3) :: W) →
      (∀ p ∈ W, @LT.lt Nat _ p.1 Kd) → Kd < Kx → Kx < F1 → F1 < F2 → IntsAre vs1 (List.replicate pl.toNat [0]).flatten → IntsAre vs2 (List.replicate pl.toNat [0]).flatten → Q (.ref Kx) { s with heap := h', toks := tk' }) :
    wpAny (model PySem.Challenge.rw_nt0425_01.row.prog w) (ktrTop dp un gd cn cs L a ccd cl outer) (call (.ref 159) [.int pl t1]) Q E s := by
  k_whole
  (try k_fold)
  k_with_none
  k_with "storeName" => (k_dflt (k_here; refine' store2 ?F ?N ?_ ?a ?b; (case F => k_asm); (case N => k_asm); (case a => rfl); (case b => rfl); k_whole; intro h' tk' F' N'; refine (let m9 : Str → Option Value := _; (fun (F' : Fr _ _ _ m9) => ?_) F'); (try k_sweep)))
  k_with "eval Constant int" => (k_dflt (first | with_reducible refine const_int3 ?_ | refine const_int3 ?_))
  k_with "binaryOp Add int int" => (k_dflt (first | with_reducible refine add_int3 ?_ | refine add_int3 ?_))
  k_with "binaryOp Sub int int" => (k_dflt (first | with_reducible refine sub_int3 ?_ | refine sub_int3 ?_))
  k_with "unaryOp USub int" => (k_dflt (first | with_reducible refine neg_int3 ?_ | refine neg_int3 ?_))
  k_with "om0" => (first | with_reducible assumption | exact cj0 (by with_reducible assumption) | exact cj1 (by with_reducible assumption) | exact cj2 (by with_reducible assumption) | exact cj3 (by with_reducible assumption) | exact cj4 (by with_reducible assumption) | exact cj5 (by with_reducible assumption) | exact cj6 (by with_reducible assumption) | exact cj7 (by with_reducible assumption) | exact cj8 (by with_reducible assumption) | exact cj9 (by with_reducible assumption) | exact cj10 (by with_reducible assumption) | exact cj11 (by with_reducible assumption) | exact cj12 (by with_reducible assumption) | exact ce1 (by with_reducible assumption) | exact ce2 (by with_reducible assumption) | exact ce3 (by with_reducible assumption) | exact ce4 (by with_reducible assumption) | exact ce5 (by with_reducible assumption) | exact ce6 (by with_reducible assumption) | exact ce7 (by with_reducible assumption) | exact ce8 (by with_reducible assumption) | exact ce9 (by with_reducible assumption) | exact ce10 (by with_reducible assumption) | exact ce11 (by with_reducible assumption) | exact ce12 (by with_reducible assumption))
  k_with "om2" => (first | k_extra "om0" | ((with_reducible refine Nat.ne_of_lt ?_); k_extra "om0") | ((with_reducible refine Nat.ne_of_gt ?_); k_extra "om0") | ((with_reducible refine Ne.symm ?_); k_extra "om0") | ((with_reducible refine' Nat.lt_of_le_of_lt (Nat.add_le_add_left ?p9 _) ?q9); (case q9 => with_reducible assumption); (case p9 => decide)) | ((with_reducible refine' Nat.le_trans ?p9 ?q9); (case p9 => k_extra "om0"); (case q9 => decide)) | ((with_reducible refine' Nat.lt_of_le_of_lt ?p9 ?q9); (case p9 => k_extra "om0"); (case q9 => decide)) | ((with_reducible refine' Int.le_trans ?p9 ?q9); (case p9 => k_extra "om0"); (case q9 => decide)) | ((with_reducible refine' Int.le_trans ?p9 ?q9); (case q9 => k_extra "om0"); (case p9 => decide)) | ((with_reducible refine' Int.lt_of_le_of_lt ?p9 ?q9); (case p9 => k_extra "om0"); (case q9 => decide)) | ((with_reducible refine' Int.lt_of_lt_of_le ?p9 ?q9); (case q9 => k_extra "om0"); (case p9 => decide)) | ((with_reducible refine And.intro ?_ ?_) <;> omega) | lia)
  k_with "binaryOp Mult ref int" => (k_dflt (((rename News _ _ _ _ => N9); (rename Fr _ _ _ _ => F9); (refine' KM.mul (vs := [.int 0 _]) (ns := [0]) F9 N9 (isList_of (N9 (_, listOf #[.int 0 _] 0) (by k_mem)).1) (.cons _ _ .nil) ?nlo ?nhi ?nsz ?_; (case nlo => omega); (case nhi => omega); (case nsz => ((show 1 * _ ≤ 2 ^ 24); omega)); k_whole; (intro D' h' F' N' l1 i1 n1 s1 e1 e2 e3)); (try k_lt l1); (try simp only [List.length_cons, List.length_nil] at e3); clear n1 s1 e1 e2 e3)))
  refine' call_cls ?k1 ?k2 ?k3 ?k4 ?k5 ?k6 ?_; (case k1 => k_asm); (case k2 => k_asm); (case k3 => k_asm); (case k4 => k_is); (case k5 => k_is); (case k6 => k_is); k_whole; intro x' d' h' F' N' l1 l2; have l1W := l1; have l2W := l2; (try k_lt l1); (try k_lt2 l2); refine' code_def ?m1 ?m2 ?m3 ?m4 ?m5 ?mA ?mF ?mK ?m6 ?m7 ?m8 ?m9 ?mB ?_ ?c2 ?c3 ?c4 ?c5; (case mA => exact rfl); (case mF => exact rfl); (case mK => exact hk); (case m1 => k_asm); (case m2 => k_asm); (case m3 => k_asm); (case m4 => k_asm); (case m5 => k_asm); (case m6 => k_is); (case m7 => k_is); (case m8 => k_room); (case m9 => exact BindsTo.of_eq rfl); (case mB => exact locs rfl); (case c2 => exact rfl); (case c3 => exact rfl); (case c4 => exact rfl); (case c5 => decide); k_whole; intro g' L' h' FG' F' N' B' X' T'; (try dsimp only); (try k_lift B'); (try k_fold)
  k_steps
  (rename News _ _ _ _ => N9)
  exact ret _ _ _ _ _ _ _ _ _ _ _ _ _ _ _ _ (by assumption) (drop2 N9) l1W l2W (by omega) (by omega) (by assumption) (by assumption)
end
end
section
theorem on_Z2 : True := by
  k_with_none
  k_with "om0" => (first | with_reducible assumption | exact cj0 (by with_reducible assumption) | exact cj1 (by with_reducible assumption) | exact cj2 (by with_reducible assumption) | exact cj3 (by with_reducible assumption) | exact cj4 (by with_reducible assumption) | exact cj5 (by with_reducible assumption) | exact cj6 (by with_reducible assumption) | exact cj7 (by with_reducible assumption) | exact cj8 (by with_reducible assumption) | exact cj9 (by with_reducible assumption) | exact cj10 (by with_reducible assumption) | exact cj11 (by with_reducible assumption) | exact cj12 (by with_reducible assumption) | exact ce1 (by with_reducible assumption) | exact ce2 (by with_reducible assumption) | exact ce3 (by with_reducible assumption) | exact ce4 (by with_reducible assumption) | exact ce5 (by with_reducible assumption) | exact ce6 (by with_reducible assumption) | exact ce7 (by with_reducible assumption) | exact ce8 (by with_reducible assumption) | exact ce9 (by with_reducible assumption) | exact ce10 (by with_reducible assumption) | exact ce11 (by with_reducible assumption) | exact ce12 (by with_reducible assumption))
  k_with "om2" => (first | k_extra "om0" | ((with_reducible refine Nat.ne_of_lt ?_); k_extra "om0") | ((with_reducible refine Nat.ne_of_gt ?_); k_extra "om0") | ((with_reducible refine Ne.symm ?_); k_extra "om0") | ((with_reducible refine' Nat.lt_of_le_of_lt (Nat.add_le_add_left ?p9 _) ?q9); (case q9 => with_reducible assumption); (case p9 => decide)) | ((with_reducible refine' Nat.le_trans ?p9 ?q9); (case p9 => k_extra "om0"); (case q9 => decide)) | ((with_reducible refine' Nat.lt_of_le_of_lt ?p9 ?q9); (case p9 => k_extra "om0"); (case q9 => decide)) | ((with_reducible refine' Int.le_trans ?p9 ?q9); (case p9 => k_extra "om0"); (case q9 => decide)) | ((with_reducible refine' Int.le_trans ?p9 ?q9); (case q9 => k_extra "om0"); (case p9 => decide)) | ((with_reducible refine' Int.lt_of_le_of_lt ?p9 ?q9); (case p9 => k_extra "om0"); (case q9 => decide)) | ((with_reducible refine' Int.lt_of_lt_of_le ?p9 ?q9); (case q9 => k_extra "om0"); (case p9 => decide)) | ((with_reducible refine And.intro ?_ ?_) <;> omega) | lia)
  trivial
/-! law -/
local macro_rules | `(tactic| k_room) => `(tactic| ((try simp only [depth_mark, depth_under_make, depth_under_kw, depth_in1, depth_deeper, depth_caller]); first | omega | (show _ < recursionLimit; (try dsimp only [ktrTop]); omega)))
theorem int_eq {m : Str → Option Value} {x : Str} {a b : Int} {t : Tok} (e : a = b) (h : m x = some (.int b t)) : m x = some (.int a t) := e ▸ h
theorem ref_eq {m : Str → Option Value} {x : Str} {a b : Addr} (e : a = b) (h : m x = some (.ref b)) : m x = some (.ref a) := e ▸ h
theorem pk2 {A B C G : Prop} (h : A ∧ B ∧ C) (k : A ∧ B ∧ C → G) : G := k h
theorem heads5 {g h : Heap} {L a b c d e : Addr} {o1 o2 o3 o4 o5 : Obj} {r : List (Addr × Obj)} (_N : News g L h ((a, o1) :: (b, o2) :: (c, o3) :: (d, o4) :: (e, o5) :: r)) : ∃ (a' b' c' d' e' : Nat) (o2' o4' : Obj), a' = a ∧ b' = b ∧ c' = c ∧ d' = d ∧ e' = e ∧ o2' = o2 ∧ o4' = o4 := ⟨a, b, c, d, e, o2, o4, rfl, rfl, rfl, rfl, rfl, rfl, rfl⟩
theorem allLt_from {d : Nat} {l : List (Addr × Obj)} (h : ∀ p ∈ l, @LT.lt Nat _ p.1 d) : AllLt d l := by
  induction l with
  | nil => trivial
  | cons q r ih => exact ⟨h q (.head _), ih fun p hp => h p (.tail _ hp)⟩
set_option maxHeartbeats 8000000 in
theorem law_body2 {w : World} {Sc : Nat} {vs : List Value} {ns : List Int} {oc dV kV doc pm cdv ct : Value} {od an : Option Addr} {osl : Array (Option Value)} {name qual : Str} {params : Arguments} {body : List Stmt} {scope : Scope}
    (ho : (hd.heap_39 w.params).lookup 394 = some ⟨oc, od, .func (fnOf name qual params body scope dV kV doc pm an cdv ct), osl⟩) {dp un : Nat} {gd : Option (List Code)} {cn : Str} {a : Addr} {ccd : Value} {A₀ : Around} {h₀ h₁ : Heap} {L : Nat} {s : Shared} {mean : ExcName → Option Value} {mg mb : Str → Option Value} {Q : Flow → Shared → Prop} {tk : Nat}
    (B : Below A₀ h₀ [] h₀) (X : (hd.heap_39 w.params).In h₀) (T : Top hd.view_39 (looseW hd.view_39 []) mean mg mb h₀) (hSc : h₀.IsList Sc vs.toArray) (hv : IntsAre vs ns) (hl : ns.length ≤ 63) (hD : dp + 200 < recursionLimit) (hU : un + 800 < cLine)
    (F : Fr h₀ L h₁ (fun y => List.lookup y [(Str.ofString "script", Value.ref Sc)].reverse)) (ret : ∀ h' tk', (∀ b o, h₀.get? b = some o → h'.get? b = some o) → Q (.ret (.bool true)) { s with heap := h', toks := tk' }) :
    wpAny (model PySem.Challenge.rw_nt0425_01.row.prog w) (ktrTop dp un gd cn scope L a ccd [] []) (execs body (envOf cn scope L a ccd)) Q (fun _ _ => False) { s with heap := h₁, toks := tk } := by
  have hs := law_same ho (by k_is)
  obtain ⟨hb, hs⟩ := hs
  subst hb hs
  have hoB : Bx _ := ⟨ho⟩
  clear ho
  have hvt : IntsAre (vs.take 16) (ns.take 16) := ints_take hv
  k_whole
  (try k_fold)
  k_with_none
  k_with "storeName" => (k_dflt (k_here; refine' store2 ?F ?N ?_ ?a ?b; (case F => k_asm); (case N => k_asm); (case a => rfl); (case b => rfl); k_whole; intro h' tk' F' N'; refine (let m9 : Str → Option Value := _; (fun (F' : Fr _ _ _ m9) => ?_) F'); (try k_sweep)))
  k_with "eval Constant int" => (k_dflt (first | with_reducible refine const_int3 ?_ | refine const_int3 ?_))
  k_with "binaryOp Add int int" => (k_dflt (first | with_reducible refine add_int3 ?_ | refine add_int3 ?_))
  k_with "binaryOp Sub int int" => (k_dflt (first | with_reducible refine sub_int3 ?_ | refine sub_int3 ?_))
  k_with "unaryOp USub int" => (k_dflt (first | with_reducible refine neg_int3 ?_ | refine neg_int3 ?_))
  k_with "om0" => (first | with_reducible assumption | exact cj0 (by with_reducible assumption) | exact cj1 (by with_reducible assumption) | exact cj2 (by with_reducible assumption) | exact cj3 (by with_reducible assumption) | exact cj4 (by with_reducible assumption) | exact cj5 (by with_reducible assumption) | exact cj6 (by with_reducible assumption) | exact cj7 (by with_reducible assumption) | exact cj8 (by with_reducible assumption) | exact cj9 (by with_reducible assumption) | exact cj10 (by with_reducible assumption) | exact cj11 (by with_reducible assumption) | exact cj12 (by with_reducible assumption) | exact ce1 (by with_reducible assumption) | exact ce2 (by with_reducible assumption) | exact ce3 (by with_reducible assumption) | exact ce4 (by with_reducible assumption) | exact ce5 (by with_reducible assumption) | exact ce6 (by with_reducible assumption) | exact ce7 (by with_reducible assumption) | exact ce8 (by with_reducible assumption) | exact ce9 (by with_reducible assumption) | exact ce10 (by with_reducible assumption) | exact ce11 (by with_reducible assumption) | exact ce12 (by with_reducible assumption))
  k_with "om2" => (first | k_extra "om0" | ((with_reducible refine Nat.ne_of_lt ?_); k_extra "om0") | ((with_reducible refine Nat.ne_of_gt ?_); k_extra "om0") | ((with_reducible refine Ne.symm ?_); k_extra "om0") | ((with_reducible refine' Nat.lt_of_le_of_lt (Nat.add_le_add_left ?p9 _) ?q9); (case q9 => with_reducible assumption); (case p9 => decide)) | ((with_reducible refine' Nat.le_trans ?p9 ?q9); (case p9 => k_extra "om0"); (case q9 => decide)) | ((with_reducible refine' Nat.lt_of_le_of_lt ?p9 ?q9); (case p9 => k_extra "om0"); (case q9 => decide)) | ((with_reducible refine' Int.le_trans ?p9 ?q9); (case p9 => k_extra "om0"); (case q9 => decide)) | ((with_reducible refine' Int.le_trans ?p9 ?q9); (case q9 => k_extra "om0"); (case p9 => decide)) | ((with_reducible refine' Int.lt_of_le_of_lt ?p9 ?q9); (case p9 => k_extra "om0"); (case q9 => decide)) | ((with_reducible refine' Int.lt_of_lt_of_le ?p9 ?q9); (case q9 => k_extra "om0"); (case p9 => decide)) | ((with_reducible refine And.intro ?_ ?_) <;> omega) | lia)
  k_with "subscriptTail" => (k_dflt (((with_reducible show wpAny _ _ (subscriptTail _ (PySem.Expr.Slice _ _ none _) _ _) _ _ _); (rename Fr _ _ _ _ => F9); refine' kms_slice_lit (zs := vs.take 16) (news := []) F9 News.nil (hSc.at fun o e => F9.keep _ _ e) ?sp ?sq ?se ?_ ?ss ?st ?sz; (case sp => kmk_part); (case sq => kmk_part); (case se => exact slice_16 vs); (case ss => with_unfolding_all rfl); (case st => kmk_pure); (case sz => (rw [List.size_toArray, sizeLine_eq, hv.length]; omega)); k_whole; intro Sd h' F' N' l1)))
  k_with "call ref" => (k_dflt ((rename News _ _ _ _ => N9); (rename Fr _ _ _ _ => F9); (try k_fold); refine' con_use0 (rows_ok (n0 := 0) hvt ?x2) ?k1 ?k2 ?k3 ?k4 ?k5 ?kK ?ks ?kt ?kd ?ku ?_; (case k1 => k_asm); (case k2 => k_asm); (case k3 => k_asm); (case k4 => k_asm); (case k5 => k_asm); (case kK => exact rfl); (case ks => (first | (refine sub_of ?_; (repeat (first | refine List.Sublist.cons_cons _ ?_ | ((fail_if_success exact List.nil_sublist _); refine List.Sublist.cons _ ?_))); exact List.nil_sublist _) | ((repeat (refine all_cons (by k_mem) ?_)); exact List.forall_mem_nil _))); (case kt => first | exact List.forall_mem_nil _ | ((repeat (refine all_cons (by first | exact (News.get (by k_asm) (by k_mem)) | exact Fr.keep (by k_asm) _ _ (by assumption)) ?_)); exact List.forall_mem_nil _)); (case kd => omega); (case ku => omega); (case x2 => (rw [List.length_take]; omega)); k_whole; intro r9 h' tk' F' N' p9; obtain ⟨Ch, V, No, Ga, Rw, c, rfl, hord, hRI, hall, hit, hoff⟩ := p9; have N' := news_swap (news_all F9 hall N'); clear hall; simp only [List.cons_append, List.nil_append] at N'; have hsz := size_is (ns.take 16); have hsz1 : 8 ≤ rowsSize (ns.take 16) ∧ rowsSize (ns.take 16) ≤ 13 := ⟨hsz.2.1, hsz.2.2⟩; clear hsz; (try dsimp only); (try k_sweep)))
  k_with "call ref" => (k_dflt ((rename News _ _ _ _ => N9); (rename Fr _ _ _ _ => F9); (try k_fold); refine' con_use0 (law_at_ok (n1 := 0) hvt ?y1 ?y2) ?k1 ?k2 ?k3 ?k4 ?k5 ?kK ?ks ?kt ?kd ?ku ?_; (case k1 => k_asm); (case k2 => k_asm); (case k3 => k_asm); (case k4 => k_asm); (case k5 => k_asm); (case kK => exact rfl); (case ks => (intro p9 hp9; repeat (first | exact hp9 | exact List.mem_append_left _ hp9 | exact List.mem_append_right _ hp9 | refine List.mem_append_left _ ?_ | refine List.Mem.tail _ ?_))); (case kt => exact List.forall_mem_nil _); (case kd => omega); (case ku => omega); (case y1 => (rw [List.length_take]; omega)); (case y2 => omega); k_whole; intro r9 h' tk' F' N' p9; obtain ⟨t9, rfl⟩ := p9; (try dsimp only); (try k_sweep)))
  k_with "call builtin:len" => (k_dflt (((rename News _ _ _ _ => N9); refine my_len (isList_of (N9 (Ch, listOf c.chv.toArray c.n1) (by k_mem)).1) hRI.lch (by omega) ?_)))
  have h15 : -3 ≤ (lawAt (ns.take 16) 15).fmod 7 - 3 ∧ (lawAt (ns.take 16) 15).fmod 7 - 3 ≤ 3 := by
    have := Int.fmod_nonneg_of_pos (lawAt (ns.take 16) 15) (show (0 : Int) < 7 by decide)
    have := Int.fmod_lt_of_pos (lawAt (ns.take 16) 15) (show (0 : Int) < 7 by decide)
    omega
  have h2 : 0 ≤ (lawAt (ns.take 16) 2).fmod 3 ∧ (lawAt (ns.take 16) 2).fmod 3 < 3 := ⟨Int.fmod_nonneg_of_pos _ (by decide), Int.fmod_lt_of_pos _ (by decide)⟩
  have h1 : 0 ≤ (lawAt (ns.take 16) 1).fmod 500 ∧ (lawAt (ns.take 16) 1).fmod 500 < 500 := ⟨Int.fmod_nonneg_of_pos _ (by decide), Int.fmod_lt_of_pos _ (by decide)⟩
  k_with "call ref" => (k_dflt (((with_reducible show wpAny _ _ (call (Value.ref 389) _) _ _ _); (rename News _ _ _ _ => N9); (rename Fr _ _ _ _ => F9); refine' is_refused_at B F9 X N9 T ?ik ⟨by omega, by omega⟩ ?id ?iu ?_; (case ik => exact rfl); (case id => omega); (case iu => omega); k_whole; intro h' tk' F' N')))
  k_with "newTuple" => (k_dflt (((rename News _ _ _ _ => N9); (rename Fr _ _ _ _ => F9); refine' kup_newTuple F9 N9 ?_ ?tz; (case tz => kmk_size); k_whole; (first | ((fail_if_success (have t9 := Tb)); intro Tb h' F' N' l1) | intro Rc h' F' N' l1); (try k_lt l1))))
  k_with "eval Dict nil nil" => (k_dflt ((refine' newDict_K ?k1 ?k2 (TopRead.nolimit (by k_asm)) ?_; (case k1 => k_asm); (case k2 => k_asm); k_whole; (first | ((fail_if_success (have t9 := D0)); intro D0 h' od0 F' N' l1 lo' hs' fs' hi' fi') | intro D2 h' od2 F' N' l1 lo' hs' fs' hi' fi'); (try k_lt l1); (try k_sweep))))
  k_with "binaryOp Mult ref int" => (k_dflt (((rename News _ _ _ _ => N9); (rename Fr _ _ _ _ => F9); (refine' kbo_mul (vs := [.bool false]) (bs := [false]) F9 N9 (isList_of (N9 (_, listOf #[.bool false] 0) (by k_mem)).1) (by kbo_bools) ?mlo ?mhi ?msz ?_; (case mlo => omega); (case mhi => omega); (case msz => ((show 1 * _ ≤ 2 ^ 24); omega)); k_whole; (intro D' h' F' N' l1 i1 n1 s1 e1 e2 e3 e4); clear i1 s1 e1 e2 e3 e4); (try k_lt l1))))
  k_with "call ref" => (k_dflt (((with_reducible show wpAny _ _ (call (Value.ref 335) _) _ _ _); (rename News _ _ _ _ => N9); (rename Fr _ _ _ _ => F9); refine' game_call B F9 X N9 T ?gk ?gd ?gu ?_; (case gk => exact rfl); (case gd => omega); (case gu => omega); k_whole; intro G Gd P g1 g2 g3 g4 g5 g6 g7 q1 q2 q3 q4 q5 q6 q7 t0 h' tk' F' N' lG lG1 lG2; have lG0 : @LT.lt Nat _ Rw Gd := lG (Rw, tupO [.ref Ch, .ref V, .ref No, .ref Ga]) (by k_mem); have lGi : ∀ p ∈ c.imm, @LT.lt Nat _ p.1 Gd := (fun p hp => lG p (by (repeat (first | exact hp | refine List.Mem.tail _ ?_)))); clear lG)))
  k_with "call ref" => (k_dflt (((with_reducible show wpAny _ _ (call (Value.ref 117) _) _ _ _); (rename News _ _ _ _ => N9); (rename Fr _ _ _ _ => F9); refine' history_call B F9 X N9 T ?gk ?gl ?gd ?gu ?_; (case gk => exact rfl); (case gl => omega); (case gd => omega); (case gu => omega); k_whole; intro Hx Hd S so hh1 hh2 hk1 hk2 h' tk' F' N' lH lH1 lH2 hso hlS; have lH0 : @LT.lt Nat _ P Hd := lH _ (.head _); clear lH)))
  k_with "call ref" => (k_dflt (((with_reducible show wpAny _ _ (call (Value.ref 159) _) _ _ _); (rename News _ _ _ _ => N9); (rename Fr _ _ _ _ => F9); refine' killers_call B F9 X N9 T ?gk ?gl ?gd ?gu ?_; (case gk => exact rfl); (case gl => omega); (case gd => omega); (case gu => omega); k_whole; intro Kx Kd F1 F2 kn1 kn2 kvs1 kvs2 kh1 kh2 kh3 kk1 kk2 kk3 h' tk' F' N' lK lK1 lK2 lK3 hi1 hi2; have lK0 : @LT.lt Nat _ S Kd := lK _ (.head _); clear lK)))
  k_with "call ref" => (k_dflt (((with_reducible show wpAny _ _ (call (Value.ref 194) _) _ _ _); (rename News _ _ _ _ => N9); (rename Fr _ _ _ _ => F9); refine' counters_call B F9 X N9 T ?gk ?gd ?gu ?_; (case gk => exact rfl); (case gd => omega); (case gu => omega); k_whole; intro Cx Cd R ro ch1 ck1 h' tk' F' N' lC lC1 lC2 hro hlR; have lC0 : @LT.lt Nat _ F2 Cd := lC _ (.head _); clear lC)))
  k_with "eval ListComp" => (k_dflt (((rename Fr _ _ _ _ => F9); refine' comp_objE (h₀ := h₀) (L := L) F9 ?phh ?pclos ?pcell ?pkind ?pnames ?px ?_ ?ps; (case phh => exact rfl); (case pclos => with_unfolding_all rfl); (case pcell => decide); (case pkind => with_unfolding_all rfl); (case pnames => decide); (case px => with_unfolding_all rfl); (case ps => intro _; with_unfolding_all rfl); k_whole)))
  k_with "CompR" => (k_dflt (((rename News _ _ _ _ => N9); (rename Fr _ _ _ _ => F9); (with_reducible rename IsRange _ _ _ _ _ _ _ _ => hR9); have hct : 1 + (lawAt (ns.take 16) 2).fmod 3 = ((1 + (lawAt (ns.take 16) 2).fmod 3).toNat : Int) := (by omega); obtain ⟨hq1, hq2⟩ := range_nat (n := (1 + (lawAt (ns.take 16) 2).fmod 3).toNat) (by omega); refine' CompOP.intro (1 + (lawAt (ns.take 16) 2).fmod 3).toNat hR9 ?rsm ?rsz ?rln F9 N9 ?_ ?_; (case rsm => (rw [← hct] at hq2; exact hq2)); (case rsz => (rw [← hct] at hq1; exact hq1.trans hct)); (case rln => (rw [sizeLine_eq]; omega)); (case' refine'_1 => (intro C k tkk s₂ m₂ E' hk hns hmx hkeep; have F2 := fr_stays0 F9 hkeep; have N2 := news_stays0 N9 hkeep; clear F9 N9 hR9 hq1 hq2)); (case' refine'_2 => (intro Pl ps kD h' tk F' N' hpn l1 hpl hpR; (try k_lt l1); obtain ⟨hpn, hpo⟩ := hpn; clear F9 N9 hR9 hq1 hq2; simp only [List.cons_append, List.append_assoc] at N')))))
  k_with "eval List" => (k_dflt (((with_reducible show wpAny _ _ (eval (Expr.List _ _) (compEnvC _ _ _ _)) _ _ _); refine' list_newE ?_)))
  k_with "exec For Name List cons nil" => (k_dflt ((refine' Stop.out ?_)))
  k_with "exec For Name Call cons nil" => (k_dflt ((((with_reducible show wpAny _ _ (exec (Stmt.For (Expr.Name (Str.ofString "side") _) _ _ _ _) _) _ _ _); (rename Fr _ _ _ _ => F9); (rename News _ _ _ _ => N9); refine' law_sides (a := reA a9 S5 f5) (σ := σ5) hoB.out rfl B X T ?sd ?su hW5 F9 N9 hk5 ?_; (case sd => omega); (case su => omega); k_whole; intro h' tk' m6 F' N' hk6; (try dsimp only)))))
  k_with "exec For Name Call cons nil" => (k_dflt ((((with_reducible show wpAny _ _ (exec (Stmt.For (Expr.Name (Str.ofString "ply") _) _ _ _ _) _) _ _ _); (rename Fr _ _ _ _ => F9); (rename News _ _ _ _ => N9); refine' law_plys (a := reA a9 S5 f5) (σ := σ5) hoB.out rfl B X T ?sd ?su hW5 F9 N9 hk6 ?_; (case sd => omega); (case su => omega); k_whole; intro h' tk' m7 F' hk7; have F' := fr_names F' hk7; (dsimp only [lawNames, kstB] at F'); (try dsimp only)))))
  k_steps
  rotate_left
  · exact .cons _ _ (.cons _ _ .nil)
  · exact ⟨_, _, rfl, fun _ _ e => e⟩
  refine ⟨?_⟩
  (rename News _ _ _ _ => N9)
  (rename Fr _ _ _ _ => F9)
  have hiL : AllLt Gd c.imm := allLt_from lGi
  have hio : inc Ch [V, No, Ga, Rw, Gd, G, P, Hd, Hx, S, Kd, Kx, F1, F2, Cd, Cx, R, Tb, D0, Pl, D2, Rc] := by simp only [inc, and_true]; omega
  have hpL : AllLt D2 (c.imm ++ ps) := by
    refine pk2 (A := Pl < D2) (B := D0 < D2) (by assumption) ?_
    intro h
    iterate 60 (first | done | exact h | replace h := h.2)
  obtain ⟨a9, σ9, hW9, hA9, N9', hadr, hl9, hpl9⟩ := world_begin (w := w) (g := h₀) (Gd := Gd) (G := G) (P := P) (Ch := Ch) (V := V) (No := No) (Ga := Ga) (Kd := Kd) (Kx := Kx) (F1 := F1) (F2 := F2) (Hd := Hd) (Hx := Hx) (S := S) (Cd := Cd) (Cx := Cx) (R := R) (D0 := D0) (Pl := Pl) (D2 := D2) (Tb := Tb) (Rc := Rc) (Rw := Rw) (so := so) (ro := ro) (d0 := od0) (d2 := od2) (imm := c.imm) (ps := ps) (l := 20 + (lawAt (ns.take 16) 1).fmod 500) (pl := 1 + (lawAt (ns.take 16) 2).fmod 3)
    (fun p hp => N9 p (by revert p; exact (by (iterate 23 (refine all_cons (by k_mem) ?_)); (intro p hp); (repeat (first | exact hp | refine List.Mem.tail _ ?_))))) hio hRI ⟨by omega, hsz1.2⟩ hlS hlR (by assumption) (by assumption) (by omega) (by omega) hso hro ⟨by assumption, by assumption⟩ ⟨by assumption, by assumption⟩ hi1 hi2 hit hiL hoff hpl hpR hpn (by (repeat (refine all_cons (hpo (_, _) (by k_mem)) ?_)); exact List.forall_mem_nil _) hpL
  refine' law_depths (a := a9) (σ := σ9) (low := (lawAt (ns.take 16) 15).fmod 7 - 3) hoB.out rfl B X T ?sd ?su hW9 hA9 h15 F9 N9' ?sk ?_
  case sd => omega
  case su => omega
  case sk =>
    unfold lawNames
    exact names_cons (by (show some (Value.bool _) = some (Value.bool _)); simp only [beq_self_eq_true]) (names_cons rfl (names_cons (ref_eq hadr.2.2.2.2.2.2.2.2.2.2.1 rfl) (names_cons (ref_eq hadr.2.2.2.2.2.2.2.2.1 rfl) (names_cons (ref_eq hadr.2.2.2.2.2.2.2.1 rfl) (names_cons (ref_eq hadr.2.2.2.2.2.2.1 rfl) (names_cons (ref_eq hadr.2.2.2.2.2.2.2.2.2.1 rfl) (names_cons (int_eq hpl9 rfl) (names_cons (int_eq hl9 rfl) (names_cons (ref_eq hadr.2.2.2.2.2.1 rfl) (names_cons (ref_eq hadr.1 rfl) (names_cons (ref_eq hadr.2.1 rfl) (names_cons (ref_eq hadr.2.2.2.2.1 rfl) (fun _ h => nomatch h)))))))))))))
  k_whole
  intro S5 f5 σ5 h' tk' m5 hW5 F' N' hk5
  (try dsimp only)
  k_steps
  (rename Fr _ _ _ _ => F9)
  exact ret _ _ F9.keep
end
section
theorem on_Z3 : True := by
  k_with_none
  k_with "om2" => (lia)
  trivial
/-! the law holds -/
theorem wp_safe {M : Model} {A : Around} {α : Type} {t : Sem α} {Q : α → Shared → Prop} {E : Value → Shared → Prop} {s : Shared} (h : wpAny M A t Q (fun _ _ => False) s) : wpAny M A t Q E s := wpAny_mono h (fun _ _ q => q) fun _ _ z => z.elim
set_option maxHeartbeats 8000000 in
theorem law_top {K : Params → Frag} {V : Program} (eK : K = hd.heap_39) (eV : V = hd.view_39) {w : World} {Sc : Nat} {vs : List Value} {ns : List Int} {oc dV kV doc pm cdv ct : Value} {od an : Option Addr} {osl : Array (Option Value)} {name qual : Str} {params : Arguments} {body : List Stmt} {scope : Scope}
    (ho : (hd.heap_39 w.params).lookup 394 = some ⟨oc, od, .func (fnOf name qual params body scope dV kV doc pm an cdv ct), osl⟩) {dp un : Nat} {gd : Option (List Code)} {cn : Str} {a : Addr} {ccd : Value} {A₀ : Around} {h₀ h₁ : Heap} {L : Nat} {s : Shared} {mean : ExcName → Option Value} {mg mb : Str → Option Value} {Q : Flow → Shared → Prop} {tk : Nat}
    (B : Below A₀ h₀ [] h₀) (X : (K w.params).In h₀) (T : Top V (looseW V []) mean mg mb h₀) (hSc : h₀.IsList Sc vs.toArray) (hv : IntsAre vs ns) (hl : ns.length ≤ 63) (hD : dp + 200 < recursionLimit) (hU : un + 800 < cLine)
    (F : Fr h₀ L h₁ (fun y => List.lookup y [(Str.ofString "script", Value.ref Sc)].reverse)) (ret : ∀ h' tk', (∀ b o, h₀.get? b = some o → h'.get? b = some o) → Q (.ret (.bool true)) { s with heap := h', toks := tk' }) :
    wpAny (model PySem.Challenge.rw_nt0425_01.row.prog w) (ktrTop dp un gd cn scope L a ccd [] []) (execs body (envOf cn scope L a ccd)) Q (fun _ _ => False) { s with heap := h₁, toks := tk } := by
  subst eK eV
  exact law_body2 ho B X T hSc hv hl hD hU F ret
theorem hq.tw6442286201827202927 : True := trivial
theorem hq.tw13751960006981385605 : True := trivial
theorem hq.tw12391500430906805003 : True := trivial
theorem hq.tw9901041768872518651 : True := trivial
theorem hq.tw5611102857607521741 : True := trivial
theorem hq.tw18023701660430168103 : True := trivial
theorem hq.tw233199577985559970 : True := trivial
theorem hq.tw12634840236772402975 : True := trivial
theorem hq.tw9371571126222788686 : True := trivial
theorem hq.tw15534325259311548342 : True := trivial
theorem hq.tw9428742883436320482 : True := trivial
theorem hq.tw12664413295080255743 : True := trivial
theorem hq.tw2367623169485729044 : True := trivial
theorem hq.tw7089316416521786280 : True := trivial
theorem hq.tw16393828553131281715 : True := trivial
theorem hq.tw1790225447845560585 : True := trivial
theorem hq.tw16809807526908380884 : True := trivial
theorem hq.tw909575876175560465 : True := trivial
theorem hq.tw9083301775340355608 : True := trivial
theorem hq.tw4666310112322607275 : True := trivial
theorem hq.tw2640350884122359693 : True := trivial
theorem hq.tw17371673905730003010 : True := trivial
theorem hq.tw674073021615805732 : True := trivial
theorem hq.tw12911645755892562355 : True := trivial
theorem hq.tw13316007477278045594 : True := trivial
theorem hq.tw10737892303006934758 : True := trivial
theorem hq.tw14772127340083367040 : True := trivial
theorem hq.tw5691554338385257998 : True := trivial
theorem hq.tw3560430997919898871 : True := trivial
theorem hq.tw4346122449067867847 : True := trivial
theorem hq.tw12481044172393887954 : True := trivial
theorem hq.tw13100683107442814338 : True := trivial
theorem hq.tw1750795104730000546 : True := trivial
theorem hq.tw8238198130762350294 : True := trivial
theorem hq.tw8914243485484973694 : True := trivial
theorem hq.tw15605367927325121165 : True := trivial
theorem hq.tw1700315315751232304 : True := trivial
theorem hq.tw4057580815170638606 : True := trivial
theorem hq.tw1441488458906403996 : True := trivial
theorem hq.tw11904904241039891960 : True := trivial
theorem hq.tw13328776239465341797 : True := trivial
theorem hq.tw2757439949053186533 : True := trivial
theorem hq.tw7179472203213589255 : True := trivial
theorem hq.tw12360401225053915393 : True := trivial
theorem hq.tw3313988557390523843 : True := trivial
theorem hq.tw2050150026035442444 : True := trivial
theorem hq.tw18340721319590389962 : True := trivial
theorem hq.tw9612742909652353465 : True := trivial
theorem hq.tw1803784778914781481 : True := trivial
theorem hq.tw2060327042702796305 : True := trivial
theorem hq.tw13029019406344279537 : True := trivial
theorem hq.tw3480666100315175299 : True := trivial
theorem hq.tw5914124745671280715 : True := trivial
theorem hq.tw2996563815162090415 : True := trivial
theorem hq.tw11085315714167747792 : True := trivial
theorem hq.tw5731166914374295624 : True := trivial
theorem hq.tw12889914191371890957 : True := trivial
theorem hq.tw10000794576204330153 : True := trivial
theorem hq.tw37697335950043382 : True := trivial
theorem hq.tw722643689031310280 : True := trivial
theorem hq.tw3085968280470273992 : True := trivial
theorem hq.tw8138599290071183656 : True := trivial
theorem hq.tw3154463578298619625 : True := trivial
theorem hq.tw17790109234249064360 : True := trivial
theorem hq.tw6118443615581677530 : True := trivial
theorem hq.tw6815685841524224632 : True := trivial
theorem hq.tw14394908094971963398 : True := trivial
theorem hq.tw540485975783732659 : True := trivial
theorem hq.tw13495405613607610781 : True := trivial
theorem hq.tw13959481576897727349 : True := trivial
theorem hq.tw17191537605157243135 : True := trivial
theorem hq.tw1945927827826211355 : True := trivial
theorem hq.tw12617662541128001882 : True := trivial
theorem hq.tw2408465754971806201 : True := trivial
theorem hq.tw10092852166775279130 : True := trivial
theorem hq.tw9763324061818089090 : True := trivial
theorem hq.tw13058460094631807453 : True := trivial
theorem hq.tw4167004640589313651 : True := trivial
theorem hq.tw1102692453144107117 : True := trivial
theorem hq.tw8049949838826251480 : True := trivial
theorem hq.tw8377207884362891880 : True := trivial
theorem hq.tw3413191660162019370 : True := trivial
theorem hq.tw4194152291734139813 : True := trivial
theorem hq.tw11402776170388669038 : True := trivial
theorem hq.tw12939260477051835880 : True := trivial
theorem hq.tw4489070043729951717 : True := trivial
theorem hq.tw3478883397168826629 : True := trivial
theorem hq.tw5749674737630268323 : True := trivial
theorem hq.tw12428739965439566872 : True := trivial
theorem hq.tw15947022525539137760 : True := trivial
theorem hq.tw7276312473770576539 : True := trivial
theorem hq.tw5906174600817787350 : True := trivial
theorem hq.tw11641537968807545709 : True := trivial
theorem hq.tw16867273931720873272 : True := trivial
theorem hq.tw13001207721643841512 : True := trivial
theorem hq.tw7079364385445073895 : True := trivial
theorem hq.tw17313500477962296120 : True := trivial
theorem hq.tw6492908563196855892 : True := trivial
theorem hq.tw1699184128476920462 : True := trivial
theorem hq.tw15170669351824557439 : True := trivial
theorem hq.tw9549253132143110608 : True := trivial
theorem hq.tw540608965632813519 : True := trivial
theorem hq.tw10223406500745991142 : True := trivial
theorem hq.tw16635847823566414107 : True := trivial
theorem hq.tw9151865133259420103 : True := trivial
theorem hq.tw1140332349131322219 : True := trivial
theorem hq.tw2175518295204102879 : True := trivial
theorem hq.tw13398516417001538080 : True := trivial
theorem hq.tw12485548662368916749 : True := trivial
theorem hq.tw16086767934403656065 : True := trivial
theorem hq.tw13133925777924542315 : True := trivial
theorem hq.tw8280607470232188737 : True := trivial
theorem hq.tw13486078771128344647 : True := trivial
theorem hq.tw2338785445158028428 : True := trivial
theorem hq.tw1383527236628300131 : True := trivial
theorem hq.tw781474288783034380 : True := trivial
theorem hq.tw10957233804992961332 : True := trivial
theorem hq.tw8813382931127158424 : True := trivial
theorem hq.tw18377318545847360015 : True := trivial
theorem hq.tw7850188486041987321 : True := trivial
theorem hq.tw16549860719943262585 : True := trivial
theorem hq.tw10458149777495872852 : True := trivial
theorem hq.tw14587594007023303460 : True := trivial
theorem hq.tw6112821752894491310 : True := trivial
theorem hq.tw17389483476063430775 : True := trivial
theorem hq.tw2892858402054980869 : True := trivial
theorem hq.tw1860683089816694825 : True := trivial
theorem hq.tw13406518014326716138 : True := trivial
theorem hq.tw9665148385174541716 : True := trivial
theorem hq.tw10844470459063464443 : True := trivial
theorem hq.tw9950089704063908547 : True := trivial
theorem hq.tw12790755645740596454 : True := trivial
theorem hq.tw8308388744524497552 : True := trivial
theorem hq.tw11961918275323247916 : True := trivial
theorem hq.tw17641890241275046623 : True := trivial
theorem hq.tw11824069836422780227 : True := trivial
theorem hq.tw17417107624613210504 : True := trivial
theorem hq.tw9105997651957022955 : True := trivial
theorem hq.tw15385585939819168887 : True := trivial
theorem hq.tw9133466482286349414 : True := trivial
theorem hq.tw7795197914602774408 : True := trivial
theorem hq.tw10914737284747560342 : True := trivial
theorem hq.tw7723358927924880359 : True := trivial
theorem hq.tw17719787235402466642 : True := trivial
theorem hq.tw4741875132220596311 : True := trivial
theorem hq.tw1629939692016619404 : True := trivial
theorem hq.tw4724890111835787062 : True := trivial
theorem hq.tw10340674731281136786 : True := trivial
theorem hq.tw10312157954276465073 : True := trivial
theorem hq.tw15944341401679933261 : True := trivial
theorem hq.tw12728415866068041311 : True := trivial
theorem hq.tw4611843103851283707 : True := trivial
theorem hq.tw4836737923570769024 : True := trivial
theorem hq.tw5582761554524759094 : True := trivial
theorem hq.tw9493725803484967530 : True := trivial
theorem hq.tw9034970781958629739 : True := trivial
theorem hq.tw15752517208743610924 : True := trivial
theorem hq.tw8698537833381394938 : True := trivial
theorem hq.tw11794156653299175416 : True := trivial
theorem hq.tw8073309143868657023 : True := trivial
theorem hq.tw10384215637601404327 : True := trivial
theorem hq.tw1702131522092824670 : True := trivial
theorem hq.tw18201938650840483205 : True := trivial
theorem hq.tw5991825269154617347 : True := trivial
theorem hq.tw7409416600757584363 : True := trivial
theorem hq.tw13468631102399112637 : True := trivial
theorem hq.tw14121371055001849588 : True := trivial
theorem hq.tw16807017868417353128 : True := trivial
theorem hq.tw16964586414034191684 : True := trivial
theorem hq.tw10001376382149582108 : True := trivial
theorem hq.tw9659669307319190640 : True := trivial
theorem hq.tw14237485161361176573 : True := trivial
theorem hq.tw15976676881008073619 : True := trivial
theorem hq.tw6279407891034730392 : True := trivial
theorem hq.tw6156483766952535384 : True := trivial
theorem hq.tw6655851296632736839 : True := trivial
theorem hq.tw3858470327796980622 : True := trivial
theorem hq.tw195319319105484837 : True := trivial
theorem hq.tw8635002137240528865 : True := trivial
theorem hq.tw4115226851099395319 : True := trivial
theorem hq.tw860166213271251909 : True := trivial
theorem hq.tw9954246468241796668 : True := trivial
theorem hq.tw9867696046603355536 : True := trivial
theorem hq.tw18250771422189292895 : True := trivial
theorem hq.tw17480515895037040760 : True := trivial
theorem hq.tw15629568606158070697 : True := trivial
theorem hq.tw10376031466752974828 : True := trivial
theorem hq.tw6336642640299219094 : True := trivial
theorem hq.tw3616478996217396334 : True := trivial
theorem hq.tw1775702854415158705 : True := trivial
theorem hq.tw3106084185226902877 : True := trivial
theorem hq.tw7589107396602480322 : True := trivial
theorem hq.tw11550264267855334806 : True := trivial
theorem hq.tw4439803078412725676 : True := trivial
theorem hq.tw16003533353896068565 : True := trivial
theorem hq.tw16498171049323729267 : True := trivial
theorem hq.tw5895416178271551497 : True := trivial
theorem hq.tw5186555515663700001 : True := trivial
theorem hq.tw2568601839324270733 : True := trivial
theorem hq.tw7587259842506438161 : True := trivial
theorem hq.tw11895432268523212573 : True := trivial
theorem hq.tw3647894231261621685 : True := trivial
theorem hq.tw925611148017520223 : True := trivial
theorem hq.tw18141165161687149130 : True := trivial
theorem hq.tw16325697439411301246 : True := trivial
theorem hq.tw10557348633716791549 : True := trivial
theorem hq.tw2446711658860428672 : True := trivial
theorem hq.tw17451322227400245958 : True := trivial
theorem hq.tw14567226737135143758 : True := trivial
theorem hq.tw533107537510362154 : True := trivial
theorem hq.tw8201169055858481340 : True := trivial
theorem hq.tw11596143682707957329 : True := trivial
theorem hq.tw5740101952899550972 : True := trivial
theorem hq.tw2921467058064614194 : True := trivial
theorem hq.tw2267212845272169836 : True := trivial
theorem hq.tw4665913176990191628 : True := trivial
theorem hq.tw5219493252240457098 : True := trivial
theorem hq.tw12235868485125894331 : True := trivial
theorem hq.tw5131631581878701464 : True := trivial
theorem hq.tw15952631729719037887 : True := trivial
theorem hq.tw8612858684465989739 : True := trivial
theorem hq.tw6738601660276500248 : True := trivial
theorem hq.tw384518735521986950 : True := trivial
theorem hq.tw8267469052338804902 : True := trivial
theorem hq.tw9604195178463712877 : True := trivial
theorem hq.tw17688041192245645826 : True := trivial
theorem hq.tw17939040331521840985 : True := trivial
theorem hq.tw16936868174623810526 : True := trivial
theorem hq.tw14768286036203141162 : True := trivial
theorem hq.tw2320559199587278016 : True := trivial
theorem hq.tw8843670863553936208 : True := trivial
theorem hq.tw5070146122541468937 : True := trivial
theorem hq.tw12417311007122829836 : True := trivial
theorem hq.tw193804917870597374 : True := trivial
theorem hq.tw5288753061374985246 : True := trivial
theorem hq.tw1618621502537572984 : True := trivial
theorem hq.tw10968501387965271627 : True := trivial
theorem hq.tw1569526789006978644 : True := trivial
theorem hq.tw16782676387622030179 : True := trivial
theorem hq.tw13605588708827000737 : True := trivial
theorem hq.tw6304881022484498786 : True := trivial
theorem hq.tw17486772711794031567 : True := trivial
theorem hq.tw7128186512092943417 : True := trivial
theorem hq.tw15114332125836811107 : True := trivial
theorem hq.tw18202350345258979435 : True := trivial
theorem hq.tw6693717068639252140 : True := trivial
theorem hq.tw12058654197788596436 : True := trivial
theorem hq.tw10808934275972336993 : True := trivial
theorem hq.tw8114841426480393502 : True := trivial
theorem hq.tw8703168442280000639 : True := trivial
theorem hq.tw16757073528338650253 : True := trivial
theorem hq.tw14187982978997237623 : True := trivial
theorem hq.tw12771422461613121140 : True := trivial
theorem hq.tw4288558672954378248 : True := trivial
theorem hq.tw7237109403779468564 : True := trivial
theorem hq.tw1500719978199872653 : True := trivial
theorem hq.tw7943481926809457172 : True := trivial
theorem hq.tw12892139197361222039 : True := trivial
theorem hq.tw15256606102660637263 : True := trivial
theorem hq.tw13835040335912294723 : True := trivial
theorem hq.tw1601456569762913703 : True := trivial
theorem hq.tw12224511430472119265 : True := trivial
theorem hq.tw10366571678140251363 : True := trivial
theorem hq.tw7902054454379397355 : True := trivial
theorem hq.tw14886498140707089192 : True := trivial
theorem hq.tw9031073068422697509 : True := trivial
theorem hq.tw4797868753551183999 : True := trivial
theorem hq.tw4700772123730980896 : True := trivial
theorem hq.tw12219819207030029821 : True := trivial
theorem hq.tw8878085667783850231 : True := trivial
theorem hq.tw5080482457446688561 : True := trivial
theorem hq.tw13370623703081640355 : True := trivial
theorem hq.tw9616370734746824208 : True := trivial
theorem hq.tw7813778406405503521 : True := trivial
theorem hq.tw13127699335793737955 : True := trivial
theorem hq.tw16653776548582141348 : True := trivial
theorem hq.tw17490343775666085965 : True := trivial
theorem hq.tw3702623868654441055 : True := trivial
theorem hq.tw9381266235724177792 : True := trivial
theorem hq.tw13946695615888808057 : True := trivial
theorem hq.tw8632563731568542535 : True := trivial
theorem hq.tw10899058296728633960 : True := trivial
theorem hq.tw9901537562536030562 : True := trivial
theorem hq.tw8172153524177814700 : True := trivial
theorem hq.tw639632618262785173 : True := trivial
theorem hq.tw8062890331336429170 : True := trivial
theorem hq.tw2609510587700438405 : True := trivial
theorem hq.tw17982033904585381360 : True := trivial
theorem hq.tw6815287188669290861 : True := trivial
theorem hq.tw1111263606911284345 : True := trivial
theorem hq.tw11363321000426732400 : True := trivial
theorem hq.tw9188848632486924633 : True := trivial
theorem hq.tw4222511593086879587 : True := trivial
theorem hq.tw13510361038845904283 : True := trivial
theorem hq.tw2214581351128497116 : True := trivial
theorem hq.tw6831830282658272535 : True := trivial
theorem hq.tw6544732300459080682 : True := trivial
theorem hq.tw430407546983676048 : True := trivial
theorem hq.tw9563767174587072967 : True := trivial
theorem hq.tw15499493932771899486 : True := trivial
theorem hq.tw2045184105028282238 : True := trivial
theorem hq.tw13023949505232002771 : True := trivial
theorem hq.tw17113052037052540601 : True := trivial
theorem hq.tw4330991180929535625 : True := trivial
theorem hq.tw12545650446048111660 : True := trivial
theorem hq.tw12964062633142722049 : True := trivial
theorem hq.tw12529400630473540704 : True := trivial
theorem hq.tw8954724947790862241 : True := trivial
theorem hq.tw3406242299724796062 : True := trivial
theorem hq.tw13276833702047066570 : True := trivial
theorem hq.tw9366186876789818649 : True := trivial
theorem hq.tw3858204857450945017 : True := trivial
theorem hq.tw16911447347678364338 : True := trivial
theorem hq.tw10671993194109991074 : True := trivial
theorem hq.tw801188883035828325 : True := trivial
theorem hq.tw11747441341411472974 : True := trivial
theorem hq.tw1738449604571460292 : True := trivial
theorem hq.tw16729471575171175110 : True := trivial
theorem hq.tw11762732935092854722 : True := trivial
theorem hq.tw17715228584645818311 : True := trivial
theorem hq.tw4214643438969434645 : True := trivial
theorem hq.tw15276287227970242661 : True := trivial
theorem hq.tw2147655035671245215 : True := trivial
theorem hq.tw18033964682163610285 : True := trivial
theorem hq.tw13476868197079124524 : True := trivial
theorem hq.tw5831826152446136541 : True := trivial
theorem hq.tw319490229744429039 : True := trivial
theorem hq.tw10371403677947509614 : True := trivial
theorem hq.tw8094907942427954523 : True := trivial
theorem hq.tw9876288160915811745 : True := trivial
theorem hq.tw9011297252748127280 : True := trivial
theorem hq.tw17507516277433102289 : True := trivial
theorem hq.tw15182601442485666286 : True := trivial
theorem hq.tw13976329359730278593 : True := trivial
theorem hq.tw10193580565110878322 : True := trivial
theorem hq.tw15450133903358312512 : True := trivial
theorem hq.tw9904924192073418881 : True := trivial
theorem hq.tw8116986973751701504 : True := trivial
theorem hq.tw9814521365788848951 : True := trivial
theorem hq.tw14322759412192637791 : True := trivial
theorem hq.tw7106466396363661638 : True := trivial
theorem hq.tw7987718348732695843 : True := trivial
theorem hq.tw3880375719507622018 : True := trivial
theorem hq.tw11149061711742648548 : True := trivial
theorem hq.tw10775009283162208714 : True := trivial
theorem hq.tw5429477869994368367 : True := trivial
theorem hq.tw15487811534215124188 : True := trivial
theorem hq.tw18064312367536619883 : True := trivial
theorem hq.tw4824584372287218620 : True := trivial
theorem hq.tw7884614384692140816 : True := trivial
theorem hq.tw16367165154766714319 : True := trivial
theorem hq.tw12551386086251720438 : True := trivial
theorem hq.tw17570233290061857690 : True := trivial
theorem hq.tw7574501811584800559 : True := trivial
theorem hq.tw3061969403100960489 : True := trivial
theorem hq.tw14810766176975304553 : True := trivial
theorem hq.tw1112758292735411213 : True := trivial
theorem hq.tw14065372797180803292 : True := trivial
theorem hq.tw17415775317282982117 : True := trivial
theorem hq.tw8783513367562574285 : True := trivial
theorem hq.tw7632206556856918147 : True := trivial
theorem hq.tw2555971203369377477 : True := trivial
theorem hq.tw13502862691939865659 : True := trivial
theorem hq.tw11318593042947177075 : True := trivial
theorem hq.tw1076841454290796423 : True := trivial
theorem hq.tw11482081927254354971 : True := trivial
theorem hq.tw18276807595065023739 : True := trivial
theorem hq.tw1048806458825231389 : True := trivial
theorem hq.tw16472923019065332549 : True := trivial
theorem hq.tw5227390363952001127 : True := trivial
theorem hq.tw16808026545511752837 : True := trivial
set_option Elab.async true in
set_option maxHeartbeats 8000000 in
theorem hq : PySem.Challenge.rw_nt0425_01.Holds := by
  w_on; o_law; k_head; (case hw => w_witness2)
  k_go0
  refine to_ktr (fun dp un gd hD hU => ?_)
  refine wp_safe ?_
  refine' law_top ?eK ?eV ?ho9 ?hB9 ?hX9 ?hT9 ?hSc9 ?hv9 ?hl9 hD hU ?hF9 ?ret
  case hX9 => assumption
  case hT9 => assumption
  case eK => kernel_rfl
  case eV => kernel_rfl
  case ho9 => k_is
  case hB9 => assumption
  case hSc9 => assumption
  case hv9 => assumption
  case hl9 => omega
  case hF9 => assumption
  intro h' tk' hk
  (try dsimp only)
  refine ⟨.inl ⟨_, _, _, rfl, ?_, .bool true, ?_, fun _ => ⟨List.nodup_nil, fun _ h => nomatch h⟩⟩, hk, rfl, by assumption⟩
  · exact raisesW_false (by wrow_none_raised)
  · exact postW_of (by wrow_shape) (w_eq_bool (w_res rfl) w_lit) rfl
end
end Mine

theorem PySem.Challenge.cw_nt0425_01_holds : PySem.Challenge.rw_nt0425_01.Holds := by
  exact Mine.hq
