import PyProof.Rows.All
import Wide.All
import OpenK.AllK
import Wide.FinOn
import PySem.Challenge.RW_ok0152_01
open PySem PySem.W PyProof.Rows
set_option Elab.async false
set_option maxRecDepth 100000
set_option maxHeartbeats 8000000
set_option linter.all false
set_option compiler.extract_closed false
noncomputable section
namespace Mine
-- part LK
noncomputable abbrev pw : Program := PySem.Challenge.pw_ok0152_01
noncomputable def noSt : Stmt := .Pass ⟨0, 0, 0, 0⟩
noncomputable def fnAt (p : Program) (i : Nat) : Stmt := (p.main.body[i]?).getD noSt
noncomputable def clsBody : Stmt → List Stmt
  | .ClassDef _ _ _ b _ _ _ _ _ _ _ => b
  | _ => []
noncomputable def inCls (p : Program) (i j : Nat) : Stmt := ((clsBody (fnAt p i))[j]?).getD noSt
noncomputable def fP : Stmt → Arguments
  | .FunctionDef _ a _ _ _ _ _ _ _ _ => a
  | _ => ⟨[], [], none, [], [], none, []⟩
noncomputable def fB : Stmt → List Stmt
  | .FunctionDef _ _ b _ _ _ _ _ _ _ => b
  | _ => []
noncomputable def fS : Stmt → Scope
  | .FunctionDef _ _ _ _ _ _ s _ _ _ => s
  | _ => ⟨.module, [], false, false, []⟩

noncomputable def oK3 (p : Program) (P : Params) : Obj := ⟨(.type "dict"), none, (.dict #[⟨PyData.keyHash P "__name__", (.str "__name__" 165), (.str "law_ok0152_01" 1636)⟩, ⟨PyData.keyHash P "__doc__", (.str "__doc__" 166), .none⟩, ⟨PyData.keyHash P "__package__", (.str "__package__" 167), .none⟩, ⟨PyData.keyHash P "__loader__", (.str "__loader__" 168), (.builtin "__main__.__loader__#opaque")⟩, ⟨PyData.keyHash P "__spec__", (.str "__spec__" 169), .none⟩, ⟨PyData.keyHash P "__annotations__", (.str "__annotations__" 170), (.ref 6)⟩, ⟨PyData.keyHash P "__builtins__", (.str "__builtins__" 171), (.ref 4)⟩, ⟨PyData.keyHash P "__file__", (.str "__file__" 173), (.str "/claim/cut.py" 172)⟩, ⟨PyData.keyHash P "__cached__", (.str "__cached__" 174), .none⟩, ⟨PyData.keyHash P "clamped", (.str "clamped" 196), (.ref 21)⟩, ⟨PyData.keyHash P "put_block", (.str "put_block" 213), (.ref 28)⟩, ⟨PyData.keyHash P "PressError", (.str "PressError" 244), (.ref 45)⟩, ⟨PyData.keyHash P "FrameError", (.str "FrameError" 260), (.ref 58)⟩, ⟨PyData.keyHash P "RangeError", (.str "RangeError" 276), (.ref 70)⟩, ⟨PyData.keyHash P "factors", (.str "factors" 287), (.ref 79)⟩, ⟨PyData.keyHash P "Plane", (.str "Plane" 341), (.ref 110)⟩, ⟨PyData.keyHash P "Picture", (.str "Picture" 393), (.ref 148)⟩, ⟨PyData.keyHash P "kept_in", (.str "kept_in" 401), (.ref 159)⟩, ⟨PyData.keyHash P "greatest_sample", (.str "greatest_sample" 408), (.ref 166)⟩, ⟨PyData.keyHash P "blank", (.str "blank" 414), (.ref 171)⟩, ⟨PyData.keyHash P "cut", (.str "cut" 420), (.ref 176)⟩, ⟨PyData.keyHash P "dequantise", (.str "dequantise" 428), (.ref 181)⟩, ⟨PyData.keyHash P "CONST_BITS", (.str "CONST_BITS" 432), (.int 13 431)⟩, ⟨PyData.keyHash P "PASS_BITS", (.str "PASS_BITS" 434), (.int 2 433)⟩, ⟨PyData.keyHash P "C_0_541", (.str "C_0_541" 436), (.int 4433 435)⟩, ⟨PyData.keyHash P "C_0_765", (.str "C_0_765" 438), (.int 6270 437)⟩, ⟨PyData.keyHash P "C_1_847", (.str "C_1_847" 440), (.int 15137 439)⟩, ⟨PyData.keyHash P "descaled", (.str "descaled" 448), (.ref 188)⟩, ⟨PyData.keyHash P "even_forward", (.str "even_forward" 461), (.ref 195)⟩, ⟨PyData.keyHash P "even_inverse", (.str "even_inverse" 476), (.ref 202)⟩, ⟨PyData.keyHash P "turned", (.str "turned" 486), (.ref 209)⟩, ⟨PyData.keyHash P "SIDE_dct_islow", (.str "SIDE_dct_islow" 490), (.int 8 489)⟩, ⟨PyData.keyHash P "SCALE_BITS", (.str "SCALE_BITS" 492), (.int 3 491)⟩, ⟨PyData.keyHash P "C_0_298", (.str "C_0_298" 494), (.int 2446 493)⟩, ⟨PyData.keyHash P "C_0_390", (.str "C_0_390" 496), (.int 3196 495)⟩, ⟨PyData.keyHash P "C_0_899", (.str "C_0_899" 498), (.int 7373 497)⟩, ⟨PyData.keyHash P "C_1_175", (.str "C_1_175" 500), (.int 9633 499)⟩, ⟨PyData.keyHash P "C_1_501", (.str "C_1_501" 502), (.int 12299 501)⟩, ⟨PyData.keyHash P "C_1_961", (.str "C_1_961" 504), (.int 16069 503)⟩, ⟨PyData.keyHash P "C_2_053", (.str "C_2_053" 506), (.int 16819 505)⟩, ⟨PyData.keyHash P "C_2_562", (.str "C_2_562" 508), (.int 20995 507)⟩, ⟨PyData.keyHash P "C_3_072", (.str "C_3_072" 510), (.int 25172 509)⟩, ⟨PyData.keyHash P "odd_flow", (.str "odd_flow" 525), (.ref 216)⟩, ⟨PyData.keyHash P "forward_row", (.str "forward_row" 531), (.ref 221)⟩, ⟨PyData.keyHash P "inverse_row", (.str "inverse_row" 537), (.ref 226)⟩, ⟨PyData.keyHash P "IslowDct", (.str "IslowDct" 579), (.ref 250)⟩, ⟨PyData.keyHash P "SIDE_dct_small", (.str "SIDE_dct_small" 583), (.int 4 582)⟩, ⟨PyData.keyHash P "FourDct", (.str "FourDct" 624), (.ref 276)⟩, ⟨PyData.keyHash P "TwoDct", (.str "TwoDct" 668), (.ref 307)⟩, ⟨PyData.keyHash P "OneDct", (.str "OneDct" 704), (.ref 335)⟩, ⟨PyData.keyHash P "picked", (.str "picked" 713), (.ref 346)⟩, ⟨PyData.keyHash P "inverse", (.str "inverse" 721), (.ref 353)⟩, ⟨PyData.keyHash P "grown", (.str "grown" 735), (.ref 360)⟩, ⟨PyData.keyHash P "repeated", (.str "repeated" 741), (.ref 365)⟩, ⟨PyData.keyHash P "softened", (.str "softened" 747), (.ref 370)⟩, ⟨PyData.keyHash P "near_and_far", (.str "near_and_far" 757), (.ref 377)⟩, ⟨PyData.keyHash P "doubled_row", (.str "doubled_row" 772), (.ref 384)⟩, ⟨PyData.keyHash P "zigzag_places", (.str "zigzag_places" 787), (.ref 391)⟩, ⟨PyData.keyHash P "ORDER_8", (.str "ORDER_8" 1380), (.ref 609)⟩, ⟨PyData.keyHash P "order", (.str "order" 1387), (.ref 616)⟩, ⟨PyData.keyHash P "to_block", (.str "to_block" 1398), (.ref 623)⟩, ⟨PyData.keyHash P "sample_block", (.str "sample_block" 1409), (.ref 630)⟩, ⟨PyData.keyHash P "plane_of", (.str "plane_of" 1428), (.ref 637)⟩, ⟨PyData.keyHash P "kept_picture", (.str "kept_picture" 1444), (.ref 644)⟩, ⟨PyData.keyHash P "parts", (.str "parts" 1454), (.ref 651)⟩, ⟨PyData.keyHash P "Component", (.str "Component" 1489), (.ref 668)⟩, ⟨PyData.keyHash P "Frame", (.str "Frame" 1583), (.ref 734)⟩, ⟨PyData.keyHash P "Grid", (.str "Grid" 1635), (.ref 767)⟩, ⟨PyData.keyHash P "_law_pen", (.str "_law_pen" 1647), (.ref 778)⟩, ⟨PyData.keyHash P "_law_draw", (.str "_law_draw" 1656), (.ref 785)⟩, ⟨PyData.keyHash P "_law_frame", (.str "_law_frame" 1662), (.ref 790)⟩, ⟨PyData.keyHash P "_law_up", (.str "_law_up" 1670), (.ref 797)⟩, ⟨PyData.keyHash P "_law_block", (.str "_law_block" 1676), (.ref 802)⟩, ⟨PyData.keyHash P "_law_filled", (.str "_law_filled" 1682), (.ref 807)⟩, ⟨PyData.keyHash P "_law_plane", (.str "_law_plane" 1697), (.ref 814)⟩, ⟨PyData.keyHash P "law", (.str "law" 1703), (.ref 819)⟩] 76), #[]⟩
noncomputable def oK20 (p : Program) (P : Params) : Obj := ⟨(.type "code"), none, (.fields #[(.str "clamped" 189), (.str "clamped" 190), (.str "/claim/cut.py" 191), (.int 2 0), (.int 2 0), (.int 0 0), (.int 0 0), (.int 3 0), (.ref 15), (.bool true), (.int 181 0), (.ref 16), .none, (.ref 17), (.ref 18), (.ref 19), (.int 194 0), (.int 2 0), (.str "/claim/cut.py" 195)]), #[]⟩
noncomputable def oK21 (p : Program) (P : Params) : Obj := ⟨(.type "function"), none, (.func { name := "clamped", qualname := "clamped", params := fP (fnAt p 1), body := .stmts (fB (fnAt p 1)), scope := fS (fnAt p 1), globals := 3, closure := [], defaults := .none, kwdefaults := .none, doc := .none, pyModule := (.str "pixelpress.blocks" 187), annotations := none, code := (.ref 20), closureTuple := .none, builtins := 0 }), #[]⟩
noncomputable def oK27 (p : Program) (P : Params) : Obj := ⟨(.type "code"), none, (.fields #[(.str "put_block" 197), (.str "put_block" 198), (.str "/claim/cut.py" 199), (.int 4 0), (.int 7 0), (.int 0 0), (.int 0 0), (.int 3 0), (.ref 22), (.bool true), (.int 181 0), (.ref 23), .none, (.ref 24), (.ref 25), (.ref 26), (.int 211 0), (.int 4 0), (.str "/claim/cut.py" 212)]), #[]⟩
noncomputable def oK28 (p : Program) (P : Params) : Obj := ⟨(.type "function"), none, (.func { name := "put_block", qualname := "put_block", params := fP (fnAt p 2), body := .stmts (fB (fnAt p 2)), scope := fS (fnAt p 2), globals := 3, closure := [], defaults := .none, kwdefaults := .none, doc := .none, pyModule := (.str "pixelpress.blocks" 187), annotations := none, code := (.ref 27), closureTuple := .none, builtins := 0 }), #[]⟩
noncomputable def oK78 (p : Program) (P : Params) : Obj := ⟨(.type "code"), none, (.fields #[(.str "factors" 279), (.str "factors" 280), (.str "/claim/cut.py" 281), (.int 21 0), (.int 2 0), (.int 0 0), (.int 0 0), (.int 3 0), (.ref 73), (.bool true), (.int 181 0), (.ref 74), .none, (.ref 75), (.ref 76), (.ref 77), (.int 285 0), (.int 21 0), (.str "/claim/cut.py" 286)]), #[]⟩
noncomputable def oK79 (p : Program) (P : Params) : Obj := ⟨(.type "function"), none, (.func { name := "factors", qualname := "factors", params := fP (fnAt p 8), body := .stmts (fB (fnAt p 8)), scope := fS (fnAt p 8), globals := 3, closure := [], defaults := .none, kwdefaults := .none, doc := .none, pyModule := (.str "pixelpress.factors" 277), annotations := none, code := (.ref 78), closureTuple := .none, builtins := 0 }), #[]⟩
noncomputable def oK92 (p : Program) (P : Params) : Obj := ⟨(.type "code"), none, (.fields #[(.str "__init__" 302), (.str "Plane.__init__" 303), (.str "/claim/cut.py" 304), (.int 29 0), (.int 4 0), (.int 0 0), (.int 0 0), (.int 3 0), (.ref 87), (.bool true), (.int 181 0), (.ref 88), .none, (.ref 89), (.ref 90), (.ref 91), (.int 309 0), (.int 29 0), (.str "/claim/cut.py" 310)]), #[]⟩
noncomputable def oK93 (p : Program) (P : Params) : Obj := ⟨(.type "function"), none, (.func { name := "__init__", qualname := "Plane.__init__", params := fP (inCls p 10 0), body := .stmts (fB (inCls p 10 0)), scope := fS (inCls p 10 0), globals := 3, closure := [], defaults := .none, kwdefaults := .none, doc := .none, pyModule := (.str "pixelpress.planes" 288), annotations := none, code := (.ref 92), closureTuple := .none, builtins := 0 }), #[]⟩
noncomputable def oK99 (p : Program) (P : Params) : Obj := ⟨(.type "code"), none, (.fields #[(.str "at" 312), (.str "Plane.at" 313), (.str "/claim/cut.py" 314), (.int 34 0), (.int 3 0), (.int 0 0), (.int 0 0), (.int 3 0), (.ref 94), (.bool true), (.int 181 0), (.ref 95), .none, (.ref 96), (.ref 97), (.ref 98), (.int 318 0), (.int 34 0), (.str "/claim/cut.py" 319)]), #[]⟩
noncomputable def oK100 (p : Program) (P : Params) : Obj := ⟨(.type "function"), none, (.func { name := "at", qualname := "Plane.at", params := fP (inCls p 10 1), body := .stmts (fB (inCls p 10 1)), scope := fS (inCls p 10 1), globals := 3, closure := [], defaults := .none, kwdefaults := .none, doc := .none, pyModule := (.str "pixelpress.planes" 288), annotations := none, code := (.ref 99), closureTuple := .none, builtins := 0 }), #[]⟩
noncomputable def oK106 (p : Program) (P : Params) : Obj := ⟨(.type "code"), none, (.fields #[(.str "put" 321), (.str "Plane.put" 322), (.str "/claim/cut.py" 323), (.int 37 0), (.int 4 0), (.int 0 0), (.int 0 0), (.int 3 0), (.ref 101), (.bool true), (.int 181 0), (.ref 102), .none, (.ref 103), (.ref 104), (.ref 105), (.int 328 0), (.int 37 0), (.str "/claim/cut.py" 329)]), #[]⟩
noncomputable def oK107 (p : Program) (P : Params) : Obj := ⟨(.type "function"), none, (.func { name := "put", qualname := "Plane.put", params := fP (inCls p 10 2), body := .stmts (fB (inCls p 10 2)), scope := fS (inCls p 10 2), globals := 3, closure := [], defaults := .none, kwdefaults := .none, doc := .none, pyModule := (.str "pixelpress.planes" 288), annotations := none, code := (.ref 106), closureTuple := .none, builtins := 0 }), #[]⟩
noncomputable def oK109 (p : Program) (P : Params) : Obj := ⟨(.type "dict"), none, (.dict #[⟨PyData.keyHash P "__module__", (.str "__module__" 297), (.str "pixelpress.planes" 288)⟩, ⟨PyData.keyHash P "__firstlineno__", (.str "__firstlineno__" 301), (.int 27 300)⟩, ⟨PyData.keyHash P "__init__", (.str "__init__" 311), (.ref 93)⟩, ⟨PyData.keyHash P "at", (.str "at" 320), (.ref 100)⟩, ⟨PyData.keyHash P "put", (.str "put" 330), (.ref 107)⟩, ⟨PyData.keyHash P "__static_attributes__", (.str "__static_attributes__" 334), (.ref 108)⟩, ⟨PyData.keyHash P "__dict__", (.str "__dict__" 336), (.ref 111)⟩, ⟨PyData.keyHash P "__weakref__", (.str "__weakref__" 338), (.ref 112)⟩, ⟨PyData.keyHash P "__doc__", (.str "__doc__" 339), .none⟩] 4), #[]⟩
noncomputable def oK110 (p : Program) (P : Params) : Obj := ⟨(.type "type"), none, (.cls { name := "Plane", bases := [(.type "object")], mro := [(.ref 110), (.type "object")], ns := 109, qualname := "Plane", hasDict := true, slotNames := [], subclasses := [], abstract := false, collection := none, hasDel := false }), #[none, none, (some (.str "Plane" 290)), (some (.str "Plane" 298)), (some (.builtin "object.__new__")), (some (.bool true))]⟩
noncomputable def oK111 (p : Program) (P : Params) : Obj := ⟨(.type "getset_descriptor"), none, (.fields #[(.str "__dict__" 335), (.ref 110), (.builtin "function.__dict__"), (.builtin "function.__dict__#set")]), #[]⟩
noncomputable def oK112 (p : Program) (P : Params) : Obj := ⟨(.type "getset_descriptor"), none, (.fields #[(.str "__weakref__" 337), (.ref 110), (.builtin "ExceptionGroup.__weakref__"), .none]), #[]⟩
noncomputable def oK127 (p : Program) (P : Params) : Obj := ⟨(.type "code"), none, (.fields #[(.str "__init__" 354), (.str "Picture.__init__" 355), (.str "/claim/cut.py" 356), (.int 42 0), (.int 4 0), (.int 0 0), (.int 0 0), (.int 3 0), (.ref 122), (.bool true), (.int 181 0), (.ref 123), .none, (.ref 124), (.ref 125), (.ref 126), (.int 361 0), (.int 42 0), (.str "/claim/cut.py" 362)]), #[]⟩
noncomputable def oK128 (p : Program) (P : Params) : Obj := ⟨(.type "function"), none, (.func { name := "__init__", qualname := "Picture.__init__", params := fP (inCls p 11 0), body := .stmts (fB (inCls p 11 0)), scope := fS (inCls p 11 0), globals := 3, closure := [], defaults := .none, kwdefaults := .none, doc := .none, pyModule := (.str "pixelpress.planes" 288), annotations := none, code := (.ref 127), closureTuple := .none, builtins := 0 }), #[]⟩
noncomputable def oK132 (p : Program) (P : Params) : Obj := ⟨(.type "code"), none, (.fields #[(.str "width" 364), (.str "Picture.width" 365), (.str "/claim/cut.py" 366), (.int 47 0), (.int 1 0), (.int 0 0), (.int 0 0), (.int 3 0), (.ref 129), (.bool true), (.int 181 0), (.ref 130), .none, .none, .none, (.ref 131), (.int 367 0), (.int 47 0), (.str "/claim/cut.py" 368)]), #[]⟩
noncomputable def oK133 (p : Program) (P : Params) : Obj := ⟨(.type "function"), none, (.func { name := "width", qualname := "Picture.width", params := fP (inCls p 11 1), body := .stmts (fB (inCls p 11 1)), scope := fS (inCls p 11 1), globals := 3, closure := [], defaults := .none, kwdefaults := .none, doc := .none, pyModule := (.str "pixelpress.planes" 288), annotations := none, code := (.ref 132), closureTuple := .none, builtins := 0 }), #[]⟩
noncomputable def oK137 (p : Program) (P : Params) : Obj := ⟨(.type "code"), none, (.fields #[(.str "height" 370), (.str "Picture.height" 371), (.str "/claim/cut.py" 372), (.int 50 0), (.int 1 0), (.int 0 0), (.int 0 0), (.int 3 0), (.ref 134), (.bool true), (.int 181 0), (.ref 135), .none, .none, .none, (.ref 136), (.int 373 0), (.int 50 0), (.str "/claim/cut.py" 374)]), #[]⟩
noncomputable def oK138 (p : Program) (P : Params) : Obj := ⟨(.type "function"), none, (.func { name := "height", qualname := "Picture.height", params := fP (inCls p 11 2), body := .stmts (fB (inCls p 11 2)), scope := fS (inCls p 11 2), globals := 3, closure := [], defaults := .none, kwdefaults := .none, doc := .none, pyModule := (.str "pixelpress.planes" 288), annotations := none, code := (.ref 137), closureTuple := .none, builtins := 0 }), #[]⟩
noncomputable def oK144 (p : Program) (P : Params) : Obj := ⟨(.type "code"), none, (.fields #[(.str "most" 376), (.str "Picture.most" 377), (.str "/claim/cut.py" 378), (.int 53 0), (.int 1 0), (.int 0 0), (.int 0 0), (.int 3 0), (.ref 139), (.bool true), (.int 181 0), (.ref 140), .none, (.ref 141), (.ref 142), (.ref 143), (.int 380 0), (.int 53 0), (.str "/claim/cut.py" 381)]), #[]⟩
noncomputable def oK145 (p : Program) (P : Params) : Obj := ⟨(.type "function"), none, (.func { name := "most", qualname := "Picture.most", params := fP (inCls p 11 3), body := .stmts (fB (inCls p 11 3)), scope := fS (inCls p 11 3), globals := 3, closure := [], defaults := .none, kwdefaults := .none, doc := .none, pyModule := (.str "pixelpress.planes" 288), annotations := none, code := (.ref 144), closureTuple := .none, builtins := 0 }), #[]⟩
noncomputable def oK147 (p : Program) (P : Params) : Obj := ⟨(.type "dict"), none, (.dict #[⟨PyData.keyHash P "__module__", (.str "__module__" 349), (.str "pixelpress.planes" 288)⟩, ⟨PyData.keyHash P "__firstlineno__", (.str "__firstlineno__" 353), (.int 40 352)⟩, ⟨PyData.keyHash P "__init__", (.str "__init__" 363), (.ref 128)⟩, ⟨PyData.keyHash P "width", (.str "width" 369), (.ref 133)⟩, ⟨PyData.keyHash P "height", (.str "height" 375), (.ref 138)⟩, ⟨PyData.keyHash P "most", (.str "most" 382), (.ref 145)⟩, ⟨PyData.keyHash P "__static_attributes__", (.str "__static_attributes__" 386), (.ref 146)⟩, ⟨PyData.keyHash P "__dict__", (.str "__dict__" 388), (.ref 149)⟩, ⟨PyData.keyHash P "__weakref__", (.str "__weakref__" 390), (.ref 150)⟩, ⟨PyData.keyHash P "__doc__", (.str "__doc__" 391), .none⟩] 4), #[]⟩
noncomputable def oK148 (p : Program) (P : Params) : Obj := ⟨(.type "type"), none, (.cls { name := "Picture", bases := [(.type "object")], mro := [(.ref 148), (.type "object")], ns := 147, qualname := "Picture", hasDict := true, slotNames := [], subclasses := [], abstract := false, collection := none, hasDel := false }), #[none, none, (some (.str "Picture" 342)), (some (.str "Picture" 350)), (some (.builtin "object.__new__")), (some (.bool true))]⟩
noncomputable def oK149 (p : Program) (P : Params) : Obj := ⟨(.type "getset_descriptor"), none, (.fields #[(.str "__dict__" 387), (.ref 148), (.builtin "function.__dict__"), (.builtin "function.__dict__#set")]), #[]⟩
noncomputable def oK150 (p : Program) (P : Params) : Obj := ⟨(.type "getset_descriptor"), none, (.fields #[(.str "__weakref__" 389), (.ref 148), (.builtin "ExceptionGroup.__weakref__"), .none]), #[]⟩
noncomputable def oK158 (p : Program) (P : Params) : Obj := ⟨(.type "code"), none, (.fields #[(.str "kept_in" 394), (.str "kept_in" 395), (.str "/claim/cut.py" 396), (.int 55 0), (.int 2 0), (.int 0 0), (.int 0 0), (.int 3 0), (.ref 153), (.bool true), (.int 181 0), (.ref 154), .none, (.ref 155), (.ref 156), (.ref 157), (.int 399 0), (.int 55 0), (.str "/claim/cut.py" 400)]), #[]⟩
noncomputable def oK159 (p : Program) (P : Params) : Obj := ⟨(.type "function"), none, (.func { name := "kept_in", qualname := "kept_in", params := fP (fnAt p 12), body := .stmts (fB (fnAt p 12)), scope := fS (fnAt p 12), globals := 3, closure := [], defaults := .none, kwdefaults := .none, doc := .none, pyModule := (.str "pixelpress.planes" 288), annotations := none, code := (.ref 158), closureTuple := .none, builtins := 0 }), #[]⟩
noncomputable def oK170 (p : Program) (P : Params) : Obj := ⟨(.type "code"), none, (.fields #[(.str "blank" 409), (.str "blank" 410), (.str "/claim/cut.py" 411), (.int 61 0), (.int 3 0), (.int 0 0), (.int 0 0), (.int 3 0), (.ref 167), (.bool true), (.int 181 0), (.ref 168), .none, .none, .none, (.ref 169), (.int 412 0), (.int 61 0), (.str "/claim/cut.py" 413)]), #[]⟩
noncomputable def oK171 (p : Program) (P : Params) : Obj := ⟨(.type "function"), none, (.func { name := "blank", qualname := "blank", params := fP (fnAt p 14), body := .stmts (fB (fnAt p 14)), scope := fS (fnAt p 14), globals := 3, closure := [], defaults := .none, kwdefaults := .none, doc := .none, pyModule := (.str "pixelpress.planes" 288), annotations := none, code := (.ref 170), closureTuple := .none, builtins := 0 }), #[]⟩
noncomputable def oK180 (p : Program) (P : Params) : Obj := ⟨(.type "code"), none, (.fields #[(.str "dequantise" 423), (.str "dequantise" 424), (.str "/claim/cut.py" 425), (.int 69 0), (.int 2 0), (.int 0 0), (.int 0 0), (.int 3 0), (.ref 177), (.bool true), (.int 181 0), (.ref 178), .none, .none, .none, (.ref 179), (.int 426 0), (.int 69 0), (.str "/claim/cut.py" 427)]), #[]⟩
noncomputable def oK181 (p : Program) (P : Params) : Obj := ⟨(.type "function"), none, (.func { name := "dequantise", qualname := "dequantise", params := fP (fnAt p 17), body := .stmts (fB (fnAt p 17)), scope := fS (fnAt p 17), globals := 3, closure := [], defaults := .none, kwdefaults := .none, doc := .none, pyModule := (.str "pixelpress.quant" 421), annotations := none, code := (.ref 180), closureTuple := .none, builtins := 0 }), #[]⟩
noncomputable def oK187 (p : Program) (P : Params) : Obj := ⟨(.type "code"), none, (.fields #[(.str "descaled" 441), (.str "descaled" 442), (.str "/claim/cut.py" 443), (.int 77 0), (.int 2 0), (.int 0 0), (.int 0 0), (.int 3 0), (.ref 182), (.bool true), (.int 181 0), (.ref 183), .none, (.ref 184), (.ref 185), (.ref 186), (.int 446 0), (.int 77 0), (.str "/claim/cut.py" 447)]), #[]⟩
noncomputable def oK188 (p : Program) (P : Params) : Obj := ⟨(.type "function"), none, (.func { name := "descaled", qualname := "descaled", params := fP (fnAt p 24), body := .stmts (fB (fnAt p 24)), scope := fS (fnAt p 24), globals := 3, closure := [], defaults := .none, kwdefaults := .none, doc := .none, pyModule := (.str "pixelpress.dct_parts" 429), annotations := none, code := (.ref 187), closureTuple := .none, builtins := 0 }), #[]⟩
noncomputable def oK291 (p : Program) (P : Params) : Obj := ⟨(.type "code"), none, (.fields #[(.str "forward" 637), (.str "TwoDct.forward" 638), (.str "/claim/cut.py" 639), (.int 180 0), (.int 2 0), (.int 0 0), (.int 0 0), (.int 3 0), (.ref 288), (.bool true), (.int 181 0), (.ref 289), .none, .none, .none, (.ref 290), (.int 640 0), (.int 180 0), (.str "/claim/cut.py" 641)]), #[]⟩
noncomputable def oK292 (p : Program) (P : Params) : Obj := ⟨(.type "function"), none, (.func { name := "forward", qualname := "TwoDct.forward", params := fP (inCls p 47 0), body := .stmts (fB (inCls p 47 0)), scope := fS (inCls p 47 0), globals := 3, closure := [], defaults := .none, kwdefaults := .none, doc := .none, pyModule := (.str "pixelpress.dct_small" 580), annotations := none, code := (.ref 291), closureTuple := .none, builtins := 0 }), #[]⟩
noncomputable def oK296 (p : Program) (P : Params) : Obj := ⟨(.type "code"), none, (.fields #[(.str "inverse" 643), (.str "TwoDct.inverse" 644), (.str "/claim/cut.py" 645), (.int 183 0), (.int 2 0), (.int 0 0), (.int 0 0), (.int 3 0), (.ref 293), (.bool true), (.int 181 0), (.ref 294), .none, .none, .none, (.ref 295), (.int 646 0), (.int 183 0), (.str "/claim/cut.py" 647)]), #[]⟩
noncomputable def oK297 (p : Program) (P : Params) : Obj := ⟨(.type "function"), none, (.func { name := "inverse", qualname := "TwoDct.inverse", params := fP (inCls p 47 1), body := .stmts (fB (inCls p 47 1)), scope := fS (inCls p 47 1), globals := 3, closure := [], defaults := .none, kwdefaults := .none, doc := .none, pyModule := (.str "pixelpress.dct_small" 580), annotations := none, code := (.ref 296), closureTuple := .none, builtins := 0 }), #[]⟩
noncomputable def oK303 (p : Program) (P : Params) : Obj := ⟨(.type "code"), none, (.fields #[(.str "sums" 649), (.str "TwoDct.sums" 650), (.str "/claim/cut.py" 651), (.int 186 0), (.int 2 0), (.int 0 0), (.int 0 0), (.int 3 0), (.ref 298), (.bool true), (.int 181 0), (.ref 299), .none, (.ref 300), (.ref 301), (.ref 302), (.int 658 0), (.int 186 0), (.str "/claim/cut.py" 659)]), #[]⟩
noncomputable def oK304 (p : Program) (P : Params) : Obj := ⟨(.type "function"), none, (.func { name := "sums", qualname := "TwoDct.sums", params := fP (inCls p 47 2), body := .stmts (fB (inCls p 47 2)), scope := fS (inCls p 47 2), globals := 3, closure := [], defaults := .none, kwdefaults := .none, doc := .none, pyModule := (.str "pixelpress.dct_small" 580), annotations := none, code := (.ref 303), closureTuple := .none, builtins := 0 }), #[]⟩
noncomputable def oK306 (p : Program) (P : Params) : Obj := ⟨(.type "dict"), none, (.dict #[⟨PyData.keyHash P "__module__", (.str "__module__" 632), (.str "pixelpress.dct_small" 580)⟩, ⟨PyData.keyHash P "__firstlineno__", (.str "__firstlineno__" 636), (.int 178 635)⟩, ⟨PyData.keyHash P "forward", (.str "forward" 642), (.ref 292)⟩, ⟨PyData.keyHash P "inverse", (.str "inverse" 648), (.ref 297)⟩, ⟨PyData.keyHash P "sums", (.str "sums" 660), (.ref 304)⟩, ⟨PyData.keyHash P "__static_attributes__", (.str "__static_attributes__" 661), (.ref 305)⟩, ⟨PyData.keyHash P "__dict__", (.str "__dict__" 663), (.ref 308)⟩, ⟨PyData.keyHash P "__weakref__", (.str "__weakref__" 665), (.ref 309)⟩, ⟨PyData.keyHash P "__doc__", (.str "__doc__" 666), .none⟩] 4), #[]⟩
noncomputable def oK307 (p : Program) (P : Params) : Obj := ⟨(.type "type"), none, (.cls { name := "TwoDct", bases := [(.type "object")], mro := [(.ref 307), (.type "object")], ns := 306, qualname := "TwoDct", hasDict := true, slotNames := [], subclasses := [], abstract := false, collection := none, hasDel := false }), #[none, none, (some (.str "TwoDct" 625)), (some (.str "TwoDct" 633)), (some (.builtin "object.__new__")), (some (.bool true))]⟩
noncomputable def oK308 (p : Program) (P : Params) : Obj := ⟨(.type "getset_descriptor"), none, (.fields #[(.str "__dict__" 662), (.ref 307), (.builtin "function.__dict__"), (.builtin "function.__dict__#set")]), #[]⟩
noncomputable def oK309 (p : Program) (P : Params) : Obj := ⟨(.type "getset_descriptor"), none, (.fields #[(.str "__weakref__" 664), (.ref 307), (.builtin "ExceptionGroup.__weakref__"), .none]), #[]⟩
noncomputable def oK324 (p : Program) (P : Params) : Obj := ⟨(.type "code"), none, (.fields #[(.str "forward" 681), (.str "OneDct.forward" 682), (.str "/claim/cut.py" 683), (.int 191 0), (.int 2 0), (.int 0 0), (.int 0 0), (.int 3 0), (.ref 319), (.bool true), (.int 181 0), (.ref 320), .none, (.ref 321), (.ref 322), (.ref 323), (.int 686 0), (.int 191 0), (.str "/claim/cut.py" 687)]), #[]⟩
noncomputable def oK325 (p : Program) (P : Params) : Obj := ⟨(.type "function"), none, (.func { name := "forward", qualname := "OneDct.forward", params := fP (inCls p 48 0), body := .stmts (fB (inCls p 48 0)), scope := fS (inCls p 48 0), globals := 3, closure := [], defaults := .none, kwdefaults := .none, doc := .none, pyModule := (.str "pixelpress.dct_small" 580), annotations := none, code := (.ref 324), closureTuple := .none, builtins := 0 }), #[]⟩
noncomputable def oK331 (p : Program) (P : Params) : Obj := ⟨(.type "code"), none, (.fields #[(.str "inverse" 689), (.str "OneDct.inverse" 690), (.str "/claim/cut.py" 691), (.int 194 0), (.int 2 0), (.int 0 0), (.int 0 0), (.int 3 0), (.ref 326), (.bool true), (.int 181 0), (.ref 327), .none, (.ref 328), (.ref 329), (.ref 330), (.int 694 0), (.int 194 0), (.str "/claim/cut.py" 695)]), #[]⟩
noncomputable def oK332 (p : Program) (P : Params) : Obj := ⟨(.type "function"), none, (.func { name := "inverse", qualname := "OneDct.inverse", params := fP (inCls p 48 1), body := .stmts (fB (inCls p 48 1)), scope := fS (inCls p 48 1), globals := 3, closure := [], defaults := .none, kwdefaults := .none, doc := .none, pyModule := (.str "pixelpress.dct_small" 580), annotations := none, code := (.ref 331), closureTuple := .none, builtins := 0 }), #[]⟩
noncomputable def oK334 (p : Program) (P : Params) : Obj := ⟨(.type "dict"), none, (.dict #[⟨PyData.keyHash P "__module__", (.str "__module__" 676), (.str "pixelpress.dct_small" 580)⟩, ⟨PyData.keyHash P "__firstlineno__", (.str "__firstlineno__" 680), (.int 189 679)⟩, ⟨PyData.keyHash P "forward", (.str "forward" 688), (.ref 325)⟩, ⟨PyData.keyHash P "inverse", (.str "inverse" 696), (.ref 332)⟩, ⟨PyData.keyHash P "__static_attributes__", (.str "__static_attributes__" 697), (.ref 333)⟩, ⟨PyData.keyHash P "__dict__", (.str "__dict__" 699), (.ref 336)⟩, ⟨PyData.keyHash P "__weakref__", (.str "__weakref__" 701), (.ref 337)⟩, ⟨PyData.keyHash P "__doc__", (.str "__doc__" 702), .none⟩] 4), #[]⟩
noncomputable def oK335 (p : Program) (P : Params) : Obj := ⟨(.type "type"), none, (.cls { name := "OneDct", bases := [(.type "object")], mro := [(.ref 335), (.type "object")], ns := 334, qualname := "OneDct", hasDict := true, slotNames := [], subclasses := [], abstract := false, collection := none, hasDel := false }), #[none, none, (some (.str "OneDct" 669)), (some (.str "OneDct" 677)), (some (.builtin "object.__new__")), (some (.bool true))]⟩
noncomputable def oK336 (p : Program) (P : Params) : Obj := ⟨(.type "getset_descriptor"), none, (.fields #[(.str "__dict__" 698), (.ref 335), (.builtin "function.__dict__"), (.builtin "function.__dict__#set")]), #[]⟩
noncomputable def oK337 (p : Program) (P : Params) : Obj := ⟨(.type "getset_descriptor"), none, (.fields #[(.str "__weakref__" 700), (.ref 335), (.builtin "ExceptionGroup.__weakref__"), .none]), #[]⟩
noncomputable def oK345 (p : Program) (P : Params) : Obj := ⟨(.type "code"), none, (.fields #[(.str "picked" 707), (.str "picked" 708), (.str "/claim/cut.py" 709), (.int 197 0), (.int 1 0), (.int 0 0), (.int 0 0), (.int 3 0), (.ref 340), (.bool true), (.int 181 0), (.ref 341), .none, (.ref 342), (.ref 343), (.ref 344), (.int 711 0), (.int 197 0), (.str "/claim/cut.py" 712)]), #[]⟩
noncomputable def oK346 (p : Program) (P : Params) : Obj := ⟨(.type "function"), none, (.func { name := "picked", qualname := "picked", params := fP (fnAt p 50), body := .stmts (fB (fnAt p 50)), scope := fS (fnAt p 50), globals := 3, closure := [], defaults := .none, kwdefaults := .none, doc := .none, pyModule := (.str "pixelpress.transform" 705), annotations := none, code := (.ref 345), closureTuple := .none, builtins := 0 }), #[]⟩
noncomputable def oK352 (p : Program) (P : Params) : Obj := ⟨(.type "code"), none, (.fields #[(.str "inverse" 714), (.str "inverse" 715), (.str "/claim/cut.py" 716), (.int 207 0), (.int 2 0), (.int 0 0), (.int 0 0), (.int 3 0), (.ref 347), (.bool true), (.int 181 0), (.ref 348), .none, (.ref 349), (.ref 350), (.ref 351), (.int 719 0), (.int 207 0), (.str "/claim/cut.py" 720)]), #[]⟩
noncomputable def oK353 (p : Program) (P : Params) : Obj := ⟨(.type "function"), none, (.func { name := "inverse", qualname := "inverse", params := fP (fnAt p 51), body := .stmts (fB (fnAt p 51)), scope := fS (fnAt p 51), globals := 3, closure := [], defaults := .none, kwdefaults := .none, doc := .none, pyModule := (.str "pixelpress.transform" 705), annotations := none, code := (.ref 352), closureTuple := .none, builtins := 0 }), #[]⟩
noncomputable def oK359 (p : Program) (P : Params) : Obj := ⟨(.type "code"), none, (.fields #[(.str "grown" 724), (.str "grown" 725), (.str "/claim/cut.py" 726), (.int 210 0), (.int 6 0), (.int 0 0), (.int 0 0), (.int 3 0), (.ref 354), (.bool true), (.int 181 0), (.ref 355), .none, (.ref 356), (.ref 357), (.ref 358), (.int 733 0), (.int 210 0), (.str "/claim/cut.py" 734)]), #[]⟩
noncomputable def oK360 (p : Program) (P : Params) : Obj := ⟨(.type "function"), none, (.func { name := "grown", qualname := "grown", params := fP (fnAt p 53), body := .stmts (fB (fnAt p 53)), scope := fS (fnAt p 53), globals := 3, closure := [], defaults := .none, kwdefaults := .none, doc := .none, pyModule := (.str "pixelpress.upsampling" 722), annotations := none, code := (.ref 359), closureTuple := .none, builtins := 0 }), #[]⟩
noncomputable def oK364 (p : Program) (P : Params) : Obj := ⟨(.type "code"), none, (.fields #[(.str "repeated" 736), (.str "repeated" 737), (.str "/claim/cut.py" 738), (.int 216 0), (.int 7 0), (.int 0 0), (.int 0 0), (.int 3 0), (.ref 361), (.bool true), (.int 181 0), (.ref 362), .none, .none, .none, (.ref 363), (.int 739 0), (.int 216 0), (.str "/claim/cut.py" 740)]), #[]⟩
noncomputable def oK365 (p : Program) (P : Params) : Obj := ⟨(.type "function"), none, (.func { name := "repeated", qualname := "repeated", params := fP (fnAt p 54), body := .stmts (fB (fnAt p 54)), scope := fS (fnAt p 54), globals := 3, closure := [], defaults := .none, kwdefaults := .none, doc := .none, pyModule := (.str "pixelpress.upsampling" 722), annotations := none, code := (.ref 364), closureTuple := .none, builtins := 0 }), #[]⟩
noncomputable def oK390 (p : Program) (P : Params) : Obj := ⟨(.type "code"), none, (.fields #[(.str "zigzag_places" 775), (.str "zigzag_places" 776), (.str "/claim/cut.py" 777), (.int 252 0), (.int 1 0), (.int 0 0), (.int 0 0), (.int 3 0), (.ref 385), (.bool true), (.int 181 0), (.ref 386), .none, (.ref 387), (.ref 388), (.ref 389), (.int 785 0), (.int 252 0), (.str "/claim/cut.py" 786)]), #[]⟩
noncomputable def oK391 (p : Program) (P : Params) : Obj := ⟨(.type "function"), none, (.func { name := "zigzag_places", qualname := "zigzag_places", params := fP (fnAt p 59), body := .stmts (fB (fnAt p 59)), scope := fS (fnAt p 59), globals := 3, closure := [], defaults := .none, kwdefaults := .none, doc := .none, pyModule := (.str "pixelpress.zigzag" 773), annotations := none, code := (.ref 390), closureTuple := .none, builtins := 0 }), #[]⟩
noncomputable def oK615 (p : Program) (P : Params) : Obj := ⟨(.type "code"), none, (.fields #[(.str "order" 1381), (.str "order" 1382), (.str "/claim/cut.py" 1383), (.int 262 0), (.int 1 0), (.int 0 0), (.int 0 0), (.int 3 0), (.ref 610), (.bool true), (.int 181 0), (.ref 611), .none, (.ref 612), (.ref 613), (.ref 614), (.int 1385 0), (.int 262 0), (.str "/claim/cut.py" 1386)]), #[]⟩
noncomputable def oK616 (p : Program) (P : Params) : Obj := ⟨(.type "function"), none, (.func { name := "order", qualname := "order", params := fP (fnAt p 61), body := .stmts (fB (fnAt p 61)), scope := fS (fnAt p 61), globals := 3, closure := [], defaults := .none, kwdefaults := .none, doc := .none, pyModule := (.str "pixelpress.zigzag" 773), annotations := none, code := (.ref 615), closureTuple := .none, builtins := 0 }), #[]⟩
noncomputable def oK622 (p : Program) (P : Params) : Obj := ⟨(.type "code"), none, (.fields #[(.str "to_block" 1388), (.str "to_block" 1389), (.str "/claim/cut.py" 1390), (.int 264 0), (.int 2 0), (.int 0 0), (.int 0 0), (.int 3 0), (.ref 617), (.bool true), (.int 181 0), (.ref 618), .none, (.ref 619), (.ref 620), (.ref 621), (.int 1396 0), (.int 264 0), (.str "/claim/cut.py" 1397)]), #[]⟩
noncomputable def oK623 (p : Program) (P : Params) : Obj := ⟨(.type "function"), none, (.func { name := "to_block", qualname := "to_block", params := fP (fnAt p 62), body := .stmts (fB (fnAt p 62)), scope := fS (fnAt p 62), globals := 3, closure := [], defaults := .none, kwdefaults := .none, doc := .none, pyModule := (.str "pixelpress.zigzag" 773), annotations := none, code := (.ref 622), closureTuple := .none, builtins := 0 }), #[]⟩
noncomputable def oK629 (p : Program) (P : Params) : Obj := ⟨(.type "code"), none, (.fields #[(.str "sample_block" 1401), (.str "sample_block" 1402), (.str "/claim/cut.py" 1403), (.int 272 0), (.int 3 0), (.int 0 0), (.int 0 0), (.int 3 0), (.ref 624), (.bool true), (.int 181 0), (.ref 625), .none, (.ref 626), (.ref 627), (.ref 628), (.int 1407 0), (.int 272 0), (.str "/claim/cut.py" 1408)]), #[]⟩
noncomputable def oK630 (p : Program) (P : Params) : Obj := ⟨(.type "function"), none, (.func { name := "sample_block", qualname := "sample_block", params := fP (fnAt p 64), body := .stmts (fB (fnAt p 64)), scope := fS (fnAt p 64), globals := 3, closure := [], defaults := .none, kwdefaults := .none, doc := .none, pyModule := (.str "pixelpress.decoder" 1399), annotations := none, code := (.ref 629), closureTuple := .none, builtins := 0 }), #[]⟩
noncomputable def oK636 (p : Program) (P : Params) : Obj := ⟨(.type "code"), none, (.fields #[(.str "plane_of" 1410), (.str "plane_of" 1411), (.str "/claim/cut.py" 1412), (.int 274 0), (.int 4 0), (.int 0 0), (.int 0 0), (.int 3 0), (.ref 631), (.bool true), (.int 181 0), (.ref 632), .none, (.ref 633), (.ref 634), (.ref 635), (.int 1426 0), (.int 274 0), (.str "/claim/cut.py" 1427)]), #[]⟩
noncomputable def oK637 (p : Program) (P : Params) : Obj := ⟨(.type "function"), none, (.func { name := "plane_of", qualname := "plane_of", params := fP (fnAt p 65), body := .stmts (fB (fnAt p 65)), scope := fS (fnAt p 65), globals := 3, closure := [], defaults := .none, kwdefaults := .none, doc := .none, pyModule := (.str "pixelpress.decoder" 1399), annotations := none, code := (.ref 636), closureTuple := .none, builtins := 0 }), #[]⟩
noncomputable def oK643 (p : Program) (P : Params) : Obj := ⟨(.type "code"), none, (.fields #[(.str "kept_picture" 1429), (.str "kept_picture" 1430), (.str "/claim/cut.py" 1431), (.int 283 0), (.int 5 0), (.int 0 0), (.int 0 0), (.int 3 0), (.ref 638), (.bool true), (.int 181 0), (.ref 639), .none, (.ref 640), (.ref 641), (.ref 642), (.int 1442 0), (.int 283 0), (.str "/claim/cut.py" 1443)]), #[]⟩
noncomputable def oK644 (p : Program) (P : Params) : Obj := ⟨(.type "function"), none, (.func { name := "kept_picture", qualname := "kept_picture", params := fP (fnAt p 66), body := .stmts (fB (fnAt p 66)), scope := fS (fnAt p 66), globals := 3, closure := [], defaults := .none, kwdefaults := .none, doc := .none, pyModule := (.str "pixelpress.decoder" 1399), annotations := none, code := (.ref 643), closureTuple := .none, builtins := 0 }), #[]⟩
noncomputable def oK650 (p : Program) (P : Params) : Obj := ⟨(.type "code"), none, (.fields #[(.str "parts" 1447), (.str "parts" 1448), (.str "/claim/cut.py" 1449), (.int 291 0), (.int 2 0), (.int 0 0), (.int 0 0), (.int 3 0), (.ref 645), (.bool true), (.int 181 0), (.ref 646), .none, (.ref 647), (.ref 648), (.ref 649), (.int 1452 0), (.int 291 0), (.str "/claim/cut.py" 1453)]), #[]⟩
noncomputable def oK651 (p : Program) (P : Params) : Obj := ⟨(.type "function"), none, (.func { name := "parts", qualname := "parts", params := fP (fnAt p 68), body := .stmts (fB (fnAt p 68)), scope := fS (fnAt p 68), globals := 3, closure := [], defaults := .none, kwdefaults := .none, doc := .none, pyModule := (.str "pixelpress.frames" 1445), annotations := none, code := (.ref 650), closureTuple := .none, builtins := 0 }), #[]⟩
noncomputable def oK664 (p : Program) (P : Params) : Obj := ⟨(.type "code"), none, (.fields #[(.str "__init__" 1467), (.str "Component.__init__" 1468), (.str "/claim/cut.py" 1469), (.int 295 0), (.int 5 0), (.int 0 0), (.int 0 0), (.int 3 0), (.ref 659), (.bool true), (.int 181 0), (.ref 660), .none, (.ref 661), (.ref 662), (.ref 663), (.int 1475 0), (.int 295 0), (.str "/claim/cut.py" 1476)]), #[]⟩
noncomputable def oK665 (p : Program) (P : Params) : Obj := ⟨(.type "function"), none, (.func { name := "__init__", qualname := "Component.__init__", params := fP (inCls p 69 0), body := .stmts (fB (inCls p 69 0)), scope := fS (inCls p 69 0), globals := 3, closure := [], defaults := .none, kwdefaults := .none, doc := .none, pyModule := (.str "pixelpress.frames" 1445), annotations := none, code := (.ref 664), closureTuple := .none, builtins := 0 }), #[]⟩
noncomputable def oK667 (p : Program) (P : Params) : Obj := ⟨(.type "dict"), none, (.dict #[⟨PyData.keyHash P "__module__", (.str "__module__" 1462), (.str "pixelpress.frames" 1445)⟩, ⟨PyData.keyHash P "__firstlineno__", (.str "__firstlineno__" 1466), (.int 293 1465)⟩, ⟨PyData.keyHash P "__init__", (.str "__init__" 1477), (.ref 665)⟩, ⟨PyData.keyHash P "__static_attributes__", (.str "__static_attributes__" 1482), (.ref 666)⟩, ⟨PyData.keyHash P "__dict__", (.str "__dict__" 1484), (.ref 669)⟩, ⟨PyData.keyHash P "__weakref__", (.str "__weakref__" 1486), (.ref 670)⟩, ⟨PyData.keyHash P "__doc__", (.str "__doc__" 1487), .none⟩] 4), #[]⟩
noncomputable def oK668 (p : Program) (P : Params) : Obj := ⟨(.type "type"), none, (.cls { name := "Component", bases := [(.type "object")], mro := [(.ref 668), (.type "object")], ns := 667, qualname := "Component", hasDict := true, slotNames := [], subclasses := [], abstract := false, collection := none, hasDel := false }), #[none, none, (some (.str "Component" 1455)), (some (.str "Component" 1463)), (some (.builtin "object.__new__")), (some (.bool true))]⟩
noncomputable def oK669 (p : Program) (P : Params) : Obj := ⟨(.type "getset_descriptor"), none, (.fields #[(.str "__dict__" 1483), (.ref 668), (.builtin "function.__dict__"), (.builtin "function.__dict__#set")]), #[]⟩
noncomputable def oK670 (p : Program) (P : Params) : Obj := ⟨(.type "getset_descriptor"), none, (.fields #[(.str "__weakref__" 1485), (.ref 668), (.builtin "ExceptionGroup.__weakref__"), .none]), #[]⟩
noncomputable def oK685 (p : Program) (P : Params) : Obj := ⟨(.type "code"), none, (.fields #[(.str "__init__" 1502), (.str "Frame.__init__" 1503), (.str "/claim/cut.py" 1504), (.int 302 0), (.int 7 0), (.int 0 0), (.int 0 0), (.int 3 0), (.ref 680), (.bool true), (.int 181 0), (.ref 681), .none, (.ref 682), (.ref 683), (.ref 684), (.int 1512 0), (.int 302 0), (.str "/claim/cut.py" 1513)]), #[]⟩
noncomputable def oK686 (p : Program) (P : Params) : Obj := ⟨(.type "function"), none, (.func { name := "__init__", qualname := "Frame.__init__", params := fP (inCls p 70 0), body := .stmts (fB (inCls p 70 0)), scope := fS (inCls p 70 0), globals := 3, closure := [], defaults := .none, kwdefaults := .none, doc := .none, pyModule := (.str "pixelpress.frames" 1445), annotations := none, code := (.ref 685), closureTuple := .none, builtins := 0 }), #[]⟩
noncomputable def oK690 (p : Program) (P : Params) : Obj := ⟨(.type "code"), none, (.fields #[(.str "most_across" 1515), (.str "Frame.most_across" 1516), (.str "/claim/cut.py" 1517), (.int 310 0), (.int 1 0), (.int 0 0), (.int 0 0), (.int 3 0), (.ref 687), (.bool true), (.int 181 0), (.ref 688), .none, .none, .none, (.ref 689), (.int 1518 0), (.int 310 0), (.str "/claim/cut.py" 1519)]), #[]⟩
noncomputable def oK691 (p : Program) (P : Params) : Obj := ⟨(.type "function"), none, (.func { name := "most_across", qualname := "Frame.most_across", params := fP (inCls p 70 1), body := .stmts (fB (inCls p 70 1)), scope := fS (inCls p 70 1), globals := 3, closure := [], defaults := .none, kwdefaults := .none, doc := .none, pyModule := (.str "pixelpress.frames" 1445), annotations := none, code := (.ref 690), closureTuple := .none, builtins := 0 }), #[]⟩
noncomputable def oK695 (p : Program) (P : Params) : Obj := ⟨(.type "code"), none, (.fields #[(.str "most_down" 1521), (.str "Frame.most_down" 1522), (.str "/claim/cut.py" 1523), (.int 313 0), (.int 1 0), (.int 0 0), (.int 0 0), (.int 3 0), (.ref 692), (.bool true), (.int 181 0), (.ref 693), .none, .none, .none, (.ref 694), (.int 1524 0), (.int 313 0), (.str "/claim/cut.py" 1525)]), #[]⟩
noncomputable def oK696 (p : Program) (P : Params) : Obj := ⟨(.type "function"), none, (.func { name := "most_down", qualname := "Frame.most_down", params := fP (inCls p 70 2), body := .stmts (fB (inCls p 70 2)), scope := fS (inCls p 70 2), globals := 3, closure := [], defaults := .none, kwdefaults := .none, doc := .none, pyModule := (.str "pixelpress.frames" 1445), annotations := none, code := (.ref 695), closureTuple := .none, builtins := 0 }), #[]⟩
noncomputable def oK702 (p : Program) (P : Params) : Obj := ⟨(.type "code"), none, (.fields #[(.str "mcus_across" 1527), (.str "Frame.mcus_across" 1528), (.str "/claim/cut.py" 1529), (.int 316 0), (.int 1 0), (.int 0 0), (.int 0 0), (.int 3 0), (.ref 697), (.bool true), (.int 181 0), (.ref 698), .none, (.ref 699), (.ref 700), (.ref 701), (.int 1531 0), (.int 316 0), (.str "/claim/cut.py" 1532)]), #[]⟩
noncomputable def oK703 (p : Program) (P : Params) : Obj := ⟨(.type "function"), none, (.func { name := "mcus_across", qualname := "Frame.mcus_across", params := fP (inCls p 70 3), body := .stmts (fB (inCls p 70 3)), scope := fS (inCls p 70 3), globals := 3, closure := [], defaults := .none, kwdefaults := .none, doc := .none, pyModule := (.str "pixelpress.frames" 1445), annotations := none, code := (.ref 702), closureTuple := .none, builtins := 0 }), #[]⟩
noncomputable def oK709 (p : Program) (P : Params) : Obj := ⟨(.type "code"), none, (.fields #[(.str "mcus_down" 1534), (.str "Frame.mcus_down" 1535), (.str "/claim/cut.py" 1536), (.int 319 0), (.int 1 0), (.int 0 0), (.int 0 0), (.int 3 0), (.ref 704), (.bool true), (.int 181 0), (.ref 705), .none, (.ref 706), (.ref 707), (.ref 708), (.int 1538 0), (.int 319 0), (.str "/claim/cut.py" 1539)]), #[]⟩
noncomputable def oK710 (p : Program) (P : Params) : Obj := ⟨(.type "function"), none, (.func { name := "mcus_down", qualname := "Frame.mcus_down", params := fP (inCls p 70 4), body := .stmts (fB (inCls p 70 4)), scope := fS (inCls p 70 4), globals := 3, closure := [], defaults := .none, kwdefaults := .none, doc := .none, pyModule := (.str "pixelpress.frames" 1445), annotations := none, code := (.ref 709), closureTuple := .none, builtins := 0 }), #[]⟩
noncomputable def oK716 (p : Program) (P : Params) : Obj := ⟨(.type "code"), none, (.fields #[(.str "plane_size" 1541), (.str "Frame.plane_size" 1542), (.str "/claim/cut.py" 1543), (.int 322 0), (.int 2 0), (.int 0 0), (.int 0 0), (.int 3 0), (.ref 711), (.bool true), (.int 181 0), (.ref 712), .none, (.ref 713), (.ref 714), (.ref 715), (.int 1548 0), (.int 322 0), (.str "/claim/cut.py" 1549)]), #[]⟩
noncomputable def oK717 (p : Program) (P : Params) : Obj := ⟨(.type "function"), none, (.func { name := "plane_size", qualname := "Frame.plane_size", params := fP (inCls p 70 5), body := .stmts (fB (inCls p 70 5)), scope := fS (inCls p 70 5), globals := 3, closure := [], defaults := .none, kwdefaults := .none, doc := .none, pyModule := (.str "pixelpress.frames" 1445), annotations := none, code := (.ref 716), closureTuple := .none, builtins := 0 }), #[]⟩
noncomputable def oK723 (p : Program) (P : Params) : Obj := ⟨(.type "code"), none, (.fields #[(.str "blocks" 1551), (.str "Frame.blocks" 1552), (.str "/claim/cut.py" 1553), (.int 327 0), (.int 2 0), (.int 0 0), (.int 0 0), (.int 3 0), (.ref 718), (.bool true), (.int 181 0), (.ref 719), .none, (.ref 720), (.ref 721), (.ref 722), (.int 1558 0), (.int 327 0), (.str "/claim/cut.py" 1559)]), #[]⟩
noncomputable def oK724 (p : Program) (P : Params) : Obj := ⟨(.type "function"), none, (.func { name := "blocks", qualname := "Frame.blocks", params := fP (inCls p 70 6), body := .stmts (fB (inCls p 70 6)), scope := fS (inCls p 70 6), globals := 3, closure := [], defaults := .none, kwdefaults := .none, doc := .none, pyModule := (.str "pixelpress.frames" 1445), annotations := none, code := (.ref 723), closureTuple := .none, builtins := 0 }), #[]⟩
noncomputable def oK730 (p : Program) (P : Params) : Obj := ⟨(.type "code"), none, (.fields #[(.str "padded" 1561), (.str "Frame.padded" 1562), (.str "/claim/cut.py" 1563), (.int 331 0), (.int 2 0), (.int 0 0), (.int 0 0), (.int 3 0), (.ref 725), (.bool true), (.int 181 0), (.ref 726), .none, (.ref 727), (.ref 728), (.ref 729), (.int 1567 0), (.int 331 0), (.str "/claim/cut.py" 1568)]), #[]⟩
noncomputable def oK731 (p : Program) (P : Params) : Obj := ⟨(.type "function"), none, (.func { name := "padded", qualname := "Frame.padded", params := fP (inCls p 70 7), body := .stmts (fB (inCls p 70 7)), scope := fS (inCls p 70 7), globals := 3, closure := [], defaults := .none, kwdefaults := .none, doc := .none, pyModule := (.str "pixelpress.frames" 1445), annotations := none, code := (.ref 730), closureTuple := .none, builtins := 0 }), #[]⟩
noncomputable def oK733 (p : Program) (P : Params) : Obj := ⟨(.type "dict"), none, (.dict #[⟨PyData.keyHash P "__module__", (.str "__module__" 1497), (.str "pixelpress.frames" 1445)⟩, ⟨PyData.keyHash P "__firstlineno__", (.str "__firstlineno__" 1501), (.int 300 1500)⟩, ⟨PyData.keyHash P "__init__", (.str "__init__" 1514), (.ref 686)⟩, ⟨PyData.keyHash P "most_across", (.str "most_across" 1520), (.ref 691)⟩, ⟨PyData.keyHash P "most_down", (.str "most_down" 1526), (.ref 696)⟩, ⟨PyData.keyHash P "mcus_across", (.str "mcus_across" 1533), (.ref 703)⟩, ⟨PyData.keyHash P "mcus_down", (.str "mcus_down" 1540), (.ref 710)⟩, ⟨PyData.keyHash P "plane_size", (.str "plane_size" 1550), (.ref 717)⟩, ⟨PyData.keyHash P "blocks", (.str "blocks" 1560), (.ref 724)⟩, ⟨PyData.keyHash P "padded", (.str "padded" 1569), (.ref 731)⟩, ⟨PyData.keyHash P "__static_attributes__", (.str "__static_attributes__" 1576), (.ref 732)⟩, ⟨PyData.keyHash P "__dict__", (.str "__dict__" 1578), (.ref 735)⟩, ⟨PyData.keyHash P "__weakref__", (.str "__weakref__" 1580), (.ref 736)⟩, ⟨PyData.keyHash P "__doc__", (.str "__doc__" 1581), .none⟩] 4), #[]⟩
noncomputable def oK734 (p : Program) (P : Params) : Obj := ⟨(.type "type"), none, (.cls { name := "Frame", bases := [(.type "object")], mro := [(.ref 734), (.type "object")], ns := 733, qualname := "Frame", hasDict := true, slotNames := [], subclasses := [], abstract := false, collection := none, hasDel := false }), #[none, none, (some (.str "Frame" 1490)), (some (.str "Frame" 1498)), (some (.builtin "object.__new__")), (some (.bool true))]⟩
noncomputable def oK735 (p : Program) (P : Params) : Obj := ⟨(.type "getset_descriptor"), none, (.fields #[(.str "__dict__" 1577), (.ref 734), (.builtin "function.__dict__"), (.builtin "function.__dict__#set")]), #[]⟩
noncomputable def oK736 (p : Program) (P : Params) : Obj := ⟨(.type "getset_descriptor"), none, (.fields #[(.str "__weakref__" 1579), (.ref 734), (.builtin "ExceptionGroup.__weakref__"), .none]), #[]⟩
noncomputable def oK749 (p : Program) (P : Params) : Obj := ⟨(.type "code"), none, (.fields #[(.str "__init__" 1598), (.str "Grid.__init__" 1599), (.str "/claim/cut.py" 1600), (.int 337 0), (.int 2 0), (.int 0 0), (.int 0 0), (.int 3 0), (.ref 746), (.bool true), (.int 181 0), (.ref 747), .none, .none, .none, (.ref 748), (.int 1601 0), (.int 337 0), (.str "/claim/cut.py" 1602)]), #[]⟩
noncomputable def oK750 (p : Program) (P : Params) : Obj := ⟨(.type "function"), none, (.func { name := "__init__", qualname := "Grid.__init__", params := fP (inCls p 72 0), body := .stmts (fB (inCls p 72 0)), scope := fS (inCls p 72 0), globals := 3, closure := [], defaults := .none, kwdefaults := .none, doc := .none, pyModule := (.str "pixelpress.grid" 1584), annotations := none, code := (.ref 749), closureTuple := .none, builtins := 0 }), #[]⟩
noncomputable def oK756 (p : Program) (P : Params) : Obj := ⟨(.type "code"), none, (.fields #[(.str "get" 1604), (.str "Grid.get" 1605), (.str "/claim/cut.py" 1606), (.int 344 0), (.int 4 0), (.int 0 0), (.int 0 0), (.int 3 0), (.ref 751), (.bool true), (.int 181 0), (.ref 752), .none, (.ref 753), (.ref 754), (.ref 755), (.int 1612 0), (.int 344 0), (.str "/claim/cut.py" 1613)]), #[]⟩
noncomputable def oK757 (p : Program) (P : Params) : Obj := ⟨(.type "function"), none, (.func { name := "get", qualname := "Grid.get", params := fP (inCls p 72 1), body := .stmts (fB (inCls p 72 1)), scope := fS (inCls p 72 1), globals := 3, closure := [], defaults := .none, kwdefaults := .none, doc := .none, pyModule := (.str "pixelpress.grid" 1584), annotations := none, code := (.ref 756), closureTuple := .none, builtins := 0 }), #[]⟩
noncomputable def oK763 (p : Program) (P : Params) : Obj := ⟨(.type "code"), none, (.fields #[(.str "put" 1615), (.str "Grid.put" 1616), (.str "/claim/cut.py" 1617), (.int 348 0), (.int 5 0), (.int 0 0), (.int 0 0), (.int 3 0), (.ref 758), (.bool true), (.int 181 0), (.ref 759), .none, (.ref 760), (.ref 761), (.ref 762), (.int 1623 0), (.int 348 0), (.str "/claim/cut.py" 1624)]), #[]⟩
noncomputable def oK764 (p : Program) (P : Params) : Obj := ⟨(.type "function"), none, (.func { name := "put", qualname := "Grid.put", params := fP (inCls p 72 2), body := .stmts (fB (inCls p 72 2)), scope := fS (inCls p 72 2), globals := 3, closure := [], defaults := .none, kwdefaults := .none, doc := .none, pyModule := (.str "pixelpress.grid" 1584), annotations := none, code := (.ref 763), closureTuple := .none, builtins := 0 }), #[]⟩
noncomputable def oK766 (p : Program) (P : Params) : Obj := ⟨(.type "dict"), none, (.dict #[⟨PyData.keyHash P "__module__", (.str "__module__" 1593), (.str "pixelpress.grid" 1584)⟩, ⟨PyData.keyHash P "__firstlineno__", (.str "__firstlineno__" 1597), (.int 335 1596)⟩, ⟨PyData.keyHash P "__init__", (.str "__init__" 1603), (.ref 750)⟩, ⟨PyData.keyHash P "get", (.str "get" 1614), (.ref 757)⟩, ⟨PyData.keyHash P "put", (.str "put" 1625), (.ref 764)⟩, ⟨PyData.keyHash P "__static_attributes__", (.str "__static_attributes__" 1628), (.ref 765)⟩, ⟨PyData.keyHash P "__dict__", (.str "__dict__" 1630), (.ref 768)⟩, ⟨PyData.keyHash P "__weakref__", (.str "__weakref__" 1632), (.ref 769)⟩, ⟨PyData.keyHash P "__doc__", (.str "__doc__" 1633), .none⟩] 4), #[]⟩
noncomputable def oK767 (p : Program) (P : Params) : Obj := ⟨(.type "type"), none, (.cls { name := "Grid", bases := [(.type "object")], mro := [(.ref 767), (.type "object")], ns := 766, qualname := "Grid", hasDict := true, slotNames := [], subclasses := [], abstract := false, collection := none, hasDel := false }), #[none, none, (some (.str "Grid" 1586)), (some (.str "Grid" 1594)), (some (.builtin "object.__new__")), (some (.bool true))]⟩
noncomputable def oK768 (p : Program) (P : Params) : Obj := ⟨(.type "getset_descriptor"), none, (.fields #[(.str "__dict__" 1629), (.ref 767), (.builtin "function.__dict__"), (.builtin "function.__dict__#set")]), #[]⟩
noncomputable def oK769 (p : Program) (P : Params) : Obj := ⟨(.type "getset_descriptor"), none, (.fields #[(.str "__weakref__" 1631), (.ref 767), (.builtin "ExceptionGroup.__weakref__"), .none]), #[]⟩
noncomputable def oK777 (p : Program) (P : Params) : Obj := ⟨(.type "code"), none, (.fields #[(.str "_law_pen" 1638), (.str "_law_pen" 1639), (.str "/claim/cut.py" 1640), (.int 351 0), (.int 2 0), (.int 0 0), (.int 0 0), (.int 3 0), (.ref 772), (.bool true), (.int 181 0), (.ref 773), .none, (.ref 774), (.ref 775), (.ref 776), (.int 1645 0), (.int 351 0), (.str "/claim/cut.py" 1646)]), #[]⟩
noncomputable def oK778 (p : Program) (P : Params) : Obj := ⟨(.type "function"), none, (.func { name := "_law_pen", qualname := "_law_pen", params := fP (fnAt p 74), body := .stmts (fB (fnAt p 74)), scope := fS (fnAt p 74), globals := 3, closure := [], defaults := .none, kwdefaults := .none, doc := .none, pyModule := (.str "law_ok0152_01" 1636), annotations := none, code := (.ref 777), closureTuple := .none, builtins := 0 }), #[]⟩
noncomputable def oK784 (p : Program) (P : Params) : Obj := ⟨(.type "code"), none, (.fields #[(.str "_law_draw" 1648), (.str "_law_draw" 1649), (.str "/claim/cut.py" 1650), (.int 355 0), (.int 2 0), (.int 0 0), (.int 0 0), (.int 3 0), (.ref 779), (.bool true), (.int 181 0), (.ref 780), .none, (.ref 781), (.ref 782), (.ref 783), (.int 1654 0), (.int 355 0), (.str "/claim/cut.py" 1655)]), #[]⟩
noncomputable def oK785 (p : Program) (P : Params) : Obj := ⟨(.type "function"), none, (.func { name := "_law_draw", qualname := "_law_draw", params := fP (fnAt p 75), body := .stmts (fB (fnAt p 75)), scope := fS (fnAt p 75), globals := 3, closure := [], defaults := .none, kwdefaults := .none, doc := .none, pyModule := (.str "law_ok0152_01" 1636), annotations := none, code := (.ref 784), closureTuple := .none, builtins := 0 }), #[]⟩
noncomputable def oK789 (p : Program) (P : Params) : Obj := ⟨(.type "code"), none, (.fields #[(.str "_law_frame" 1657), (.str "_law_frame" 1658), (.str "/claim/cut.py" 1659), (.int 362 0), (.int 2 0), (.int 0 0), (.int 0 0), (.int 3 0), (.ref 786), (.bool true), (.int 181 0), (.ref 787), .none, .none, .none, (.ref 788), (.int 1660 0), (.int 362 0), (.str "/claim/cut.py" 1661)]), #[]⟩
noncomputable def oK790 (p : Program) (P : Params) : Obj := ⟨(.type "function"), none, (.func { name := "_law_frame", qualname := "_law_frame", params := fP (fnAt p 76), body := .stmts (fB (fnAt p 76)), scope := fS (fnAt p 76), globals := 3, closure := [], defaults := .none, kwdefaults := .none, doc := .none, pyModule := (.str "law_ok0152_01" 1636), annotations := none, code := (.ref 789), closureTuple := .none, builtins := 0 }), #[]⟩
noncomputable def oK796 (p : Program) (P : Params) : Obj := ⟨(.type "code"), none, (.fields #[(.str "_law_up" 1663), (.str "_law_up" 1664), (.str "/claim/cut.py" 1665), (.int 368 0), (.int 2 0), (.int 0 0), (.int 0 0), (.int 3 0), (.ref 791), (.bool true), (.int 181 0), (.ref 792), .none, (.ref 793), (.ref 794), (.ref 795), (.int 1668 0), (.int 368 0), (.str "/claim/cut.py" 1669)]), #[]⟩
noncomputable def oK797 (p : Program) (P : Params) : Obj := ⟨(.type "function"), none, (.func { name := "_law_up", qualname := "_law_up", params := fP (fnAt p 77), body := .stmts (fB (fnAt p 77)), scope := fS (fnAt p 77), globals := 3, closure := [], defaults := .none, kwdefaults := .none, doc := .none, pyModule := (.str "law_ok0152_01" 1636), annotations := none, code := (.ref 796), closureTuple := .none, builtins := 0 }), #[]⟩
noncomputable def oK801 (p : Program) (P : Params) : Obj := ⟨(.type "code"), none, (.fields #[(.str "_law_block" 1671), (.str "_law_block" 1672), (.str "/claim/cut.py" 1673), (.int 370 0), (.int 3 0), (.int 0 0), (.int 0 0), (.int 3 0), (.ref 798), (.bool true), (.int 181 0), (.ref 799), .none, .none, .none, (.ref 800), (.int 1674 0), (.int 370 0), (.str "/claim/cut.py" 1675)]), #[]⟩
noncomputable def oK802 (p : Program) (P : Params) : Obj := ⟨(.type "function"), none, (.func { name := "_law_block", qualname := "_law_block", params := fP (fnAt p 78), body := .stmts (fB (fnAt p 78)), scope := fS (fnAt p 78), globals := 3, closure := [], defaults := .none, kwdefaults := .none, doc := .none, pyModule := (.str "law_ok0152_01" 1636), annotations := none, code := (.ref 801), closureTuple := .none, builtins := 0 }), #[]⟩
noncomputable def oK806 (p : Program) (P : Params) : Obj := ⟨(.type "code"), none, (.fields #[(.str "_law_filled" 1677), (.str "_law_filled" 1678), (.str "/claim/cut.py" 1679), (.int 379 0), (.int 3 0), (.int 0 0), (.int 0 0), (.int 3 0), (.ref 803), (.bool true), (.int 181 0), (.ref 804), .none, .none, .none, (.ref 805), (.int 1680 0), (.int 379 0), (.str "/claim/cut.py" 1681)]), #[]⟩
noncomputable def oK807 (p : Program) (P : Params) : Obj := ⟨(.type "function"), none, (.func { name := "_law_filled", qualname := "_law_filled", params := fP (fnAt p 79), body := .stmts (fB (fnAt p 79)), scope := fS (fnAt p 79), globals := 3, closure := [], defaults := .none, kwdefaults := .none, doc := .none, pyModule := (.str "law_ok0152_01" 1636), annotations := none, code := (.ref 806), closureTuple := .none, builtins := 0 }), #[]⟩
noncomputable def oK813 (p : Program) (P : Params) : Obj := ⟨(.type "code"), none, (.fields #[(.str "_law_plane" 1683), (.str "_law_plane" 1684), (.str "/claim/cut.py" 1685), (.int 392 0), (.int 4 0), (.int 0 0), (.int 0 0), (.int 3 0), (.ref 808), (.bool true), (.int 181 0), (.ref 809), .none, (.ref 810), (.ref 811), (.ref 812), (.int 1695 0), (.int 392 0), (.str "/claim/cut.py" 1696)]), #[]⟩
noncomputable def oK814 (p : Program) (P : Params) : Obj := ⟨(.type "function"), none, (.func { name := "_law_plane", qualname := "_law_plane", params := fP (fnAt p 80), body := .stmts (fB (fnAt p 80)), scope := fS (fnAt p 80), globals := 3, closure := [], defaults := .none, kwdefaults := .none, doc := .none, pyModule := (.str "law_ok0152_01" 1636), annotations := none, code := (.ref 813), closureTuple := .none, builtins := 0 }), #[]⟩
noncomputable def oK818 (p : Program) (P : Params) : Obj := ⟨(.type "code"), none, (.fields #[(.str "law" 1698), (.str "law" 1699), (.str "/claim/cut.py" 1700), (.int 401 0), (.int 1 0), (.int 0 0), (.int 0 0), (.int 3 0), (.ref 815), (.bool true), (.int 181 0), (.ref 816), .none, .none, .none, (.ref 817), (.int 1701 0), (.int 401 0), (.str "/claim/cut.py" 1702)]), #[]⟩
noncomputable def oK819 (p : Program) (P : Params) : Obj := ⟨(.type "function"), none, (.func { name := "law", qualname := "law", params := fP (fnAt p 81), body := .stmts (fB (fnAt p 81)), scope := fS (fnAt p 81), globals := 3, closure := [], defaults := .none, kwdefaults := .none, doc := .none, pyModule := (.str "law_ok0152_01" 1636), annotations := none, code := (.ref 818), closureTuple := .none, builtins := 0 }), #[]⟩
noncomputable def Kf (p : Program) (P : Params) : Frag := [(3, oK3 p P), (20, oK20 p P), (21, oK21 p P), (27, oK27 p P), (28, oK28 p P), (78, oK78 p P), (79, oK79 p P), (92, oK92 p P), (93, oK93 p P), (99, oK99 p P), (100, oK100 p P), (106, oK106 p P), (107, oK107 p P), (109, oK109 p P), (110, oK110 p P), (111, oK111 p P), (112, oK112 p P), (127, oK127 p P), (128, oK128 p P), (132, oK132 p P), (133, oK133 p P), (137, oK137 p P), (138, oK138 p P), (144, oK144 p P), (145, oK145 p P), (147, oK147 p P), (148, oK148 p P), (149, oK149 p P), (150, oK150 p P), (158, oK158 p P), (159, oK159 p P), (170, oK170 p P), (171, oK171 p P), (180, oK180 p P), (181, oK181 p P), (187, oK187 p P), (188, oK188 p P), (291, oK291 p P), (292, oK292 p P), (296, oK296 p P), (297, oK297 p P), (303, oK303 p P), (304, oK304 p P), (306, oK306 p P), (307, oK307 p P), (308, oK308 p P), (309, oK309 p P), (324, oK324 p P), (325, oK325 p P), (331, oK331 p P), (332, oK332 p P), (334, oK334 p P), (335, oK335 p P), (336, oK336 p P), (337, oK337 p P), (345, oK345 p P), (346, oK346 p P), (352, oK352 p P), (353, oK353 p P), (359, oK359 p P), (360, oK360 p P), (364, oK364 p P), (365, oK365 p P), (390, oK390 p P), (391, oK391 p P), (615, oK615 p P), (616, oK616 p P), (622, oK622 p P), (623, oK623 p P), (629, oK629 p P), (630, oK630 p P), (636, oK636 p P), (637, oK637 p P), (643, oK643 p P), (644, oK644 p P), (650, oK650 p P), (651, oK651 p P), (664, oK664 p P), (665, oK665 p P), (667, oK667 p P), (668, oK668 p P), (669, oK669 p P), (670, oK670 p P), (685, oK685 p P), (686, oK686 p P), (690, oK690 p P), (691, oK691 p P), (695, oK695 p P), (696, oK696 p P), (702, oK702 p P), (703, oK703 p P), (709, oK709 p P), (710, oK710 p P), (716, oK716 p P), (717, oK717 p P), (723, oK723 p P), (724, oK724 p P), (730, oK730 p P), (731, oK731 p P), (733, oK733 p P), (734, oK734 p P), (735, oK735 p P), (736, oK736 p P), (749, oK749 p P), (750, oK750 p P), (756, oK756 p P), (757, oK757 p P), (763, oK763 p P), (764, oK764 p P), (766, oK766 p P), (767, oK767 p P), (768, oK768 p P), (769, oK769 p P), (777, oK777 p P), (778, oK778 p P), (784, oK784 p P), (785, oK785 p P), (789, oK789 p P), (790, oK790 p P), (796, oK796 p P), (797, oK797 p P), (801, oK801 p P), (802, oK802 p P), (806, oK806 p P), (807, oK807 p P), (813, oK813 p P), (814, oK814 p P), (818, oK818 p P), (819, oK819 p P)]
noncomputable def Kas : List Addr := [3, 20, 21, 27, 28, 78, 79, 92, 93, 99, 100, 106, 107, 109, 110, 111, 112, 127, 128, 132, 133, 137, 138, 144, 145, 147, 148, 149, 150, 158, 159, 170, 171, 180, 181, 187, 188, 291, 292, 296, 297, 303, 304, 306, 307, 308, 309, 324, 325, 331, 332, 334, 335, 336, 337, 345, 346, 352, 353, 359, 360, 364, 365, 390, 391, 615, 616, 622, 623, 629, 630, 636, 637, 643, 644, 650, 651, 664, 665, 667, 668, 669, 670, 685, 686, 690, 691, 695, 696, 702, 703, 709, 710, 716, 717, 723, 724, 730, 731, 733, 734, 735, 736, 749, 750, 756, 757, 763, 764, 766, 767, 768, 769, 777, 778, 784, 785, 789, 790, 796, 797, 801, 802, 806, 807, 813, 814, 818, 819]
-- part LSt
noncomputable def u0 : PySem.Str := ⟨#[95, 95, 110, 97, 109, 101, 95, 95]⟩
noncomputable def u1 : PySem.Str := ⟨#[98, 117, 105, 108, 116, 105, 110, 115]⟩
noncomputable def u2 : PySem.Str := ⟨#[95, 95, 100, 111, 99, 95, 95]⟩
noncomputable def u3 : PySem.Str := ⟨#[95, 95, 112, 97, 99, 107, 97, 103, 101, 95, 95]⟩
noncomputable def u4 : PySem.Str := ⟨#[95, 95, 108, 111, 97, 100, 101, 114, 95, 95]⟩
noncomputable def u5 : PySem.Str := ⟨#[95, 95, 115, 112, 101, 99, 95, 95]⟩
noncomputable def u6 : PySem.Str := ⟨#[95, 95, 98, 117, 105, 108, 100, 95, 99, 108, 97, 115, 115, 95, 95]⟩
noncomputable def u7 : PySem.Str := ⟨#[95, 95, 105, 109, 112, 111, 114, 116, 95, 95]⟩
noncomputable def u8 : PySem.Str := ⟨#[97, 98, 115]⟩
noncomputable def u9 : PySem.Str := ⟨#[97, 108, 108]⟩
noncomputable def u10 : PySem.Str := ⟨#[97, 110, 121]⟩
noncomputable def u11 : PySem.Str := ⟨#[97, 115, 99, 105, 105]⟩
noncomputable def u12 : PySem.Str := ⟨#[98, 105, 110]⟩
noncomputable def u13 : PySem.Str := ⟨#[98, 114, 101, 97, 107, 112, 111, 105, 110, 116]⟩
noncomputable def u14 : PySem.Str := ⟨#[99, 97, 108, 108, 97, 98, 108, 101]⟩
noncomputable def u15 : PySem.Str := ⟨#[99, 104, 114]⟩
noncomputable def u16 : PySem.Str := ⟨#[99, 111, 109, 112, 105, 108, 101]⟩
noncomputable def u17 : PySem.Str := ⟨#[100, 101, 108, 97, 116, 116, 114]⟩
noncomputable def u18 : PySem.Str := ⟨#[100, 105, 114]⟩
noncomputable def u19 : PySem.Str := ⟨#[100, 105, 118, 109, 111, 100]⟩
noncomputable def u20 : PySem.Str := ⟨#[101, 118, 97, 108]⟩
noncomputable def u21 : PySem.Str := ⟨#[101, 120, 101, 99]⟩
noncomputable def u22 : PySem.Str := ⟨#[102, 111, 114, 109, 97, 116]⟩
noncomputable def u23 : PySem.Str := ⟨#[103, 101, 116, 97, 116, 116, 114]⟩
noncomputable def u24 : PySem.Str := ⟨#[103, 108, 111, 98, 97, 108, 115]⟩
noncomputable def u25 : PySem.Str := ⟨#[104, 97, 115, 97, 116, 116, 114]⟩
noncomputable def u26 : PySem.Str := ⟨#[104, 97, 115, 104]⟩
noncomputable def u27 : PySem.Str := ⟨#[104, 101, 120]⟩
noncomputable def u28 : PySem.Str := ⟨#[105, 100]⟩
noncomputable def u29 : PySem.Str := ⟨#[105, 110, 112, 117, 116]⟩
noncomputable def u30 : PySem.Str := ⟨#[105, 115, 105, 110, 115, 116, 97, 110, 99, 101]⟩
noncomputable def u31 : PySem.Str := ⟨#[105, 115, 115, 117, 98, 99, 108, 97, 115, 115]⟩
noncomputable def u32 : PySem.Str := ⟨#[105, 116, 101, 114]⟩
noncomputable def u33 : PySem.Str := ⟨#[97, 105, 116, 101, 114]⟩
noncomputable def u34 : PySem.Str := ⟨#[108, 101, 110]⟩
noncomputable def u35 : PySem.Str := ⟨#[108, 111, 99, 97, 108, 115]⟩
noncomputable def u36 : PySem.Str := ⟨#[109, 97, 120]⟩
noncomputable def u37 : PySem.Str := ⟨#[109, 105, 110]⟩
noncomputable def u38 : PySem.Str := ⟨#[110, 101, 120, 116]⟩
noncomputable def u39 : PySem.Str := ⟨#[97, 110, 101, 120, 116]⟩
noncomputable def u40 : PySem.Str := ⟨#[111, 99, 116]⟩
noncomputable def u41 : PySem.Str := ⟨#[111, 114, 100]⟩
noncomputable def u42 : PySem.Str := ⟨#[112, 111, 119]⟩
noncomputable def u43 : PySem.Str := ⟨#[112, 114, 105, 110, 116]⟩
noncomputable def u44 : PySem.Str := ⟨#[114, 101, 112, 114]⟩
noncomputable def u45 : PySem.Str := ⟨#[114, 111, 117, 110, 100]⟩
noncomputable def u46 : PySem.Str := ⟨#[115, 101, 116, 97, 116, 116, 114]⟩
noncomputable def u47 : PySem.Str := ⟨#[115, 111, 114, 116, 101, 100]⟩
noncomputable def u48 : PySem.Str := ⟨#[115, 117, 109]⟩
noncomputable def u49 : PySem.Str := ⟨#[118, 97, 114, 115]⟩
noncomputable def u50 : PySem.Str := ⟨#[78, 111, 110, 101]⟩
noncomputable def u51 : PySem.Str := ⟨#[69, 108, 108, 105, 112, 115, 105, 115]⟩
noncomputable def u52 : PySem.Str := ⟨#[78, 111, 116, 73, 109, 112, 108, 101, 109, 101, 110, 116, 101, 100]⟩
noncomputable def u53 : PySem.Str := ⟨#[70, 97, 108, 115, 101]⟩
noncomputable def u54 : PySem.Str := ⟨#[84, 114, 117, 101]⟩
noncomputable def u55 : PySem.Str := ⟨#[98, 111, 111, 108]⟩
noncomputable def u56 : PySem.Str := ⟨#[109, 101, 109, 111, 114, 121, 118, 105, 101, 119]⟩
noncomputable def u57 : PySem.Str := ⟨#[98, 121, 116, 101, 97, 114, 114, 97, 121]⟩
noncomputable def u58 : PySem.Str := ⟨#[98, 121, 116, 101, 115]⟩
noncomputable def u59 : PySem.Str := ⟨#[99, 108, 97, 115, 115, 109, 101, 116, 104, 111, 100]⟩
noncomputable def u60 : PySem.Str := ⟨#[99, 111, 109, 112, 108, 101, 120]⟩
noncomputable def u61 : PySem.Str := ⟨#[100, 105, 99, 116]⟩
noncomputable def u62 : PySem.Str := ⟨#[101, 110, 117, 109, 101, 114, 97, 116, 101]⟩
noncomputable def u63 : PySem.Str := ⟨#[102, 105, 108, 116, 101, 114]⟩
noncomputable def u64 : PySem.Str := ⟨#[102, 108, 111, 97, 116]⟩
noncomputable def u65 : PySem.Str := ⟨#[102, 114, 111, 122, 101, 110, 115, 101, 116]⟩
noncomputable def u66 : PySem.Str := ⟨#[112, 114, 111, 112, 101, 114, 116, 121]⟩
noncomputable def u67 : PySem.Str := ⟨#[105, 110, 116]⟩
noncomputable def u68 : PySem.Str := ⟨#[108, 105, 115, 116]⟩
noncomputable def u69 : PySem.Str := ⟨#[109, 97, 112]⟩
noncomputable def u70 : PySem.Str := ⟨#[111, 98, 106, 101, 99, 116]⟩
noncomputable def u71 : PySem.Str := ⟨#[114, 97, 110, 103, 101]⟩
noncomputable def u72 : PySem.Str := ⟨#[114, 101, 118, 101, 114, 115, 101, 100]⟩
noncomputable def u73 : PySem.Str := ⟨#[115, 101, 116]⟩
noncomputable def u74 : PySem.Str := ⟨#[115, 108, 105, 99, 101]⟩
noncomputable def u75 : PySem.Str := ⟨#[115, 116, 97, 116, 105, 99, 109, 101, 116, 104, 111, 100]⟩
noncomputable def u76 : PySem.Str := ⟨#[115, 116, 114]⟩
noncomputable def u77 : PySem.Str := ⟨#[115, 117, 112, 101, 114]⟩
noncomputable def u78 : PySem.Str := ⟨#[116, 117, 112, 108, 101]⟩
noncomputable def u79 : PySem.Str := ⟨#[116, 121, 112, 101]⟩
noncomputable def u80 : PySem.Str := ⟨#[122, 105, 112]⟩
noncomputable def u81 : PySem.Str := ⟨#[95, 95, 100, 101, 98, 117, 103, 95, 95]⟩
noncomputable def u82 : PySem.Str := ⟨#[66, 97, 115, 101, 69, 120, 99, 101, 112, 116, 105, 111, 110]⟩
noncomputable def u83 : PySem.Str := ⟨#[66, 97, 115, 101, 69, 120, 99, 101, 112, 116, 105, 111, 110, 71, 114, 111, 117, 112]⟩
noncomputable def u84 : PySem.Str := ⟨#[69, 120, 99, 101, 112, 116, 105, 111, 110]⟩
noncomputable def u85 : PySem.Str := ⟨#[71, 101, 110, 101, 114, 97, 116, 111, 114, 69, 120, 105, 116]⟩
noncomputable def u86 : PySem.Str := ⟨#[75, 101, 121, 98, 111, 97, 114, 100, 73, 110, 116, 101, 114, 114, 117, 112, 116]⟩
noncomputable def u87 : PySem.Str := ⟨#[83, 121, 115, 116, 101, 109, 69, 120, 105, 116]⟩
noncomputable def u88 : PySem.Str := ⟨#[65, 114, 105, 116, 104, 109, 101, 116, 105, 99, 69, 114, 114, 111, 114]⟩
noncomputable def u89 : PySem.Str := ⟨#[65, 115, 115, 101, 114, 116, 105, 111, 110, 69, 114, 114, 111, 114]⟩
noncomputable def u90 : PySem.Str := ⟨#[65, 116, 116, 114, 105, 98, 117, 116, 101, 69, 114, 114, 111, 114]⟩
noncomputable def u91 : PySem.Str := ⟨#[66, 117, 102, 102, 101, 114, 69, 114, 114, 111, 114]⟩
noncomputable def u92 : PySem.Str := ⟨#[69, 79, 70, 69, 114, 114, 111, 114]⟩
noncomputable def u93 : PySem.Str := ⟨#[73, 109, 112, 111, 114, 116, 69, 114, 114, 111, 114]⟩
noncomputable def u94 : PySem.Str := ⟨#[76, 111, 111, 107, 117, 112, 69, 114, 114, 111, 114]⟩
noncomputable def u95 : PySem.Str := ⟨#[77, 101, 109, 111, 114, 121, 69, 114, 114, 111, 114]⟩
noncomputable def u96 : PySem.Str := ⟨#[78, 97, 109, 101, 69, 114, 114, 111, 114]⟩
noncomputable def u97 : PySem.Str := ⟨#[79, 83, 69, 114, 114, 111, 114]⟩
noncomputable def u98 : PySem.Str := ⟨#[82, 101, 102, 101, 114, 101, 110, 99, 101, 69, 114, 114, 111, 114]⟩
noncomputable def u99 : PySem.Str := ⟨#[82, 117, 110, 116, 105, 109, 101, 69, 114, 114, 111, 114]⟩
noncomputable def u100 : PySem.Str := ⟨#[83, 116, 111, 112, 65, 115, 121, 110, 99, 73, 116, 101, 114, 97, 116, 105, 111, 110]⟩
noncomputable def u101 : PySem.Str := ⟨#[83, 116, 111, 112, 73, 116, 101, 114, 97, 116, 105, 111, 110]⟩
noncomputable def u102 : PySem.Str := ⟨#[83, 121, 110, 116, 97, 120, 69, 114, 114, 111, 114]⟩
noncomputable def u103 : PySem.Str := ⟨#[83, 121, 115, 116, 101, 109, 69, 114, 114, 111, 114]⟩
noncomputable def u104 : PySem.Str := ⟨#[84, 121, 112, 101, 69, 114, 114, 111, 114]⟩
noncomputable def u105 : PySem.Str := ⟨#[86, 97, 108, 117, 101, 69, 114, 114, 111, 114]⟩
noncomputable def u106 : PySem.Str := ⟨#[87, 97, 114, 110, 105, 110, 103]⟩
noncomputable def u107 : PySem.Str := ⟨#[70, 108, 111, 97, 116, 105, 110, 103, 80, 111, 105, 110, 116, 69, 114, 114, 111, 114]⟩
noncomputable def u108 : PySem.Str := ⟨#[79, 118, 101, 114, 102, 108, 111, 119, 69, 114, 114, 111, 114]⟩
noncomputable def u109 : PySem.Str := ⟨#[90, 101, 114, 111, 68, 105, 118, 105, 115, 105, 111, 110, 69, 114, 114, 111, 114]⟩
noncomputable def u110 : PySem.Str := ⟨#[66, 121, 116, 101, 115, 87, 97, 114, 110, 105, 110, 103]⟩
noncomputable def u111 : PySem.Str := ⟨#[68, 101, 112, 114, 101, 99, 97, 116, 105, 111, 110, 87, 97, 114, 110, 105, 110, 103]⟩
noncomputable def u112 : PySem.Str := ⟨#[69, 110, 99, 111, 100, 105, 110, 103, 87, 97, 114, 110, 105, 110, 103]⟩
noncomputable def u113 : PySem.Str := ⟨#[70, 117, 116, 117, 114, 101, 87, 97, 114, 110, 105, 110, 103]⟩
noncomputable def u114 : PySem.Str := ⟨#[73, 109, 112, 111, 114, 116, 87, 97, 114, 110, 105, 110, 103]⟩
noncomputable def u115 : PySem.Str := ⟨#[80, 101, 110, 100, 105, 110, 103, 68, 101, 112, 114, 101, 99, 97, 116, 105, 111, 110, 87, 97, 114, 110, 105, 110, 103]⟩
noncomputable def u116 : PySem.Str := ⟨#[82, 101, 115, 111, 117, 114, 99, 101, 87, 97, 114, 110, 105, 110, 103]⟩
noncomputable def u117 : PySem.Str := ⟨#[82, 117, 110, 116, 105, 109, 101, 87, 97, 114, 110, 105, 110, 103]⟩
noncomputable def u118 : PySem.Str := ⟨#[83, 121, 110, 116, 97, 120, 87, 97, 114, 110, 105, 110, 103]⟩
noncomputable def u119 : PySem.Str := ⟨#[85, 110, 105, 99, 111, 100, 101, 87, 97, 114, 110, 105, 110, 103]⟩
noncomputable def u120 : PySem.Str := ⟨#[85, 115, 101, 114, 87, 97, 114, 110, 105, 110, 103]⟩
noncomputable def u121 : PySem.Str := ⟨#[66, 108, 111, 99, 107, 105, 110, 103, 73, 79, 69, 114, 114, 111, 114]⟩
noncomputable def u122 : PySem.Str := ⟨#[67, 104, 105, 108, 100, 80, 114, 111, 99, 101, 115, 115, 69, 114, 114, 111, 114]⟩
noncomputable def u123 : PySem.Str := ⟨#[67, 111, 110, 110, 101, 99, 116, 105, 111, 110, 69, 114, 114, 111, 114]⟩
noncomputable def u124 : PySem.Str := ⟨#[70, 105, 108, 101, 69, 120, 105, 115, 116, 115, 69, 114, 114, 111, 114]⟩
noncomputable def u125 : PySem.Str := ⟨#[70, 105, 108, 101, 78, 111, 116, 70, 111, 117, 110, 100, 69, 114, 114, 111, 114]⟩
noncomputable def u126 : PySem.Str := ⟨#[73, 110, 116, 101, 114, 114, 117, 112, 116, 101, 100, 69, 114, 114, 111, 114]⟩
noncomputable def u127 : PySem.Str := ⟨#[73, 115, 65, 68, 105, 114, 101, 99, 116, 111, 114, 121, 69, 114, 114, 111, 114]⟩
noncomputable def u128 : PySem.Str := ⟨#[78, 111, 116, 65, 68, 105, 114, 101, 99, 116, 111, 114, 121, 69, 114, 114, 111, 114]⟩
noncomputable def u129 : PySem.Str := ⟨#[80, 101, 114, 109, 105, 115, 115, 105, 111, 110, 69, 114, 114, 111, 114]⟩
noncomputable def u130 : PySem.Str := ⟨#[80, 114, 111, 99, 101, 115, 115, 76, 111, 111, 107, 117, 112, 69, 114, 114, 111, 114]⟩
noncomputable def u131 : PySem.Str := ⟨#[84, 105, 109, 101, 111, 117, 116, 69, 114, 114, 111, 114]⟩
noncomputable def u132 : PySem.Str := ⟨#[73, 110, 100, 101, 110, 116, 97, 116, 105, 111, 110, 69, 114, 114, 111, 114]⟩
noncomputable def u133 : PySem.Str := ⟨#[95, 73, 110, 99, 111, 109, 112, 108, 101, 116, 101, 73, 110, 112, 117, 116, 69, 114, 114, 111, 114]⟩
noncomputable def u134 : PySem.Str := ⟨#[73, 110, 100, 101, 120, 69, 114, 114, 111, 114]⟩
noncomputable def u135 : PySem.Str := ⟨#[75, 101, 121, 69, 114, 114, 111, 114]⟩
noncomputable def u136 : PySem.Str := ⟨#[77, 111, 100, 117, 108, 101, 78, 111, 116, 70, 111, 117, 110, 100, 69, 114, 114, 111, 114]⟩
noncomputable def u137 : PySem.Str := ⟨#[78, 111, 116, 73, 109, 112, 108, 101, 109, 101, 110, 116, 101, 100, 69, 114, 114, 111, 114]⟩
noncomputable def u138 : PySem.Str := ⟨#[80, 121, 116, 104, 111, 110, 70, 105, 110, 97, 108, 105, 122, 97, 116, 105, 111, 110, 69, 114, 114, 111, 114]⟩
noncomputable def u139 : PySem.Str := ⟨#[82, 101, 99, 117, 114, 115, 105, 111, 110, 69, 114, 114, 111, 114]⟩
noncomputable def u140 : PySem.Str := ⟨#[85, 110, 98, 111, 117, 110, 100, 76, 111, 99, 97, 108, 69, 114, 114, 111, 114]⟩
noncomputable def u141 : PySem.Str := ⟨#[85, 110, 105, 99, 111, 100, 101, 69, 114, 114, 111, 114]⟩
noncomputable def u142 : PySem.Str := ⟨#[66, 114, 111, 107, 101, 110, 80, 105, 112, 101, 69, 114, 114, 111, 114]⟩
noncomputable def u143 : PySem.Str := ⟨#[67, 111, 110, 110, 101, 99, 116, 105, 111, 110, 65, 98, 111, 114, 116, 101, 100, 69, 114, 114, 111, 114]⟩
noncomputable def u144 : PySem.Str := ⟨#[67, 111, 110, 110, 101, 99, 116, 105, 111, 110, 82, 101, 102, 117, 115, 101, 100, 69, 114, 114, 111, 114]⟩
noncomputable def u145 : PySem.Str := ⟨#[67, 111, 110, 110, 101, 99, 116, 105, 111, 110, 82, 101, 115, 101, 116, 69, 114, 114, 111, 114]⟩
noncomputable def u146 : PySem.Str := ⟨#[84, 97, 98, 69, 114, 114, 111, 114]⟩
noncomputable def u147 : PySem.Str := ⟨#[85, 110, 105, 99, 111, 100, 101, 68, 101, 99, 111, 100, 101, 69, 114, 114, 111, 114]⟩
noncomputable def u148 : PySem.Str := ⟨#[85, 110, 105, 99, 111, 100, 101, 69, 110, 99, 111, 100, 101, 69, 114, 114, 111, 114]⟩
noncomputable def u149 : PySem.Str := ⟨#[85, 110, 105, 99, 111, 100, 101, 84, 114, 97, 110, 115, 108, 97, 116, 101, 69, 114, 114, 111, 114]⟩
noncomputable def u150 : PySem.Str := ⟨#[69, 120, 99, 101, 112, 116, 105, 111, 110, 71, 114, 111, 117, 112]⟩
noncomputable def u151 : PySem.Str := ⟨#[69, 110, 118, 105, 114, 111, 110, 109, 101, 110, 116, 69, 114, 114, 111, 114]⟩
noncomputable def u152 : PySem.Str := ⟨#[73, 79, 69, 114, 114, 111, 114]⟩
noncomputable def u153 : PySem.Str := ⟨#[111, 112, 101, 110]⟩
noncomputable def u154 : PySem.Str := ⟨#[113, 117, 105, 116]⟩
noncomputable def u155 : PySem.Str := ⟨#[101, 120, 105, 116]⟩
noncomputable def u156 : PySem.Str := ⟨#[99, 111, 112, 121, 114, 105, 103, 104, 116]⟩
noncomputable def u157 : PySem.Str := ⟨#[99, 114, 101, 100, 105, 116, 115]⟩
noncomputable def u158 : PySem.Str := ⟨#[108, 105, 99, 101, 110, 115, 101]⟩
noncomputable def u159 : PySem.Str := ⟨#[104, 101, 108, 112]⟩
noncomputable def u160 : PySem.Str := ⟨#[95, 95, 109, 97, 105, 110, 95, 95]⟩
noncomputable def u161 : PySem.Str := ⟨#[95, 95, 97, 110, 110, 111, 116, 97, 116, 105, 111, 110, 115, 95, 95]⟩
noncomputable def u162 : PySem.Str := ⟨#[95, 95, 98, 117, 105, 108, 116, 105, 110, 115, 95, 95]⟩
noncomputable def u163 : PySem.Str := ⟨#[95, 95, 102, 105, 108, 101, 95, 95]⟩
noncomputable def u164 : PySem.Str := ⟨#[47, 99, 108, 97, 105, 109, 47, 99, 117, 116, 46, 112, 121]⟩
noncomputable def u165 : PySem.Str := ⟨#[95, 95, 99, 97, 99, 104, 101, 100, 95, 95]⟩
noncomputable def u166 : PySem.Str := ⟨#[60, 109, 111, 100, 117, 108, 101, 62]⟩
noncomputable def u167 : PySem.Str := ⟨#[116, 121, 112, 101, 46, 95, 95, 115, 117, 98, 99, 108, 97, 115, 115, 101, 115, 95, 95, 46, 69, 120, 99, 101, 112, 116, 105, 111, 110, 46, 48]⟩
noncomputable def u168 : PySem.Str := ⟨#[116, 121, 112, 101, 46, 95, 95, 115, 117, 98, 99, 108, 97, 115, 115, 101, 115, 95, 95, 46, 69, 120, 99, 101, 112, 116, 105, 111, 110, 46, 110]⟩
noncomputable def u169 : PySem.Str := ⟨#[112, 105, 120, 101, 108, 112, 114, 101, 115, 115, 46, 122, 105, 103, 122, 97, 103]⟩
noncomputable def u170 : PySem.Str := ⟨#[99, 108, 97, 109, 112, 101, 100]⟩
noncomputable def u171 : PySem.Str := ⟨#[112, 117, 116, 95, 98, 108, 111, 99, 107]⟩
noncomputable def u172 : PySem.Str := ⟨#[80, 114, 101, 115, 115, 69, 114, 114, 111, 114]⟩
noncomputable def u173 : PySem.Str := ⟨#[70, 114, 97, 109, 101, 69, 114, 114, 111, 114]⟩
noncomputable def u174 : PySem.Str := ⟨#[82, 97, 110, 103, 101, 69, 114, 114, 111, 114]⟩
noncomputable def u175 : PySem.Str := ⟨#[102, 97, 99, 116, 111, 114, 115]⟩
noncomputable def u176 : PySem.Str := ⟨#[80, 108, 97, 110, 101]⟩
noncomputable def u177 : PySem.Str := ⟨#[80, 105, 99, 116, 117, 114, 101]⟩
noncomputable def u178 : PySem.Str := ⟨#[107, 101, 112, 116, 95, 105, 110]⟩
noncomputable def u179 : PySem.Str := ⟨#[103, 114, 101, 97, 116, 101, 115, 116, 95, 115, 97, 109, 112, 108, 101]⟩
noncomputable def u180 : PySem.Str := ⟨#[98, 108, 97, 110, 107]⟩
noncomputable def u181 : PySem.Str := ⟨#[99, 117, 116]⟩
noncomputable def u182 : PySem.Str := ⟨#[100, 101, 113, 117, 97, 110, 116, 105, 115, 101]⟩
noncomputable def u183 : PySem.Str := ⟨#[67, 79, 78, 83, 84, 95, 66, 73, 84, 83]⟩
noncomputable def u184 : PySem.Str := ⟨#[80, 65, 83, 83, 95, 66, 73, 84, 83]⟩
noncomputable def u185 : PySem.Str := ⟨#[67, 95, 48, 95, 53, 52, 49]⟩
noncomputable def u186 : PySem.Str := ⟨#[67, 95, 48, 95, 55, 54, 53]⟩
noncomputable def u187 : PySem.Str := ⟨#[67, 95, 49, 95, 56, 52, 55]⟩
noncomputable def u188 : PySem.Str := ⟨#[100, 101, 115, 99, 97, 108, 101, 100]⟩
noncomputable def u189 : PySem.Str := ⟨#[101, 118, 101, 110, 95, 102, 111, 114, 119, 97, 114, 100]⟩
noncomputable def u190 : PySem.Str := ⟨#[101, 118, 101, 110, 95, 105, 110, 118, 101, 114, 115, 101]⟩
noncomputable def u191 : PySem.Str := ⟨#[116, 117, 114, 110, 101, 100]⟩
noncomputable def u192 : PySem.Str := ⟨#[83, 73, 68, 69, 95, 100, 99, 116, 95, 105, 115, 108, 111, 119]⟩
noncomputable def u193 : PySem.Str := ⟨#[83, 67, 65, 76, 69, 95, 66, 73, 84, 83]⟩
noncomputable def u194 : PySem.Str := ⟨#[67, 95, 48, 95, 50, 57, 56]⟩
noncomputable def u195 : PySem.Str := ⟨#[67, 95, 48, 95, 51, 57, 48]⟩
noncomputable def u196 : PySem.Str := ⟨#[67, 95, 48, 95, 56, 57, 57]⟩
noncomputable def u197 : PySem.Str := ⟨#[67, 95, 49, 95, 49, 55, 53]⟩
noncomputable def u198 : PySem.Str := ⟨#[67, 95, 49, 95, 53, 48, 49]⟩
noncomputable def u199 : PySem.Str := ⟨#[67, 95, 49, 95, 57, 54, 49]⟩
noncomputable def u200 : PySem.Str := ⟨#[67, 95, 50, 95, 48, 53, 51]⟩
noncomputable def u201 : PySem.Str := ⟨#[67, 95, 50, 95, 53, 54, 50]⟩
noncomputable def u202 : PySem.Str := ⟨#[67, 95, 51, 95, 48, 55, 50]⟩
noncomputable def u203 : PySem.Str := ⟨#[111, 100, 100, 95, 102, 108, 111, 119]⟩
noncomputable def u204 : PySem.Str := ⟨#[102, 111, 114, 119, 97, 114, 100, 95, 114, 111, 119]⟩
noncomputable def u205 : PySem.Str := ⟨#[105, 110, 118, 101, 114, 115, 101, 95, 114, 111, 119]⟩
noncomputable def u206 : PySem.Str := ⟨#[73, 115, 108, 111, 119, 68, 99, 116]⟩
noncomputable def u207 : PySem.Str := ⟨#[83, 73, 68, 69, 95, 100, 99, 116, 95, 115, 109, 97, 108, 108]⟩
noncomputable def u208 : PySem.Str := ⟨#[70, 111, 117, 114, 68, 99, 116]⟩
noncomputable def u209 : PySem.Str := ⟨#[84, 119, 111, 68, 99, 116]⟩
noncomputable def u210 : PySem.Str := ⟨#[79, 110, 101, 68, 99, 116]⟩
noncomputable def u211 : PySem.Str := ⟨#[112, 105, 99, 107, 101, 100]⟩
noncomputable def u212 : PySem.Str := ⟨#[105, 110, 118, 101, 114, 115, 101]⟩
noncomputable def u213 : PySem.Str := ⟨#[103, 114, 111, 119, 110]⟩
noncomputable def u214 : PySem.Str := ⟨#[114, 101, 112, 101, 97, 116, 101, 100]⟩
noncomputable def u215 : PySem.Str := ⟨#[115, 111, 102, 116, 101, 110, 101, 100]⟩
noncomputable def u216 : PySem.Str := ⟨#[110, 101, 97, 114, 95, 97, 110, 100, 95, 102, 97, 114]⟩
noncomputable def u217 : PySem.Str := ⟨#[100, 111, 117, 98, 108, 101, 100, 95, 114, 111, 119]⟩
noncomputable def u218 : PySem.Str := ⟨#[122, 105, 103, 122, 97, 103, 95, 112, 108, 97, 99, 101, 115]⟩
noncomputable def u219 : PySem.Str := ⟨#[110, 117, 109, 98, 101, 114]⟩
noncomputable def u220 : PySem.Str := ⟨#[109, 111, 115, 116]⟩
noncomputable def u221 : PySem.Str := ⟨#[112, 105, 120, 101, 108, 112, 114, 101, 115, 115, 46, 98, 108, 111, 99, 107, 115]⟩
noncomputable def u222 : PySem.Str := ⟨#[112, 108, 97, 110, 101]⟩
noncomputable def u223 : PySem.Str := ⟨#[120]⟩
noncomputable def u224 : PySem.Str := ⟨#[121]⟩
noncomputable def u225 : PySem.Str := ⟨#[98, 108, 111, 99, 107]⟩
noncomputable def u226 : PySem.Str := ⟨#[110]⟩
noncomputable def u227 : PySem.Str := ⟨#[99, 101, 110, 116, 114, 101]⟩
noncomputable def u228 : PySem.Str := ⟨#[119, 105, 100, 101]⟩
noncomputable def u229 : PySem.Str := ⟨#[114, 111, 119]⟩
noncomputable def u230 : PySem.Str := ⟨#[116, 111, 108, 100]⟩
noncomputable def u231 : PySem.Str := ⟨#[112, 108, 97, 99, 101]⟩
noncomputable def u232 : PySem.Str := ⟨#[95, 95, 109, 111, 100, 117, 108, 101, 95, 95]⟩
noncomputable def u233 : PySem.Str := ⟨#[112, 105, 120, 101, 108, 112, 114, 101, 115, 115, 46, 101, 114, 114, 111, 114, 115]⟩
noncomputable def u234 : PySem.Str := ⟨#[95, 95, 113, 117, 97, 108, 110, 97, 109, 101, 95, 95]⟩
noncomputable def u235 : PySem.Str := ⟨#[95, 95, 102, 105, 114, 115, 116, 108, 105, 110, 101, 110, 111, 95, 95]⟩
noncomputable def u236 : PySem.Str := ⟨#[95, 95, 105, 110, 105, 116, 95, 95]⟩
noncomputable def u237 : PySem.Str := ⟨#[95, 95, 115, 116, 97, 116, 105, 99, 95, 97, 116, 116, 114, 105, 98, 117, 116, 101, 115, 95, 95]⟩
noncomputable def u238 : PySem.Str := ⟨#[115, 101, 108, 102]⟩
noncomputable def u239 : PySem.Str := ⟨#[109, 101, 115, 115, 97, 103, 101]⟩
noncomputable def u240 : PySem.Str := ⟨#[80, 114, 101, 115, 115, 69, 114, 114, 111, 114, 46, 95, 95, 105, 110, 105, 116, 95, 95]⟩
noncomputable def u241 : PySem.Str := ⟨#[95, 95, 119, 101, 97, 107, 114, 101, 102, 95, 95]⟩
noncomputable def u242 : PySem.Str := ⟨#[102, 114, 97, 109, 101]⟩
noncomputable def u243 : PySem.Str := ⟨#[99, 111, 109, 112, 111, 110, 101, 110, 116]⟩
noncomputable def u244 : PySem.Str := ⟨#[112, 105, 120, 101, 108, 112, 114, 101, 115, 115, 46, 102, 97, 99, 116, 111, 114, 115]⟩
noncomputable def u245 : PySem.Str := ⟨#[112, 105, 120, 101, 108, 112, 114, 101, 115, 115, 46, 112, 108, 97, 110, 101, 115]⟩
noncomputable def u246 : PySem.Str := ⟨#[97, 116]⟩
noncomputable def u247 : PySem.Str := ⟨#[112, 117, 116]⟩
noncomputable def u248 : PySem.Str := ⟨#[119, 105, 100, 116, 104]⟩
noncomputable def u249 : PySem.Str := ⟨#[104, 101, 105, 103, 104, 116]⟩
noncomputable def u250 : PySem.Str := ⟨#[114, 111, 119, 115]⟩
noncomputable def u251 : PySem.Str := ⟨#[80, 108, 97, 110, 101, 46, 95, 95, 105, 110, 105, 116, 95, 95]⟩
noncomputable def u252 : PySem.Str := ⟨#[80, 108, 97, 110, 101, 46, 97, 116]⟩
noncomputable def u253 : PySem.Str := ⟨#[118, 97, 108, 117, 101]⟩
noncomputable def u254 : PySem.Str := ⟨#[80, 108, 97, 110, 101, 46, 112, 117, 116]⟩
noncomputable def u255 : PySem.Str := ⟨#[95, 95, 100, 105, 99, 116, 95, 95]⟩
noncomputable def u256 : PySem.Str := ⟨#[109, 111, 100, 101, 108]⟩
noncomputable def u257 : PySem.Str := ⟨#[112, 114, 101, 99, 105, 115, 105, 111, 110]⟩
noncomputable def u258 : PySem.Str := ⟨#[112, 108, 97, 110, 101, 115]⟩
noncomputable def u259 : PySem.Str := ⟨#[80, 105, 99, 116, 117, 114, 101, 46, 95, 95, 105, 110, 105, 116, 95, 95]⟩
noncomputable def u260 : PySem.Str := ⟨#[80, 105, 99, 116, 117, 114, 101, 46, 119, 105, 100, 116, 104]⟩
noncomputable def u261 : PySem.Str := ⟨#[80, 105, 99, 116, 117, 114, 101, 46, 104, 101, 105, 103, 104, 116]⟩
noncomputable def u262 : PySem.Str := ⟨#[80, 105, 99, 116, 117, 114, 101, 46, 109, 111, 115, 116]⟩
noncomputable def u263 : PySem.Str := ⟨#[115, 105, 122, 101]⟩
noncomputable def u264 : PySem.Str := ⟨#[112, 105, 120, 101, 108, 112, 114, 101, 115, 115, 46, 113, 117, 97, 110, 116]⟩
noncomputable def u265 : PySem.Str := ⟨#[98, 105, 116, 115]⟩
noncomputable def u266 : PySem.Str := ⟨#[112, 105, 120, 101, 108, 112, 114, 101, 115, 115, 46, 100, 99, 116, 95, 112, 97, 114, 116, 115]⟩
noncomputable def u267 : PySem.Str := ⟨#[97]⟩
noncomputable def u268 : PySem.Str := ⟨#[98]⟩
noncomputable def u269 : PySem.Str := ⟨#[99]⟩
noncomputable def u270 : PySem.Str := ⟨#[100]⟩
noncomputable def u271 : PySem.Str := ⟨#[111, 117, 116, 101, 114]⟩
noncomputable def u272 : PySem.Str := ⟨#[105, 110, 110, 101, 114]⟩
noncomputable def u273 : PySem.Str := ⟨#[115, 104, 97, 114, 101, 100]⟩
noncomputable def u274 : PySem.Str := ⟨#[112, 108, 97, 105, 110]⟩
noncomputable def u275 : PySem.Str := ⟨#[104, 97, 108, 102]⟩
noncomputable def u276 : PySem.Str := ⟨#[102, 105, 114, 115, 116]⟩
noncomputable def u277 : PySem.Str := ⟨#[116, 104, 105, 114, 100]⟩
noncomputable def u278 : PySem.Str := ⟨#[116, 111, 112]⟩
noncomputable def u279 : PySem.Str := ⟨#[108, 111, 119]⟩
noncomputable def u280 : PySem.Str := ⟨#[102, 111, 117, 110, 100]⟩
noncomputable def u281 : PySem.Str := ⟨#[99, 114, 111, 115, 115]⟩
noncomputable def u282 : PySem.Str := ⟨#[110, 101, 97, 114]⟩
noncomputable def u283 : PySem.Str := ⟨#[102, 97, 114]⟩
noncomputable def u284 : PySem.Str := ⟨#[112, 105, 120, 101, 108, 112, 114, 101, 115, 115, 46, 100, 99, 116, 95, 105, 115, 108, 111, 119]⟩
noncomputable def u285 : PySem.Str := ⟨#[102, 111, 114, 119, 97, 114, 100]⟩
noncomputable def u286 : PySem.Str := ⟨#[97, 99, 114, 111, 115, 115]⟩
noncomputable def u287 : PySem.Str := ⟨#[73, 115, 108, 111, 119, 68, 99, 116, 46, 102, 111, 114, 119, 97, 114, 100]⟩
noncomputable def u288 : PySem.Str := ⟨#[73, 115, 108, 111, 119, 68, 99, 116, 46, 105, 110, 118, 101, 114, 115, 101]⟩
noncomputable def u289 : PySem.Str := ⟨#[112, 105, 120, 101, 108, 112, 114, 101, 115, 115, 46, 100, 99, 116, 95, 115, 109, 97, 108, 108]⟩
noncomputable def u290 : PySem.Str := ⟨#[122, 101, 114, 111]⟩
noncomputable def u291 : PySem.Str := ⟨#[116, 119, 111]⟩
noncomputable def u292 : PySem.Str := ⟨#[111, 110, 101]⟩
noncomputable def u293 : PySem.Str := ⟨#[116, 104, 114, 101, 101]⟩
noncomputable def u294 : PySem.Str := ⟨#[70, 111, 117, 114, 68, 99, 116, 46, 102, 111, 114, 119, 97, 114, 100]⟩
noncomputable def u295 : PySem.Str := ⟨#[70, 111, 117, 114, 68, 99, 116, 46, 105, 110, 118, 101, 114, 115, 101]⟩
noncomputable def u296 : PySem.Str := ⟨#[115, 117, 109, 115]⟩
noncomputable def u297 : PySem.Str := ⟨#[84, 119, 111, 68, 99, 116, 46, 102, 111, 114, 119, 97, 114, 100]⟩
noncomputable def u298 : PySem.Str := ⟨#[84, 119, 111, 68, 99, 116, 46, 105, 110, 118, 101, 114, 115, 101]⟩
noncomputable def u299 : PySem.Str := ⟨#[84, 119, 111, 68, 99, 116, 46, 115, 117, 109, 115]⟩
noncomputable def u300 : PySem.Str := ⟨#[79, 110, 101, 68, 99, 116, 46, 102, 111, 114, 119, 97, 114, 100]⟩
noncomputable def u301 : PySem.Str := ⟨#[79, 110, 101, 68, 99, 116, 46, 105, 110, 118, 101, 114, 115, 101]⟩
noncomputable def u302 : PySem.Str := ⟨#[112, 105, 120, 101, 108, 112, 114, 101, 115, 115, 46, 116, 114, 97, 110, 115, 102, 111, 114, 109]⟩
noncomputable def u303 : PySem.Str := ⟨#[100, 111, 119, 110]⟩
noncomputable def u304 : PySem.Str := ⟨#[102, 97, 110, 99, 121]⟩
noncomputable def u305 : PySem.Str := ⟨#[112, 105, 120, 101, 108, 112, 114, 101, 115, 115, 46, 117, 112, 115, 97, 109, 112, 108, 105, 110, 103]⟩
noncomputable def u306 : PySem.Str := ⟨#[118, 97, 108, 117, 101, 115]⟩
noncomputable def u307 : PySem.Str := ⟨#[115, 99, 97, 108, 101]⟩
noncomputable def u308 : PySem.Str := ⟨#[108, 101, 102, 116]⟩
noncomputable def u309 : PySem.Str := ⟨#[114, 105, 103, 104, 116]⟩
noncomputable def u310 : PySem.Str := ⟨#[119, 104, 111, 108, 101]⟩
noncomputable def u311 : PySem.Str := ⟨#[97, 104, 101, 97, 100]⟩
noncomputable def u312 : PySem.Str := ⟨#[98, 101, 104, 105, 110, 100]⟩
noncomputable def u313 : PySem.Str := ⟨#[116, 111, 116, 97, 108]⟩
noncomputable def u314 : PySem.Str := ⟨#[104, 105, 103, 104]⟩
noncomputable def u315 : PySem.Str := ⟨#[79, 82, 68, 69, 82, 95, 56]⟩
noncomputable def tP (p : Program) (P : Params) : BT := (BT.node ⟨(.type PySem.W.SL.s14018661285674007319x4), none, (.dict #[⟨PyData.keyHash P u0, (.str u0 1), (.str u1 160)⟩, ⟨PyData.keyHash P u2, (.str u2 2), (.builtin "builtins.__doc__:str#opaque")⟩, ⟨PyData.keyHash P u3, (.str u3 3), (.builtin "builtins.__package__:str#opaque")⟩, ⟨PyData.keyHash P u4, (.str u4 4), (.builtin "builtins.__loader__:shared#opaque")⟩, ⟨PyData.keyHash P u5, (.str u5 5), (.builtin PySem.W.SL.s11665532747177232413x24)⟩, ⟨PyData.keyHash P u6, (.str u6 6), (.builtin PySem.W.SL.s15183661809925369436x15)⟩, ⟨PyData.keyHash P u7, (.str u7 7), (.builtin PySem.W.SL.s13915890719876406383x10)⟩, ⟨PyData.keyHash P u8, (.str u8 8), (.builtin PySem.W.SL.s13459172003223722735x3)⟩, ⟨PyData.keyHash P u9, (.str u9 9), (.builtin PySem.W.SL.s10557405761357834076x3)⟩, ⟨PyData.keyHash P u10, (.str u10 10), (.builtin PySem.W.SL.s4233737765568776869x3)⟩, ⟨PyData.keyHash P u11, (.str u11 11), (.builtin PySem.W.SL.s2508922471967985374x5)⟩, ⟨PyData.keyHash P u12, (.str u12 12), (.builtin PySem.W.SL.s15574269061696679450x3)⟩, ⟨PyData.keyHash P u13, (.str u13 13), (.builtin PySem.W.SL.s6016482663378992977x10)⟩, ⟨PyData.keyHash P u14, (.str u14 14), (.builtin PySem.W.SL.s5596568736180474577x8)⟩, ⟨PyData.keyHash P u15, (.str u15 15), (.builtin PySem.W.SL.s2839554839881490554x3)⟩, ⟨PyData.keyHash P u16, (.str u16 16), (.builtin PySem.W.SL.s725004073602090463x7)⟩, ⟨PyData.keyHash P u17, (.str u17 17), (.builtin PySem.W.SL.s9436932552931045734x7)⟩, ⟨PyData.keyHash P u18, (.str u18 18), (.builtin PySem.W.SL.s2754603736356183583x3)⟩, ⟨PyData.keyHash P u19, (.str u19 19), (.builtin PySem.W.SL.s15185746759980889043x6)⟩, ⟨PyData.keyHash P u20, (.str u20 20), (.builtin PySem.W.SL.s8192189862530294059x4)⟩, ⟨PyData.keyHash P u21, (.str u21 21), (.builtin PySem.W.SL.s7038307821325472102x4)⟩, ⟨PyData.keyHash P u22, (.str u22 22), (.builtin PySem.W.SL.s5662562618415449548x6)⟩, ⟨PyData.keyHash P u23, (.str u23 23), (.builtin PySem.W.SL.s15281542589158584767x7)⟩, ⟨PyData.keyHash P u24, (.str u24 24), (.builtin PySem.W.SL.s17651547275483570877x7)⟩, ⟨PyData.keyHash P u25, (.str u25 25), (.builtin PySem.W.SL.s4036449017235975746x7)⟩, ⟨PyData.keyHash P u26, (.str u26 26), (.builtin PySem.W.SL.s8879979712987360175x4)⟩, ⟨PyData.keyHash P u27, (.str u27 27), (.builtin PySem.W.SL.s1801250619170735830x3)⟩, ⟨PyData.keyHash P u28, (.str u28 28), (.builtin PySem.W.SL.s17659931425627118568x2)⟩, ⟨PyData.keyHash P u29, (.str u29 29), (.builtin PySem.W.SL.s6063217899685152688x5)⟩, ⟨PyData.keyHash P u30, (.str u30 30), (.builtin PySem.W.SL.s8008927332132565319x10)⟩, ⟨PyData.keyHash P u31, (.str u31 31), (.builtin PySem.W.SL.s3544116645089599534x10)⟩, ⟨PyData.keyHash P u32, (.str u32 32), (.builtin PySem.W.SL.s13761710972054866084x4)⟩, ⟨PyData.keyHash P u33, (.str u33 33), (.builtin PySem.W.SL.s12896375587409280029x5)⟩, ⟨PyData.keyHash P u34, (.str u34 34), (.builtin PySem.W.SL.s13014049009108672802x3)⟩, ⟨PyData.keyHash P u35, (.str u35 35), (.builtin PySem.W.SL.s13935586738268321596x6)⟩, ⟨PyData.keyHash P u36, (.str u36 36), (.builtin PySem.W.SL.s8200498257699607233x3)⟩, ⟨PyData.keyHash P u37, (.str u37 37), (.builtin PySem.W.SL.s14114244577727609259x3)⟩, ⟨PyData.keyHash P u38, (.str u38 38), (.builtin PySem.W.SL.s1499430450269397089x4)⟩, ⟨PyData.keyHash P u39, (.str u39 39), (.builtin PySem.W.SL.s8755793994789770505x5)⟩, ⟨PyData.keyHash P u40, (.str u40 40), (.builtin PySem.W.SL.s15725212667919936108x3)⟩, ⟨PyData.keyHash P u41, (.str u41 41), (.builtin PySem.W.SL.s15791221867095933363x3)⟩, ⟨PyData.keyHash P u42, (.str u42 42), (.builtin PySem.W.SL.s81309575031448614x3)⟩, ⟨PyData.keyHash P u43, (.str u43 43), (.builtin PySem.W.SL.s8069831620301644142x5)⟩, ⟨PyData.keyHash P u44, (.str u44 44), (.builtin PySem.W.SL.s10061844253413749634x4)⟩, ⟨PyData.keyHash P u45, (.str u45 45), (.builtin PySem.W.SL.s9496514870978017513x5)⟩, ⟨PyData.keyHash P u46, (.str u46 46), (.builtin PySem.W.SL.s8899691144933366716x7)⟩, ⟨PyData.keyHash P u47, (.str u47 47), (.builtin PySem.W.SL.s15201008993051130160x6)⟩, ⟨PyData.keyHash P u48, (.str u48 48), (.builtin PySem.W.SL.s741896355592496720x3)⟩, ⟨PyData.keyHash P u49, (.str u49 49), (.builtin PySem.W.SL.s17925004256654032244x4)⟩, ⟨PyData.keyHash P u50, (.str u50 50), .none⟩, ⟨PyData.keyHash P u51, (.str u51 51), .ellipsis⟩, ⟨PyData.keyHash P u52, (.str u52 52), .notImplemented⟩, ⟨PyData.keyHash P u53, (.str u53 53), (.bool false)⟩, ⟨PyData.keyHash P u54, (.str u54 54), (.bool true)⟩, ⟨PyData.keyHash P u55, (.str u55 55), (.type PySem.W.SL.s11695548795398191787x4)⟩, ⟨PyData.keyHash P u56, (.str u56 56), (.type PySem.W.SL.s4156966113859768872x10)⟩, ⟨PyData.keyHash P u57, (.str u57 57), (.type PySem.W.SL.s9501651726347032510x9)⟩, ⟨PyData.keyHash P u58, (.str u58 58), (.type PySem.W.SL.s15722918466584999320x5)⟩, ⟨PyData.keyHash P u59, (.str u59 59), (.type PySem.W.SL.s591115383303110208x11)⟩, ⟨PyData.keyHash P u60, (.str u60 60), (.type PySem.W.SL.s15721156781594690315x7)⟩, ⟨PyData.keyHash P u61, (.str u61 61), (.type PySem.W.SL.s14018661285674007319x4)⟩, ⟨PyData.keyHash P u62, (.str u62 62), (.type PySem.W.SL.s14340494229221121180x9)⟩, ⟨PyData.keyHash P u63, (.str u63 63), (.type PySem.W.SL.s13429844117177748173x6)⟩, ⟨PyData.keyHash P u64, (.str u64 64), (.type PySem.W.SL.s16463266125957815391x5)⟩, ⟨PyData.keyHash P u65, (.str u65 65), (.type PySem.W.SL.s4922535414793169389x9)⟩, ⟨PyData.keyHash P u66, (.str u66 66), (.type PySem.W.SL.s8101838861749082086x8)⟩, ⟨PyData.keyHash P u67, (.str u67 67), (.type PySem.W.SL.s7066276694103001551x3)⟩, ⟨PyData.keyHash P u68, (.str u68 68), (.type PySem.W.SL.s9222952809800978799x4)⟩, ⟨PyData.keyHash P u69, (.str u69 69), (.type PySem.W.SL.s462964344163437139x3)⟩, ⟨PyData.keyHash P u70, (.str u70 70), (.type PySem.W.SL.s2742458400755230247x6)⟩, ⟨PyData.keyHash P u71, (.str u71 71), (.type PySem.W.SL.s1438033511350832697x5)⟩, ⟨PyData.keyHash P u72, (.str u72 72), (.type PySem.W.SL.s14365286008749172514x8)⟩, ⟨PyData.keyHash P u73, (.str u73 73), (.type PySem.W.SL.s3642769012341782148x3)⟩, ⟨PyData.keyHash P u74, (.str u74 74), (.type PySem.W.SL.s4674234679698826739x5)⟩, ⟨PyData.keyHash P u75, (.str u75 75), (.type PySem.W.SL.s16656946322747308186x12)⟩, ⟨PyData.keyHash P u76, (.str u76 76), (.type PySem.W.SL.s10796804682411823810x3)⟩, ⟨PyData.keyHash P u77, (.str u77 77), (.type PySem.W.SL.s4290257624100764138x5)⟩, ⟨PyData.keyHash P u78, (.str u78 78), (.type PySem.W.SL.s2766695959194262286x5)⟩, ⟨PyData.keyHash P u79, (.str u79 79), (.type PySem.W.SL.s17162191345867700912x4)⟩, ⟨PyData.keyHash P u80, (.str u80 80), (.type PySem.W.SL.s14339709457334898076x3)⟩, ⟨PyData.keyHash P u81, (.str u81 81), (.bool true)⟩, ⟨PyData.keyHash P u82, (.str u82 82), (.type PySem.W.SL.s4278001404047624695x13)⟩, ⟨PyData.keyHash P u83, (.str u83 83), (.type PySem.W.SL.s6585700554429387442x18)⟩, ⟨PyData.keyHash P u84, (.str u84 84), (.type PySem.W.SL.s5946037652744460706x9)⟩, ⟨PyData.keyHash P u85, (.str u85 85), (.type PySem.W.SL.s7410770068591931388x13)⟩, ⟨PyData.keyHash P u86, (.str u86 86), (.type PySem.W.SL.s11817881795495490833x17)⟩, ⟨PyData.keyHash P u87, (.str u87 87), (.type PySem.W.SL.s15679963881808890155x10)⟩, ⟨PyData.keyHash P u88, (.str u88 88), (.type PySem.W.SL.s3871700062485845797x15)⟩, ⟨PyData.keyHash P u89, (.str u89 89), (.type PySem.W.SL.s7689518266570723881x14)⟩, ⟨PyData.keyHash P u90, (.str u90 90), (.type PySem.W.SL.s9001593270443806431x14)⟩, ⟨PyData.keyHash P u91, (.str u91 91), (.type PySem.W.SL.s6882542574934516792x11)⟩, ⟨PyData.keyHash P u92, (.str u92 92), (.type PySem.W.SL.s14403400214490484960x8)⟩, ⟨PyData.keyHash P u93, (.str u93 93), (.type PySem.W.SL.s14457978657717015782x11)⟩, ⟨PyData.keyHash P u94, (.str u94 94), (.type PySem.W.SL.s1753610191782819921x11)⟩, ⟨PyData.keyHash P u95, (.str u95 95), (.type PySem.W.SL.s14119380538032626715x11)⟩, ⟨PyData.keyHash P u96, (.str u96 96), (.type PySem.W.SL.s11437920000406562045x9)⟩, ⟨PyData.keyHash P u97, (.str u97 97), (.type PySem.W.SL.s10852414792293593619x7)⟩, ⟨PyData.keyHash P u98, (.str u98 98), (.type PySem.W.SL.s14816307405966870543x14)⟩, ⟨PyData.keyHash P u99, (.str u99 99), (.type PySem.W.SL.s8682627914449686677x12)⟩, ⟨PyData.keyHash P u100, (.str u100 100), (.type PySem.W.SL.s4428170145600203450x18)⟩, ⟨PyData.keyHash P u101, (.str u101 101), (.type PySem.W.SL.s5991306692159431302x13)⟩, ⟨PyData.keyHash P u102, (.str u102 102), (.type PySem.W.SL.s16067994140765818257x11)⟩, ⟨PyData.keyHash P u103, (.str u103 103), (.type PySem.W.SL.s2327743974964600596x11)⟩, ⟨PyData.keyHash P u104, (.str u104 104), (.type PySem.W.SL.s2804747833354056582x9)⟩, ⟨PyData.keyHash P u105, (.str u105 105), (.type PySem.W.SL.s6070975301684473832x10)⟩, ⟨PyData.keyHash P u106, (.str u106 106), (.type PySem.W.SL.s14270485950484850486x7)⟩, ⟨PyData.keyHash P u107, (.str u107 107), (.type PySem.W.SL.s12041534306414923332x18)⟩, ⟨PyData.keyHash P u108, (.str u108 108), (.type PySem.W.SL.s2531307568338490285x13)⟩, ⟨PyData.keyHash P u109, (.str u109 109), (.type PySem.W.SL.s631175304937289666x17)⟩, ⟨PyData.keyHash P u110, (.str u110 110), (.type PySem.W.SL.s5144983644357021410x12)⟩, ⟨PyData.keyHash P u111, (.str u111 111), (.type PySem.W.SL.s18039099521571816885x18)⟩, ⟨PyData.keyHash P u112, (.str u112 112), (.type PySem.W.SL.s6011586214260557989x15)⟩, ⟨PyData.keyHash P u113, (.str u113 113), (.type PySem.W.SL.s5430567037509283100x13)⟩, ⟨PyData.keyHash P u114, (.str u114 114), (.type PySem.W.SL.s8117915138073963741x13)⟩, ⟨PyData.keyHash P u115, (.str u115 115), (.type PySem.W.SL.s3423317712779056401x25)⟩, ⟨PyData.keyHash P u116, (.str u116 116), (.type PySem.W.SL.s2007317383269046180x15)⟩, ⟨PyData.keyHash P u117, (.str u117 117), (.type PySem.W.SL.s17481586968713580700x14)⟩, ⟨PyData.keyHash P u118, (.str u118 118), (.type PySem.W.SL.s2450899226349176912x13)⟩, ⟨PyData.keyHash P u119, (.str u119 119), (.type PySem.W.SL.s16626165730633575011x14)⟩, ⟨PyData.keyHash P u120, (.str u120 120), (.type PySem.W.SL.s14288496050688921416x11)⟩, ⟨PyData.keyHash P u121, (.str u121 121), (.type PySem.W.SL.s5735081916595925998x15)⟩, ⟨PyData.keyHash P u122, (.str u122 122), (.type PySem.W.SL.s3865607918536308442x17)⟩, ⟨PyData.keyHash P u123, (.str u123 123), (.type PySem.W.SL.s13337502604062700212x15)⟩, ⟨PyData.keyHash P u124, (.str u124 124), (.type PySem.W.SL.s13114017843053701147x15)⟩, ⟨PyData.keyHash P u125, (.str u125 125), (.type PySem.W.SL.s17467278006356818441x17)⟩, ⟨PyData.keyHash P u126, (.str u126 126), (.type PySem.W.SL.s17722149559621369488x16)⟩, ⟨PyData.keyHash P u127, (.str u127 127), (.type PySem.W.SL.s7855274175708717672x17)⟩, ⟨PyData.keyHash P u128, (.str u128 128), (.type PySem.W.SL.s13351283678309829046x18)⟩, ⟨PyData.keyHash P u129, (.str u129 129), (.type PySem.W.SL.s6668348653404991179x15)⟩, ⟨PyData.keyHash P u130, (.str u130 130), (.type PySem.W.SL.s12913350958174193794x18)⟩, ⟨PyData.keyHash P u131, (.str u131 131), (.type PySem.W.SL.s16115879512475548326x12)⟩, ⟨PyData.keyHash P u132, (.str u132 132), (.type PySem.W.SL.s15920661018069861047x16)⟩, ⟨PyData.keyHash P u133, (.str u133 133), (.type PySem.W.SL.s10779130036587390575x21)⟩, ⟨PyData.keyHash P u134, (.str u134 134), (.type PySem.W.SL.s7801419657504700863x10)⟩, ⟨PyData.keyHash P u135, (.str u135 135), (.type PySem.W.SL.s1688129525768580628x8)⟩, ⟨PyData.keyHash P u136, (.str u136 136), (.type PySem.W.SL.s1031832959479892071x19)⟩, ⟨PyData.keyHash P u137, (.str u137 137), (.type PySem.W.SL.s8991790508128307865x19)⟩, ⟨PyData.keyHash P u138, (.str u138 138), (.type PySem.W.SL.s14539662485746970245x23)⟩, ⟨PyData.keyHash P u139, (.str u139 139), (.type PySem.W.SL.s11643622729373238714x14)⟩, ⟨PyData.keyHash P u140, (.str u140 140), (.type PySem.W.SL.s3386828779285465597x17)⟩, ⟨PyData.keyHash P u141, (.str u141 141), (.type PySem.W.SL.s13042696260734638735x12)⟩, ⟨PyData.keyHash P u142, (.str u142 142), (.type PySem.W.SL.s18239426817015966623x15)⟩, ⟨PyData.keyHash P u143, (.str u143 143), (.type PySem.W.SL.s1270395311379034370x22)⟩, ⟨PyData.keyHash P u144, (.str u144 144), (.type PySem.W.SL.s10696252587037064777x22)⟩, ⟨PyData.keyHash P u145, (.str u145 145), (.type PySem.W.SL.s7852717498200857586x20)⟩, ⟨PyData.keyHash P u146, (.str u146 146), (.type PySem.W.SL.s6377248116197321094x8)⟩, ⟨PyData.keyHash P u147, (.str u147 147), (.type PySem.W.SL.s3834378056692298002x18)⟩, ⟨PyData.keyHash P u148, (.str u148 148), (.type PySem.W.SL.s17586630440231065808x18)⟩, ⟨PyData.keyHash P u149, (.str u149 149), (.type PySem.W.SL.s15234114252648025395x21)⟩, ⟨PyData.keyHash P u150, (.str u150 150), (.type PySem.W.SL.s8496462677383758984x14)⟩, ⟨PyData.keyHash P u151, (.str u151 151), (.type PySem.W.SL.s10852414792293593619x7)⟩, ⟨PyData.keyHash P u152, (.str u152 152), (.type PySem.W.SL.s10852414792293593619x7)⟩, ⟨PyData.keyHash P u153, (.str u153 153), (.builtin PySem.W.SL.s16789243406116112673x4)⟩, ⟨PyData.keyHash P u154, (.str u154 154), (.builtin PySem.W.SL.s14400166428656793546x20)⟩, ⟨PyData.keyHash P u155, (.str u155 155), (.builtin PySem.W.SL.s5857708277339239366x20)⟩, ⟨PyData.keyHash P u156, (.str u156 156), (.builtin "builtins.copyright#opaque")⟩, ⟨PyData.keyHash P u157, (.str u157 157), (.builtin "builtins.credits#opaque")⟩, ⟨PyData.keyHash P u158, (.str u158 158), (.builtin "builtins.license#opaque")⟩, ⟨PyData.keyHash P u159, (.str u159 159), (.builtin PySem.W.SL.s7804999707787243718x20)⟩] 159), #[]⟩ (BT.node ⟨(.type PySem.W.SL.s14018661285674007319x4), none, (.dict #[⟨PyData.keyHash P u1, (.str u1 162), (.ref 4)⟩, ⟨PyData.keyHash P u160, (.str u160 163), (.ref 5)⟩] 2), #[]⟩ (BT.node ⟨(.type PySem.W.SL.s14018661285674007319x4), none, (.dict #[⟨PyData.keyHash P u0, (.str u0 165), (.str u160 164)⟩, ⟨PyData.keyHash P u2, (.str u2 166), .none⟩, ⟨PyData.keyHash P u3, (.str u3 167), .none⟩, ⟨PyData.keyHash P u4, (.str u4 168), (.builtin PySem.W.SL.s7097527257260152453x26)⟩, ⟨PyData.keyHash P u5, (.str u5 169), .none⟩, ⟨PyData.keyHash P u161, (.str u161 170), (.ref 6)⟩, ⟨PyData.keyHash P u162, (.str u162 171), (.ref 4)⟩, ⟨PyData.keyHash P u163, (.str u163 173), (.str u164 172)⟩, ⟨PyData.keyHash P u165, (.str u165 174), .none⟩] 9), #[]⟩ (BT.node ⟨(.type PySem.W.SL.s2766695959194262286x5), none, (.seq #[] 0), #[]⟩ BT.nil BT.nil) (BT.node ⟨(.type PySem.W.SL.s2766695959194262286x5), none, (.seq #[] 0), #[]⟩ BT.nil BT.nil)) (BT.node ⟨(.type PySem.W.SL.s6658869562736209489x6), (some 3), .plain, #[]⟩ (BT.node ⟨(.type PySem.W.SL.s5856160107412720595x4), none, (.fields #[(.str u166 176), (.str u166 177), (.str u164 178), (.int 1 0), (.int 0 0), (.int 0 0), (.int 0 0), (.int 0 0), (.ref 7), (.bool false), (.int 175 0), (.ref 8), .none, .none, .none, .none, (.int 179 0), (.int 1 0), (.str u164 180)]), #[]⟩ BT.nil BT.nil) (BT.node ⟨(.type PySem.W.SL.s5856160107412720595x4), none, (.fields #[(.str u166 182), (.str u166 183), (.str u164 184), (.int 1 0), (.int 0 0), (.int 0 0), (.int 0 0), (.int 0 0), (.ref 11), (.bool false), (.int 181 0), (.ref 12), .none, .none, .none, .none, (.int 185 0), (.int 1 0), (.str u164 186)]), #[]⟩ BT.nil BT.nil))) (BT.node ⟨.none, none, (.dict #[] 0), #[]⟩ (BT.node ⟨(.type PySem.W.SL.s6658869562736209489x6), (some 0), .plain, #[]⟩ (BT.node ⟨.none, none, (.fields #[]), #[]⟩ BT.nil BT.nil) (BT.node ⟨.none, none, (.fields #[]), #[]⟩ BT.nil BT.nil)) (BT.node ⟨(.type PySem.W.SL.s14018661285674007319x4), none, (.dict #[] 0), #[]⟩ (BT.node ⟨(.type PySem.W.SL.s658472552662922059x5), none, .plain, #[(some (.ref 9)), (some (.ref 3)), (some (.ref 3)), none, (some (.str u160 164)), none, (some (.ref 0))]⟩ BT.nil BT.nil) (BT.node ⟨(.type PySem.W.SL.s658472552662922059x5), none, .plain, #[(some (.ref 13)), (some (.ref 3)), (some (.ref 3)), none, (some (.str u160 164)), none, (some (.ref 0))]⟩ BT.nil BT.nil))))
noncomputable def tA (p : Program) (P : Params) : BT := (BT.node ⟨(.type PySem.W.SL.s14018661285674007319x4), none, (.dict #[⟨PyData.keyHash P u0, (.str u0 1), (.str u1 160)⟩, ⟨PyData.keyHash P u2, (.str u2 2), (.builtin "builtins.__doc__:str#opaque")⟩, ⟨PyData.keyHash P u3, (.str u3 3), (.builtin "builtins.__package__:str#opaque")⟩, ⟨PyData.keyHash P u4, (.str u4 4), (.builtin "builtins.__loader__:shared#opaque")⟩, ⟨PyData.keyHash P u5, (.str u5 5), (.builtin PySem.W.SL.s11665532747177232413x24)⟩, ⟨PyData.keyHash P u6, (.str u6 6), (.builtin PySem.W.SL.s15183661809925369436x15)⟩, ⟨PyData.keyHash P u7, (.str u7 7), (.builtin PySem.W.SL.s13915890719876406383x10)⟩, ⟨PyData.keyHash P u8, (.str u8 8), (.builtin PySem.W.SL.s13459172003223722735x3)⟩, ⟨PyData.keyHash P u9, (.str u9 9), (.builtin PySem.W.SL.s10557405761357834076x3)⟩, ⟨PyData.keyHash P u10, (.str u10 10), (.builtin PySem.W.SL.s4233737765568776869x3)⟩, ⟨PyData.keyHash P u11, (.str u11 11), (.builtin PySem.W.SL.s2508922471967985374x5)⟩, ⟨PyData.keyHash P u12, (.str u12 12), (.builtin PySem.W.SL.s15574269061696679450x3)⟩, ⟨PyData.keyHash P u13, (.str u13 13), (.builtin PySem.W.SL.s6016482663378992977x10)⟩, ⟨PyData.keyHash P u14, (.str u14 14), (.builtin PySem.W.SL.s5596568736180474577x8)⟩, ⟨PyData.keyHash P u15, (.str u15 15), (.builtin PySem.W.SL.s2839554839881490554x3)⟩, ⟨PyData.keyHash P u16, (.str u16 16), (.builtin PySem.W.SL.s725004073602090463x7)⟩, ⟨PyData.keyHash P u17, (.str u17 17), (.builtin PySem.W.SL.s9436932552931045734x7)⟩, ⟨PyData.keyHash P u18, (.str u18 18), (.builtin PySem.W.SL.s2754603736356183583x3)⟩, ⟨PyData.keyHash P u19, (.str u19 19), (.builtin PySem.W.SL.s15185746759980889043x6)⟩, ⟨PyData.keyHash P u20, (.str u20 20), (.builtin PySem.W.SL.s8192189862530294059x4)⟩, ⟨PyData.keyHash P u21, (.str u21 21), (.builtin PySem.W.SL.s7038307821325472102x4)⟩, ⟨PyData.keyHash P u22, (.str u22 22), (.builtin PySem.W.SL.s5662562618415449548x6)⟩, ⟨PyData.keyHash P u23, (.str u23 23), (.builtin PySem.W.SL.s15281542589158584767x7)⟩, ⟨PyData.keyHash P u24, (.str u24 24), (.builtin PySem.W.SL.s17651547275483570877x7)⟩, ⟨PyData.keyHash P u25, (.str u25 25), (.builtin PySem.W.SL.s4036449017235975746x7)⟩, ⟨PyData.keyHash P u26, (.str u26 26), (.builtin PySem.W.SL.s8879979712987360175x4)⟩, ⟨PyData.keyHash P u27, (.str u27 27), (.builtin PySem.W.SL.s1801250619170735830x3)⟩, ⟨PyData.keyHash P u28, (.str u28 28), (.builtin PySem.W.SL.s17659931425627118568x2)⟩, ⟨PyData.keyHash P u29, (.str u29 29), (.builtin PySem.W.SL.s6063217899685152688x5)⟩, ⟨PyData.keyHash P u30, (.str u30 30), (.builtin PySem.W.SL.s8008927332132565319x10)⟩, ⟨PyData.keyHash P u31, (.str u31 31), (.builtin PySem.W.SL.s3544116645089599534x10)⟩, ⟨PyData.keyHash P u32, (.str u32 32), (.builtin PySem.W.SL.s13761710972054866084x4)⟩, ⟨PyData.keyHash P u33, (.str u33 33), (.builtin PySem.W.SL.s12896375587409280029x5)⟩, ⟨PyData.keyHash P u34, (.str u34 34), (.builtin PySem.W.SL.s13014049009108672802x3)⟩, ⟨PyData.keyHash P u35, (.str u35 35), (.builtin PySem.W.SL.s13935586738268321596x6)⟩, ⟨PyData.keyHash P u36, (.str u36 36), (.builtin PySem.W.SL.s8200498257699607233x3)⟩, ⟨PyData.keyHash P u37, (.str u37 37), (.builtin PySem.W.SL.s14114244577727609259x3)⟩, ⟨PyData.keyHash P u38, (.str u38 38), (.builtin PySem.W.SL.s1499430450269397089x4)⟩, ⟨PyData.keyHash P u39, (.str u39 39), (.builtin PySem.W.SL.s8755793994789770505x5)⟩, ⟨PyData.keyHash P u40, (.str u40 40), (.builtin PySem.W.SL.s15725212667919936108x3)⟩, ⟨PyData.keyHash P u41, (.str u41 41), (.builtin PySem.W.SL.s15791221867095933363x3)⟩, ⟨PyData.keyHash P u42, (.str u42 42), (.builtin PySem.W.SL.s81309575031448614x3)⟩, ⟨PyData.keyHash P u43, (.str u43 43), (.builtin PySem.W.SL.s8069831620301644142x5)⟩, ⟨PyData.keyHash P u44, (.str u44 44), (.builtin PySem.W.SL.s10061844253413749634x4)⟩, ⟨PyData.keyHash P u45, (.str u45 45), (.builtin PySem.W.SL.s9496514870978017513x5)⟩, ⟨PyData.keyHash P u46, (.str u46 46), (.builtin PySem.W.SL.s8899691144933366716x7)⟩, ⟨PyData.keyHash P u47, (.str u47 47), (.builtin PySem.W.SL.s15201008993051130160x6)⟩, ⟨PyData.keyHash P u48, (.str u48 48), (.builtin PySem.W.SL.s741896355592496720x3)⟩, ⟨PyData.keyHash P u49, (.str u49 49), (.builtin PySem.W.SL.s17925004256654032244x4)⟩, ⟨PyData.keyHash P u50, (.str u50 50), .none⟩, ⟨PyData.keyHash P u51, (.str u51 51), .ellipsis⟩, ⟨PyData.keyHash P u52, (.str u52 52), .notImplemented⟩, ⟨PyData.keyHash P u53, (.str u53 53), (.bool false)⟩, ⟨PyData.keyHash P u54, (.str u54 54), (.bool true)⟩, ⟨PyData.keyHash P u55, (.str u55 55), (.type PySem.W.SL.s11695548795398191787x4)⟩, ⟨PyData.keyHash P u56, (.str u56 56), (.type PySem.W.SL.s4156966113859768872x10)⟩, ⟨PyData.keyHash P u57, (.str u57 57), (.type PySem.W.SL.s9501651726347032510x9)⟩, ⟨PyData.keyHash P u58, (.str u58 58), (.type PySem.W.SL.s15722918466584999320x5)⟩, ⟨PyData.keyHash P u59, (.str u59 59), (.type PySem.W.SL.s591115383303110208x11)⟩, ⟨PyData.keyHash P u60, (.str u60 60), (.type PySem.W.SL.s15721156781594690315x7)⟩, ⟨PyData.keyHash P u61, (.str u61 61), (.type PySem.W.SL.s14018661285674007319x4)⟩, ⟨PyData.keyHash P u62, (.str u62 62), (.type PySem.W.SL.s14340494229221121180x9)⟩, ⟨PyData.keyHash P u63, (.str u63 63), (.type PySem.W.SL.s13429844117177748173x6)⟩, ⟨PyData.keyHash P u64, (.str u64 64), (.type PySem.W.SL.s16463266125957815391x5)⟩, ⟨PyData.keyHash P u65, (.str u65 65), (.type PySem.W.SL.s4922535414793169389x9)⟩, ⟨PyData.keyHash P u66, (.str u66 66), (.type PySem.W.SL.s8101838861749082086x8)⟩, ⟨PyData.keyHash P u67, (.str u67 67), (.type PySem.W.SL.s7066276694103001551x3)⟩, ⟨PyData.keyHash P u68, (.str u68 68), (.type PySem.W.SL.s9222952809800978799x4)⟩, ⟨PyData.keyHash P u69, (.str u69 69), (.type PySem.W.SL.s462964344163437139x3)⟩, ⟨PyData.keyHash P u70, (.str u70 70), (.type PySem.W.SL.s2742458400755230247x6)⟩, ⟨PyData.keyHash P u71, (.str u71 71), (.type PySem.W.SL.s1438033511350832697x5)⟩, ⟨PyData.keyHash P u72, (.str u72 72), (.type PySem.W.SL.s14365286008749172514x8)⟩, ⟨PyData.keyHash P u73, (.str u73 73), (.type PySem.W.SL.s3642769012341782148x3)⟩, ⟨PyData.keyHash P u74, (.str u74 74), (.type PySem.W.SL.s4674234679698826739x5)⟩, ⟨PyData.keyHash P u75, (.str u75 75), (.type PySem.W.SL.s16656946322747308186x12)⟩, ⟨PyData.keyHash P u76, (.str u76 76), (.type PySem.W.SL.s10796804682411823810x3)⟩, ⟨PyData.keyHash P u77, (.str u77 77), (.type PySem.W.SL.s4290257624100764138x5)⟩, ⟨PyData.keyHash P u78, (.str u78 78), (.type PySem.W.SL.s2766695959194262286x5)⟩, ⟨PyData.keyHash P u79, (.str u79 79), (.type PySem.W.SL.s17162191345867700912x4)⟩, ⟨PyData.keyHash P u80, (.str u80 80), (.type PySem.W.SL.s14339709457334898076x3)⟩, ⟨PyData.keyHash P u81, (.str u81 81), (.bool true)⟩, ⟨PyData.keyHash P u82, (.str u82 82), (.type PySem.W.SL.s4278001404047624695x13)⟩, ⟨PyData.keyHash P u83, (.str u83 83), (.type PySem.W.SL.s6585700554429387442x18)⟩, ⟨PyData.keyHash P u84, (.str u84 84), (.type PySem.W.SL.s5946037652744460706x9)⟩, ⟨PyData.keyHash P u85, (.str u85 85), (.type PySem.W.SL.s7410770068591931388x13)⟩, ⟨PyData.keyHash P u86, (.str u86 86), (.type PySem.W.SL.s11817881795495490833x17)⟩, ⟨PyData.keyHash P u87, (.str u87 87), (.type PySem.W.SL.s15679963881808890155x10)⟩, ⟨PyData.keyHash P u88, (.str u88 88), (.type PySem.W.SL.s3871700062485845797x15)⟩, ⟨PyData.keyHash P u89, (.str u89 89), (.type PySem.W.SL.s7689518266570723881x14)⟩, ⟨PyData.keyHash P u90, (.str u90 90), (.type PySem.W.SL.s9001593270443806431x14)⟩, ⟨PyData.keyHash P u91, (.str u91 91), (.type PySem.W.SL.s6882542574934516792x11)⟩, ⟨PyData.keyHash P u92, (.str u92 92), (.type PySem.W.SL.s14403400214490484960x8)⟩, ⟨PyData.keyHash P u93, (.str u93 93), (.type PySem.W.SL.s14457978657717015782x11)⟩, ⟨PyData.keyHash P u94, (.str u94 94), (.type PySem.W.SL.s1753610191782819921x11)⟩, ⟨PyData.keyHash P u95, (.str u95 95), (.type PySem.W.SL.s14119380538032626715x11)⟩, ⟨PyData.keyHash P u96, (.str u96 96), (.type PySem.W.SL.s11437920000406562045x9)⟩, ⟨PyData.keyHash P u97, (.str u97 97), (.type PySem.W.SL.s10852414792293593619x7)⟩, ⟨PyData.keyHash P u98, (.str u98 98), (.type PySem.W.SL.s14816307405966870543x14)⟩, ⟨PyData.keyHash P u99, (.str u99 99), (.type PySem.W.SL.s8682627914449686677x12)⟩, ⟨PyData.keyHash P u100, (.str u100 100), (.type PySem.W.SL.s4428170145600203450x18)⟩, ⟨PyData.keyHash P u101, (.str u101 101), (.type PySem.W.SL.s5991306692159431302x13)⟩, ⟨PyData.keyHash P u102, (.str u102 102), (.type PySem.W.SL.s16067994140765818257x11)⟩, ⟨PyData.keyHash P u103, (.str u103 103), (.type PySem.W.SL.s2327743974964600596x11)⟩, ⟨PyData.keyHash P u104, (.str u104 104), (.type PySem.W.SL.s2804747833354056582x9)⟩, ⟨PyData.keyHash P u105, (.str u105 105), (.type PySem.W.SL.s6070975301684473832x10)⟩, ⟨PyData.keyHash P u106, (.str u106 106), (.type PySem.W.SL.s14270485950484850486x7)⟩, ⟨PyData.keyHash P u107, (.str u107 107), (.type PySem.W.SL.s12041534306414923332x18)⟩, ⟨PyData.keyHash P u108, (.str u108 108), (.type PySem.W.SL.s2531307568338490285x13)⟩, ⟨PyData.keyHash P u109, (.str u109 109), (.type PySem.W.SL.s631175304937289666x17)⟩, ⟨PyData.keyHash P u110, (.str u110 110), (.type PySem.W.SL.s5144983644357021410x12)⟩, ⟨PyData.keyHash P u111, (.str u111 111), (.type PySem.W.SL.s18039099521571816885x18)⟩, ⟨PyData.keyHash P u112, (.str u112 112), (.type PySem.W.SL.s6011586214260557989x15)⟩, ⟨PyData.keyHash P u113, (.str u113 113), (.type PySem.W.SL.s5430567037509283100x13)⟩, ⟨PyData.keyHash P u114, (.str u114 114), (.type PySem.W.SL.s8117915138073963741x13)⟩, ⟨PyData.keyHash P u115, (.str u115 115), (.type PySem.W.SL.s3423317712779056401x25)⟩, ⟨PyData.keyHash P u116, (.str u116 116), (.type PySem.W.SL.s2007317383269046180x15)⟩, ⟨PyData.keyHash P u117, (.str u117 117), (.type PySem.W.SL.s17481586968713580700x14)⟩, ⟨PyData.keyHash P u118, (.str u118 118), (.type PySem.W.SL.s2450899226349176912x13)⟩, ⟨PyData.keyHash P u119, (.str u119 119), (.type PySem.W.SL.s16626165730633575011x14)⟩, ⟨PyData.keyHash P u120, (.str u120 120), (.type PySem.W.SL.s14288496050688921416x11)⟩, ⟨PyData.keyHash P u121, (.str u121 121), (.type PySem.W.SL.s5735081916595925998x15)⟩, ⟨PyData.keyHash P u122, (.str u122 122), (.type PySem.W.SL.s3865607918536308442x17)⟩, ⟨PyData.keyHash P u123, (.str u123 123), (.type PySem.W.SL.s13337502604062700212x15)⟩, ⟨PyData.keyHash P u124, (.str u124 124), (.type PySem.W.SL.s13114017843053701147x15)⟩, ⟨PyData.keyHash P u125, (.str u125 125), (.type PySem.W.SL.s17467278006356818441x17)⟩, ⟨PyData.keyHash P u126, (.str u126 126), (.type PySem.W.SL.s17722149559621369488x16)⟩, ⟨PyData.keyHash P u127, (.str u127 127), (.type PySem.W.SL.s7855274175708717672x17)⟩, ⟨PyData.keyHash P u128, (.str u128 128), (.type PySem.W.SL.s13351283678309829046x18)⟩, ⟨PyData.keyHash P u129, (.str u129 129), (.type PySem.W.SL.s6668348653404991179x15)⟩, ⟨PyData.keyHash P u130, (.str u130 130), (.type PySem.W.SL.s12913350958174193794x18)⟩, ⟨PyData.keyHash P u131, (.str u131 131), (.type PySem.W.SL.s16115879512475548326x12)⟩, ⟨PyData.keyHash P u132, (.str u132 132), (.type PySem.W.SL.s15920661018069861047x16)⟩, ⟨PyData.keyHash P u133, (.str u133 133), (.type PySem.W.SL.s10779130036587390575x21)⟩, ⟨PyData.keyHash P u134, (.str u134 134), (.type PySem.W.SL.s7801419657504700863x10)⟩, ⟨PyData.keyHash P u135, (.str u135 135), (.type PySem.W.SL.s1688129525768580628x8)⟩, ⟨PyData.keyHash P u136, (.str u136 136), (.type PySem.W.SL.s1031832959479892071x19)⟩, ⟨PyData.keyHash P u137, (.str u137 137), (.type PySem.W.SL.s8991790508128307865x19)⟩, ⟨PyData.keyHash P u138, (.str u138 138), (.type PySem.W.SL.s14539662485746970245x23)⟩, ⟨PyData.keyHash P u139, (.str u139 139), (.type PySem.W.SL.s11643622729373238714x14)⟩, ⟨PyData.keyHash P u140, (.str u140 140), (.type PySem.W.SL.s3386828779285465597x17)⟩, ⟨PyData.keyHash P u141, (.str u141 141), (.type PySem.W.SL.s13042696260734638735x12)⟩, ⟨PyData.keyHash P u142, (.str u142 142), (.type PySem.W.SL.s18239426817015966623x15)⟩, ⟨PyData.keyHash P u143, (.str u143 143), (.type PySem.W.SL.s1270395311379034370x22)⟩, ⟨PyData.keyHash P u144, (.str u144 144), (.type PySem.W.SL.s10696252587037064777x22)⟩, ⟨PyData.keyHash P u145, (.str u145 145), (.type PySem.W.SL.s7852717498200857586x20)⟩, ⟨PyData.keyHash P u146, (.str u146 146), (.type PySem.W.SL.s6377248116197321094x8)⟩, ⟨PyData.keyHash P u147, (.str u147 147), (.type PySem.W.SL.s3834378056692298002x18)⟩, ⟨PyData.keyHash P u148, (.str u148 148), (.type PySem.W.SL.s17586630440231065808x18)⟩, ⟨PyData.keyHash P u149, (.str u149 149), (.type PySem.W.SL.s15234114252648025395x21)⟩, ⟨PyData.keyHash P u150, (.str u150 150), (.type PySem.W.SL.s8496462677383758984x14)⟩, ⟨PyData.keyHash P u151, (.str u151 151), (.type PySem.W.SL.s10852414792293593619x7)⟩, ⟨PyData.keyHash P u152, (.str u152 152), (.type PySem.W.SL.s10852414792293593619x7)⟩, ⟨PyData.keyHash P u153, (.str u153 153), (.builtin PySem.W.SL.s16789243406116112673x4)⟩, ⟨PyData.keyHash P u154, (.str u154 154), (.builtin PySem.W.SL.s14400166428656793546x20)⟩, ⟨PyData.keyHash P u155, (.str u155 155), (.builtin PySem.W.SL.s5857708277339239366x20)⟩, ⟨PyData.keyHash P u156, (.str u156 156), (.builtin "builtins.copyright#opaque")⟩, ⟨PyData.keyHash P u157, (.str u157 157), (.builtin "builtins.credits#opaque")⟩, ⟨PyData.keyHash P u158, (.str u158 158), (.builtin "builtins.license#opaque")⟩, ⟨PyData.keyHash P u159, (.str u159 159), (.builtin PySem.W.SL.s7804999707787243718x20)⟩] 159), #[]⟩ (BT.node ⟨(.type PySem.W.SL.s14018661285674007319x4), none, (.dict #[⟨PyData.keyHash P u1, (.str u1 162), (.ref 4)⟩, ⟨PyData.keyHash P u160, (.str u160 163), (.ref 5)⟩] 2), #[]⟩ (BT.node ⟨(.type PySem.W.SL.s14018661285674007319x4), none, (.dict #[⟨PyData.keyHash P u0, (.str u0 165), (.str u169 773)⟩, ⟨PyData.keyHash P u2, (.str u2 166), .none⟩, ⟨PyData.keyHash P u3, (.str u3 167), .none⟩, ⟨PyData.keyHash P u4, (.str u4 168), (.builtin PySem.W.SL.s7097527257260152453x26)⟩, ⟨PyData.keyHash P u5, (.str u5 169), .none⟩, ⟨PyData.keyHash P u161, (.str u161 170), (.ref 6)⟩, ⟨PyData.keyHash P u162, (.str u162 171), (.ref 4)⟩, ⟨PyData.keyHash P u163, (.str u163 173), (.str u164 172)⟩, ⟨PyData.keyHash P u165, (.str u165 174), .none⟩, ⟨PyData.keyHash P u170, (.str u170 196), (.ref 21)⟩, ⟨PyData.keyHash P u171, (.str u171 213), (.ref 28)⟩, ⟨PyData.keyHash P u172, (.str u172 244), (.ref 45)⟩, ⟨PyData.keyHash P u173, (.str u173 260), (.ref 58)⟩, ⟨PyData.keyHash P u174, (.str u174 276), (.ref 70)⟩, ⟨PyData.keyHash P u175, (.str u175 287), (.ref 79)⟩, ⟨PyData.keyHash P u176, (.str u176 341), (.ref 110)⟩, ⟨PyData.keyHash P u177, (.str u177 393), (.ref 148)⟩, ⟨PyData.keyHash P u178, (.str u178 401), (.ref 159)⟩, ⟨PyData.keyHash P u179, (.str u179 408), (.ref 166)⟩, ⟨PyData.keyHash P u180, (.str u180 414), (.ref 171)⟩, ⟨PyData.keyHash P u181, (.str u181 420), (.ref 176)⟩, ⟨PyData.keyHash P u182, (.str u182 428), (.ref 181)⟩, ⟨PyData.keyHash P u183, (.str u183 432), (.int 13 431)⟩, ⟨PyData.keyHash P u184, (.str u184 434), (.int 2 433)⟩, ⟨PyData.keyHash P u185, (.str u185 436), (.int 4433 435)⟩, ⟨PyData.keyHash P u186, (.str u186 438), (.int 6270 437)⟩, ⟨PyData.keyHash P u187, (.str u187 440), (.int 15137 439)⟩, ⟨PyData.keyHash P u188, (.str u188 448), (.ref 188)⟩, ⟨PyData.keyHash P u189, (.str u189 461), (.ref 195)⟩, ⟨PyData.keyHash P u190, (.str u190 476), (.ref 202)⟩, ⟨PyData.keyHash P u191, (.str u191 486), (.ref 209)⟩, ⟨PyData.keyHash P u192, (.str u192 490), (.int 8 489)⟩, ⟨PyData.keyHash P u193, (.str u193 492), (.int 3 491)⟩, ⟨PyData.keyHash P u194, (.str u194 494), (.int 2446 493)⟩, ⟨PyData.keyHash P u195, (.str u195 496), (.int 3196 495)⟩, ⟨PyData.keyHash P u196, (.str u196 498), (.int 7373 497)⟩, ⟨PyData.keyHash P u197, (.str u197 500), (.int 9633 499)⟩, ⟨PyData.keyHash P u198, (.str u198 502), (.int 12299 501)⟩, ⟨PyData.keyHash P u199, (.str u199 504), (.int 16069 503)⟩, ⟨PyData.keyHash P u200, (.str u200 506), (.int 16819 505)⟩, ⟨PyData.keyHash P u201, (.str u201 508), (.int 20995 507)⟩, ⟨PyData.keyHash P u202, (.str u202 510), (.int 25172 509)⟩, ⟨PyData.keyHash P u203, (.str u203 525), (.ref 216)⟩, ⟨PyData.keyHash P u204, (.str u204 531), (.ref 221)⟩, ⟨PyData.keyHash P u205, (.str u205 537), (.ref 226)⟩, ⟨PyData.keyHash P u206, (.str u206 579), (.ref 250)⟩, ⟨PyData.keyHash P u207, (.str u207 583), (.int 4 582)⟩, ⟨PyData.keyHash P u208, (.str u208 624), (.ref 276)⟩, ⟨PyData.keyHash P u209, (.str u209 668), (.ref 307)⟩, ⟨PyData.keyHash P u210, (.str u210 704), (.ref 335)⟩, ⟨PyData.keyHash P u211, (.str u211 713), (.ref 346)⟩, ⟨PyData.keyHash P u212, (.str u212 721), (.ref 353)⟩, ⟨PyData.keyHash P u213, (.str u213 735), (.ref 360)⟩, ⟨PyData.keyHash P u214, (.str u214 741), (.ref 365)⟩, ⟨PyData.keyHash P u215, (.str u215 747), (.ref 370)⟩, ⟨PyData.keyHash P u216, (.str u216 757), (.ref 377)⟩, ⟨PyData.keyHash P u217, (.str u217 772), (.ref 384)⟩, ⟨PyData.keyHash P u218, (.str u218 787), (.ref 391)⟩] 58), #[]⟩ (BT.node ⟨(.type PySem.W.SL.s2766695959194262286x5), none, (.seq #[] 0), #[]⟩ (BT.node ⟨(.type PySem.W.SL.s2766695959194262286x5), none, (.seq #[] 0), #[]⟩ (BT.node ⟨(.type PySem.W.SL.s14018661285674007319x4), none, (.dict #[⟨PyData.keyHash P u232, (.str u232 223), (.str u233 214)⟩, ⟨PyData.keyHash P u234, (.str u234 225), (.str u172 224)⟩, ⟨PyData.keyHash P u235, (.str u235 227), (.int 11 226)⟩, ⟨PyData.keyHash P u236, (.str u236 235), (.ref 42)⟩, ⟨PyData.keyHash P u237, (.str u237 237), (.ref 43)⟩] 5), #[]⟩ (BT.node ⟨(.type PySem.W.SL.s14018661285674007319x4), none, (.dict #[⟨PyData.keyHash P u232, (.str u232 268), (.str u233 214)⟩, ⟨PyData.keyHash P u234, (.str u234 270), (.str u174 269)⟩, ⟨PyData.keyHash P u235, (.str u235 272), (.int 18 271)⟩, ⟨PyData.keyHash P u237, (.str u237 273), (.ref 68)⟩] 4), #[]⟩ (BT.node ⟨(.type PySem.W.SL.s5856160107412720595x4), none, (.fields #[(.str u236 354), (.str u259 355), (.str u164 356), (.int 42 0), (.int 4 0), (.int 0 0), (.int 0 0), (.int 3 0), (.ref 122), (.bool true), (.int 181 0), (.ref 123), .none, (.ref 124), (.ref 125), (.ref 126), (.int 361 0), (.int 42 0), (.str u164 362)]), #[]⟩ (BT.node ⟨(.type PySem.W.SL.s2766695959194262286x5), none, (.seq #[] 0), #[]⟩ BT.nil BT.nil) (BT.node ⟨(.type PySem.W.SL.s5856160107412720595x4), none, (.fields #[(.str u217 758), (.str u217 759), (.str u164 760), (.int 242 0), (.int 4 0), (.int 0 0), (.int 0 0), (.int 3 0), (.ref 378), (.bool true), (.int 181 0), (.ref 379), .none, (.ref 380), (.ref 381), (.ref 382), (.int 770 0), (.int 242 0), (.str u164 771)]), #[]⟩ BT.nil BT.nil)) (BT.node ⟨(.type PySem.W.SL.s2766695959194262286x5), none, (.seq #[(.str u267 452), (.str u268 453), (.str u269 454), (.str u270 455), (.str u271 456), (.str u272 457), (.str u273 458)] 0), #[]⟩ (BT.node ⟨(.type PySem.W.SL.s2766695959194262286x5), none, (.seq #[] 0), #[]⟩ BT.nil BT.nil) BT.nil)) (BT.node ⟨.none, none, (.fields #[]), #[]⟩ (BT.node ⟨(.type PySem.W.SL.s7174869446012820540x8), none, (.func { name := u178, qualname := u178, params := fP (fnAt p 12), body := .stmts (fB (fnAt p 12)), scope := fS (fnAt p 12), globals := 3, closure := [], defaults := .none, kwdefaults := .none, doc := .none, pyModule := (.str u245 288), annotations := none, code := (.ref 158), closureTuple := .none, builtins := 0 }), #[]⟩ (BT.node ⟨(.type PySem.W.SL.s658472552662922059x5), none, .plain, #[(some (.ref 286)), (some (.ref 3)), (some (.ref 283)), none, (some (.str u289 580)), none, (some (.ref 0))]⟩ BT.nil BT.nil) BT.nil) (BT.node ⟨.none, none, (.fields #[]), #[]⟩ (BT.node ⟨.none, none, (.func { name := u212, qualname := u212, params := fP (fnAt p 51), body := .stmts (fB (fnAt p 51)), scope := fS (fnAt p 51), globals := 0, closure := [], defaults := .none, kwdefaults := .none, doc := .none, pyModule := .none, annotations := none, code := .none, closureTuple := .none, builtins := 0 }), #[]⟩ BT.nil BT.nil) BT.nil))) (BT.node ⟨(.type PySem.W.SL.s4290257624100764138x5), none, (.fields #[(.ref 45), (.ref 45), (.ref 45)]), #[]⟩ (BT.node ⟨(.type PySem.W.SL.s7174869446012820540x8), none, (.func { name := u175, qualname := u175, params := fP (fnAt p 8), body := .stmts (fB (fnAt p 8)), scope := fS (fnAt p 8), globals := 3, closure := [], defaults := .none, kwdefaults := .none, doc := .none, pyModule := (.str u244 277), annotations := none, code := (.ref 78), closureTuple := .none, builtins := 0 }), #[]⟩ (BT.node ⟨.none, none, (.func { name := u220, qualname := u262, params := fP (inCls p 11 3), body := .stmts (fB (inCls p 11 3)), scope := fS (inCls p 11 3), globals := 0, closure := [], defaults := .none, kwdefaults := .none, doc := .none, pyModule := .none, annotations := none, code := .none, closureTuple := .none, builtins := 0 }), #[]⟩ (BT.node ⟨.none, none, (.func { name := u212, qualname := u295, params := fP (inCls p 46 1), body := .stmts (fB (inCls p 46 1)), scope := fS (inCls p 46 1), globals := 0, closure := [], defaults := .none, kwdefaults := .none, doc := .none, pyModule := .none, annotations := none, code := .none, closureTuple := .none, builtins := 0 }), #[]⟩ BT.nil BT.nil) BT.nil) (BT.node ⟨.none, none, (.func { name := u191, qualname := u191, params := fP (fnAt p 27), body := .stmts (fB (fnAt p 27)), scope := fS (fnAt p 27), globals := 0, closure := [], defaults := .none, kwdefaults := .none, doc := .none, pyModule := .none, annotations := none, code := .none, closureTuple := .none, builtins := 0 }), #[]⟩ (BT.node ⟨(.type PySem.W.SL.s17162191345867700912x4), none, (.cls { name := u210, bases := [(.type PySem.W.SL.s2742458400755230247x6)], mro := [(.ref 335), (.type PySem.W.SL.s2742458400755230247x6)], ns := 334, qualname := u210, hasDict := true, slotNames := [], subclasses := [], abstract := false, collection := none, hasDel := false }), #[none, none, (some (.str u210 669)), (some (.str u210 677)), (some (.builtin PySem.W.SL.s11443829558043349243x14)), (some (.bool true))]⟩ BT.nil BT.nil) BT.nil)) (BT.node ⟨(.type PySem.W.SL.s14755015743595814543x17), none, (.fields #[(.str u255 335), (.ref 110), (.builtin PySem.W.SL.s6511155373996960695x17), (.builtin PySem.W.SL.s12411053484034534018x21)]), #[]⟩ (BT.node ⟨(.type PySem.W.SL.s5856160107412720595x4), none, (.fields #[(.str u181 415), (.str u181 416), (.str u164 417), (.int 63 0), (.int 5 0), (.int 0 0), (.int 0 0), (.int 3 0), (.ref 172), (.bool true), (.int 181 0), (.ref 173), .none, .none, .none, (.ref 174), (.int 418 0), (.int 63 0), (.str u164 419)]), #[]⟩ (BT.node ⟨(.type PySem.W.SL.s5856160107412720595x4), none, (.fields #[(.str u296 649), (.str u299 650), (.str u164 651), (.int 186 0), (.int 2 0), (.int 0 0), (.int 0 0), (.int 3 0), (.ref 298), (.bool true), (.int 181 0), (.ref 299), .none, (.ref 300), (.ref 301), (.ref 302), (.int 658 0), (.int 186 0), (.str u164 659)]), #[]⟩ BT.nil BT.nil) BT.nil) (BT.node ⟨(.type PySem.W.SL.s5856160107412720595x4), none, (.fields #[(.str u285 550), (.str u287 551), (.str u164 552), (.int 128 0), (.int 2 0), (.int 0 0), (.int 0 0), (.int 3 0), (.ref 234), (.bool true), (.int 181 0), (.ref 235), .none, (.ref 236), (.ref 237), (.ref 238), (.int 558 0), (.int 128 0), (.str u164 559)]), #[]⟩ (BT.node ⟨.none, none, (.fields #[]), #[]⟩ BT.nil BT.nil) BT.nil)))) (BT.node ⟨.none, none, (.fields #[]), #[]⟩ (BT.node ⟨(.type PySem.W.SL.s2766695959194262286x5), none, (.seq #[] 0), #[]⟩ (BT.node ⟨(.type PySem.W.SL.s4290257624100764138x5), none, (.fields #[(.ref 70), (.ref 70), (.ref 70)]), #[]⟩ (BT.node ⟨.none, none, (.fields #[]), #[]⟩ (BT.node ⟨.none, none, (.fields #[]), #[]⟩ BT.nil BT.nil) (BT.node ⟨(.type PySem.W.SL.s7174869446012820540x8), none, (.func { name := u218, qualname := u218, params := fP (fnAt p 59), body := .stmts (fB (fnAt p 59)), scope := fS (fnAt p 59), globals := 3, closure := [], defaults := .none, kwdefaults := .none, doc := .none, pyModule := (.str u169 773), annotations := none, code := (.ref 390), closureTuple := .none, builtins := 0 }), #[]⟩ BT.nil BT.nil)) (BT.node ⟨(.type PySem.W.SL.s2766695959194262286x5), none, (.seq #[] 0), #[]⟩ (BT.node ⟨.none, none, (.fields #[]), #[]⟩ BT.nil BT.nil) BT.nil)) (BT.node ⟨(.type PySem.W.SL.s2766695959194262286x5), none, (.seq #[(.str u238 324), (.str u223 325), (.str u224 326), (.str u253 327)] 0), #[]⟩ (BT.node ⟨(.type PySem.W.SL.s2766695959194262286x5), none, (.seq #[] 0), #[]⟩ (BT.node ⟨.none, none, (.func { name := u212, qualname := u298, params := fP (inCls p 47 1), body := .stmts (fB (inCls p 47 1)), scope := fS (inCls p 47 1), globals := 0, closure := [], defaults := .none, kwdefaults := .none, doc := .none, pyModule := .none, annotations := none, code := .none, closureTuple := .none, builtins := 0 }), #[]⟩ BT.nil BT.nil) BT.nil) (BT.node ⟨.none, none, (.fields #[(.int 128 0), (.int 4 0), (.ref 239), (.int 138 0), (.int 4 0), (.ref 246)]), #[]⟩ (BT.node ⟨(.type PySem.W.SL.s5856160107412720595x4), none, (.fields #[(.str u213 724), (.str u213 725), (.str u164 726), (.int 210 0), (.int 6 0), (.int 0 0), (.int 0 0), (.int 3 0), (.ref 354), (.bool true), (.int 181 0), (.ref 355), .none, (.ref 356), (.ref 357), (.ref 358), (.int 733 0), (.int 210 0), (.str u164 734)]), #[]⟩ BT.nil BT.nil) BT.nil))) (BT.node ⟨(.type PySem.W.SL.s658472552662922059x5), none, .plain, #[(some (.ref 54)), (some (.ref 3)), (some (.ref 51)), none, (some (.str u233 214)), none, (some (.ref 0))]⟩ (BT.node ⟨(.type PySem.W.SL.s2766695959194262286x5), none, (.seq #[] 0), #[]⟩ (BT.node ⟨(.type PySem.W.SL.s4290257624100764138x5), none, (.fields #[(.ref 148), (.ref 148), (.ref 148)]), #[]⟩ (BT.node ⟨(.type PySem.W.SL.s4290257624100764138x5), none, (.fields #[(.ref 276), (.ref 276), (.ref 276)]), #[]⟩ BT.nil BT.nil) BT.nil) (BT.node ⟨(.type PySem.W.SL.s5856160107412720595x4), none, (.fields #[(.str u203 511), (.str u203 512), (.str u164 513), (.int 105 0), (.int 4 0), (.int 0 0), (.int 0 0), (.int 3 0), (.ref 210), (.bool true), (.int 181 0), (.ref 211), .none, (.ref 212), (.ref 213), (.ref 214), (.int 523 0), (.int 105 0), (.str u164 524)]), #[]⟩ (BT.node ⟨(.type PySem.W.SL.s2766695959194262286x5), none, (.seq #[] 0), #[]⟩ BT.nil BT.nil) BT.nil)) (BT.node ⟨.none, none, (.fields #[(.int 42 0), (.int 4 0), (.ref 127), (.int 47 0), (.int 4 0), (.ref 132), (.int 50 0), (.int 4 0), (.ref 137), (.int 53 0), (.int 4 0), (.ref 144)]), #[]⟩ (BT.node ⟨.none, none, (.fields #[]), #[]⟩ (BT.node ⟨(.type PySem.W.SL.s11030030927630378310x26), none, (.fields #[(.builtin PySem.W.SL.s4860613602091757760x24), (.ref 307)]), #[]⟩ BT.nil BT.nil) BT.nil) (BT.node ⟨(.type PySem.W.SL.s7174869446012820540x8), none, (.func { name := u212, qualname := u288, params := fP (inCls p 43 1), body := .stmts (fB (inCls p 43 1)), scope := fS (inCls p 43 1), globals := 3, closure := [], defaults := .none, kwdefaults := .none, doc := .none, pyModule := (.str u284 487), annotations := none, code := (.ref 246), closureTuple := .none, builtins := 0 }), #[]⟩ (BT.node ⟨.none, none, (.func { name := u216, qualname := u216, params := fP (fnAt p 56), body := .stmts (fB (fnAt p 56)), scope := fS (fnAt p 56), globals := 0, closure := [], defaults := .none, kwdefaults := .none, doc := .none, pyModule := .none, annotations := none, code := .none, closureTuple := .none, builtins := 0 }), #[]⟩ BT.nil BT.nil) BT.nil))))) (BT.node ⟨(.type PySem.W.SL.s2766695959194262286x5), none, (.seq #[] 0), #[]⟩ (BT.node ⟨.none, none, (.func { name := u170, qualname := u170, params := fP (fnAt p 1), body := .stmts (fB (fnAt p 1)), scope := fS (fnAt p 1), globals := 0, closure := [], defaults := .none, kwdefaults := .none, doc := .none, pyModule := .none, annotations := none, code := .none, closureTuple := .none, builtins := 0 }), #[]⟩ (BT.node ⟨(.type PySem.W.SL.s658472552662922059x5), none, .plain, #[(some (.ref 34)), (some (.ref 3)), (some (.ref 31)), none, (some (.str u233 214)), none, (some (.ref 0))]⟩ (BT.node ⟨(.type PySem.W.SL.s658472552662922059x5), none, .plain, #[(some (.ref 66)), (some (.ref 3)), (some (.ref 63)), none, (some (.str u233 214)), none, (some (.ref 0))]⟩ (BT.node ⟨.none, none, (.func { name := u248, qualname := u260, params := fP (inCls p 11 1), body := .stmts (fB (inCls p 11 1)), scope := fS (inCls p 11 1), globals := 0, closure := [], defaults := .none, kwdefaults := .none, doc := .none, pyModule := .none, annotations := none, code := .none, closureTuple := .none, builtins := 0 }), #[]⟩ (BT.node ⟨.none, none, (.fields #[(.int 152 0), (.int 4 0), (.ref 267), (.int 166 0), (.int 4 0), (.ref 272)]), #[]⟩ BT.nil BT.nil) (BT.node ⟨(.type PySem.W.SL.s2766695959194262286x5), none, (.seq #[(.str u226 778), (.str u280 779), (.str u313 780), (.str u279 781), (.str u314 782), (.str u250 783), (.str u224 784)] 0), #[]⟩ BT.nil BT.nil)) (BT.node ⟨(.type PySem.W.SL.s7174869446012820540x8), none, (.func { name := u189, qualname := u189, params := fP (fnAt p 25), body := .stmts (fB (fnAt p 25)), scope := fS (fnAt p 25), globals := 3, closure := [], defaults := .none, kwdefaults := .none, doc := .none, pyModule := (.str u266 429), annotations := none, code := (.ref 194), closureTuple := .none, builtins := 0 }), #[]⟩ (BT.node ⟨.none, none, (.func { name := u285, qualname := u300, params := fP (inCls p 48 0), body := .stmts (fB (inCls p 48 0)), scope := fS (inCls p 48 0), globals := 0, closure := [], defaults := .none, kwdefaults := .none, doc := .none, pyModule := .none, annotations := none, code := .none, closureTuple := .none, builtins := 0 }), #[]⟩ BT.nil BT.nil) BT.nil)) (BT.node ⟨(.type PySem.W.SL.s5856160107412720595x4), none, (.fields #[(.str u246 312), (.str u252 313), (.str u164 314), (.int 34 0), (.int 3 0), (.int 0 0), (.int 0 0), (.int 3 0), (.ref 94), (.bool true), (.int 181 0), (.ref 95), .none, (.ref 96), (.ref 97), (.ref 98), (.int 318 0), (.int 34 0), (.str u164 319)]), #[]⟩ (BT.node ⟨(.type PySem.W.SL.s2766695959194262286x5), none, (.seq #[] 0), #[]⟩ (BT.node ⟨(.type PySem.W.SL.s5856160107412720595x4), none, (.fields #[(.str u285 637), (.str u297 638), (.str u164 639), (.int 180 0), (.int 2 0), (.int 0 0), (.int 0 0), (.int 3 0), (.ref 288), (.bool true), (.int 181 0), (.ref 289), .none, .none, .none, (.ref 290), (.int 640 0), (.int 180 0), (.str u164 641)]), #[]⟩ BT.nil BT.nil) BT.nil) (BT.node ⟨(.type PySem.W.SL.s2766695959194262286x5), none, (.seq #[] 0), #[]⟩ (BT.node ⟨.none, none, (.fields #[]), #[]⟩ BT.nil BT.nil) BT.nil))) (BT.node ⟨(.type PySem.W.SL.s14018661285674007319x4), none, (.dict #[⟨PyData.keyHash P u232, (.str u232 252), (.str u233 214)⟩, ⟨PyData.keyHash P u234, (.str u234 254), (.str u173 253)⟩, ⟨PyData.keyHash P u235, (.str u235 256), (.int 16 255)⟩, ⟨PyData.keyHash P u237, (.str u237 257), (.ref 56)⟩] 4), #[]⟩ (BT.node ⟨(.type PySem.W.SL.s2766695959194262286x5), none, (.seq #[] 0), #[]⟩ (BT.node ⟨(.type PySem.W.SL.s14018661285674007319x4), none, (.dict #[⟨PyData.keyHash P u232, (.str u232 349), (.str u245 288)⟩, ⟨PyData.keyHash P u235, (.str u235 353), (.int 40 352)⟩, ⟨PyData.keyHash P u236, (.str u236 363), (.ref 128)⟩, ⟨PyData.keyHash P u248, (.str u248 369), (.ref 133)⟩, ⟨PyData.keyHash P u249, (.str u249 375), (.ref 138)⟩, ⟨PyData.keyHash P u220, (.str u220 382), (.ref 145)⟩, ⟨PyData.keyHash P u237, (.str u237 386), (.ref 146)⟩, ⟨PyData.keyHash P u255, (.str u255 388), (.ref 149)⟩, ⟨PyData.keyHash P u241, (.str u241 390), (.ref 150)⟩, ⟨PyData.keyHash P u2, (.str u2 391), .none⟩] 4), #[]⟩ (BT.node ⟨(.type PySem.W.SL.s14018661285674007319x4), none, (.dict #[⟨PyData.keyHash P u232, (.str u232 591), (.str u289 580)⟩, ⟨PyData.keyHash P u235, (.str u235 595), (.int 150 594)⟩, ⟨PyData.keyHash P u285, (.str u285 610), (.ref 268)⟩, ⟨PyData.keyHash P u212, (.str u212 616), (.ref 273)⟩, ⟨PyData.keyHash P u237, (.str u237 617), (.ref 274)⟩, ⟨PyData.keyHash P u255, (.str u255 619), (.ref 277)⟩, ⟨PyData.keyHash P u241, (.str u241 621), (.ref 278)⟩, ⟨PyData.keyHash P u2, (.str u2 622), .none⟩] 4), #[]⟩ BT.nil BT.nil) BT.nil) (BT.node ⟨.none, none, (.fields #[]), #[]⟩ (BT.node ⟨(.type PySem.W.SL.s11030030927630378310x26), none, (.fields #[(.builtin PySem.W.SL.s4860613602091757760x24), (.ref 335)]), #[]⟩ BT.nil BT.nil) BT.nil)) (BT.node ⟨(.type PySem.W.SL.s2766695959194262286x5), none, (.seq #[] 0), #[]⟩ (BT.node ⟨.none, none, (.func { name := u182, qualname := u182, params := fP (fnAt p 17), body := .stmts (fB (fnAt p 17)), scope := fS (fnAt p 17), globals := 0, closure := [], defaults := .none, kwdefaults := .none, doc := .none, pyModule := .none, annotations := none, code := .none, closureTuple := .none, builtins := 0 }), #[]⟩ (BT.node ⟨(.type PySem.W.SL.s17162191345867700912x4), none, (.cls { name := u209, bases := [(.type PySem.W.SL.s2742458400755230247x6)], mro := [(.ref 307), (.type PySem.W.SL.s2742458400755230247x6)], ns := 306, qualname := u209, hasDict := true, slotNames := [], subclasses := [], abstract := false, collection := none, hasDel := false }), #[none, none, (some (.str u209 625)), (some (.str u209 633)), (some (.builtin PySem.W.SL.s11443829558043349243x14)), (some (.bool true))]⟩ BT.nil BT.nil) BT.nil) (BT.node ⟨(.type PySem.W.SL.s2766695959194262286x5), none, (.seq #[(.str u238 564), (.str u225 565), (.str u286 566), (.str u280 567), (.str u246 568)] 0), #[]⟩ (BT.node ⟨(.type PySem.W.SL.s2766695959194262286x5), none, (.seq #[] 0), #[]⟩ BT.nil BT.nil) BT.nil)))) (BT.node ⟨(.type PySem.W.SL.s5856160107412720595x4), none, (.fields #[(.str u171 197), (.str u171 198), (.str u164 199), (.int 4 0), (.int 7 0), (.int 0 0), (.int 0 0), (.int 3 0), (.ref 22), (.bool true), (.int 181 0), (.ref 23), .none, (.ref 24), (.ref 25), (.ref 26), (.int 211 0), (.int 4 0), (.str u164 212)]), #[]⟩ (BT.node ⟨(.type PySem.W.SL.s2766695959194262286x5), none, (.seq #[(.str u239 236)] 0), #[]⟩ (BT.node ⟨(.type PySem.W.SL.s2766695959194262286x5), none, (.seq #[(.str u242 282), (.str u231 283), (.str u243 284)] 0), #[]⟩ (BT.node ⟨(.type PySem.W.SL.s2766695959194262286x5), none, (.seq #[] 0), #[]⟩ (BT.node ⟨(.type PySem.W.SL.s5856160107412720595x4), none, (.fields #[(.str u285 596), (.str u294 597), (.str u164 598), (.int 152 0), (.int 2 0), (.int 0 0), (.int 0 0), (.int 3 0), (.ref 262), (.bool true), (.int 181 0), (.ref 263), .none, (.ref 264), (.ref 265), (.ref 266), (.int 608 0), (.int 152 0), (.str u164 609)]), #[]⟩ BT.nil BT.nil) BT.nil) (BT.node ⟨(.type PySem.W.SL.s2766695959194262286x5), none, (.seq #[] 0), #[]⟩ (BT.node ⟨(.type PySem.W.SL.s5856160107412720595x4), none, (.fields #[(.str u212 689), (.str u301 690), (.str u164 691), (.int 194 0), (.int 2 0), (.int 0 0), (.int 0 0), (.int 3 0), (.ref 326), (.bool true), (.int 181 0), (.ref 327), .none, (.ref 328), (.ref 329), (.ref 330), (.int 694 0), (.int 194 0), (.str u164 695)]), #[]⟩ BT.nil BT.nil) BT.nil)) (BT.node ⟨(.type PySem.W.SL.s7174869446012820540x8), none, (.func { name := u247, qualname := u254, params := fP (inCls p 10 2), body := .stmts (fB (inCls p 10 2)), scope := fS (inCls p 10 2), globals := 3, closure := [], defaults := .none, kwdefaults := .none, doc := .none, pyModule := (.str u245 288), annotations := none, code := (.ref 106), closureTuple := .none, builtins := 0 }), #[]⟩ (BT.node ⟨(.type PySem.W.SL.s7174869446012820540x8), none, (.func { name := u180, qualname := u180, params := fP (fnAt p 14), body := .stmts (fB (fnAt p 14)), scope := fS (fnAt p 14), globals := 3, closure := [], defaults := .none, kwdefaults := .none, doc := .none, pyModule := (.str u245 288), annotations := none, code := (.ref 170), closureTuple := .none, builtins := 0 }), #[]⟩ (BT.node ⟨.none, none, (.fields #[]), #[]⟩ BT.nil BT.nil) BT.nil) (BT.node ⟨.none, none, (.fields #[]), #[]⟩ (BT.node ⟨.none, none, (.func { name := u214, qualname := u214, params := fP (fnAt p 54), body := .stmts (fB (fnAt p 54)), scope := fS (fnAt p 54), globals := 0, closure := [], defaults := .none, kwdefaults := .none, doc := .none, pyModule := .none, annotations := none, code := .none, closureTuple := .none, builtins := 0 }), #[]⟩ BT.nil BT.nil) BT.nil))) (BT.node ⟨(.type PySem.W.SL.s4290257624100764138x5), none, (.fields #[(.ref 58), (.ref 58), (.ref 58)]), #[]⟩ (BT.node ⟨.none, none, (.func { name := u236, qualname := u251, params := fP (inCls p 10 0), body := .stmts (fB (inCls p 10 0)), scope := fS (inCls p 10 0), globals := 0, closure := [], defaults := .none, kwdefaults := .none, doc := .none, pyModule := .none, annotations := none, code := .none, closureTuple := .none, builtins := 0 }), #[]⟩ (BT.node ⟨(.type PySem.W.SL.s2766695959194262286x5), none, (.seq #[(.str u231 397), (.str u263 398)] 0), #[]⟩ (BT.node ⟨(.type PySem.W.SL.s14018661285674007319x4), none, (.dict #[⟨PyData.keyHash P u232, (.str u232 632), (.str u289 580)⟩, ⟨PyData.keyHash P u234, (.str u234 634), (.str u209 633)⟩, ⟨PyData.keyHash P u235, (.str u235 636), (.int 178 635)⟩, ⟨PyData.keyHash P u285, (.str u285 642), (.ref 292)⟩, ⟨PyData.keyHash P u212, (.str u212 648), (.ref 297)⟩, ⟨PyData.keyHash P u296, (.str u296 660), (.ref 304)⟩, ⟨PyData.keyHash P u237, (.str u237 661), (.ref 305)⟩] 7), #[]⟩ BT.nil BT.nil) BT.nil) (BT.node ⟨.none, none, (.func { name := u204, qualname := u204, params := fP (fnAt p 41), body := .stmts (fB (fnAt p 41)), scope := fS (fnAt p 41), globals := 0, closure := [], defaults := .none, kwdefaults := .none, doc := .none, pyModule := .none, annotations := none, code := .none, closureTuple := .none, builtins := 0 }), #[]⟩ (BT.node ⟨(.type PySem.W.SL.s2766695959194262286x5), none, (.seq #[] 0), #[]⟩ BT.nil BT.nil) BT.nil)) (BT.node ⟨.none, none, (.fields #[]), #[]⟩ (BT.node ⟨(.type PySem.W.SL.s5856160107412720595x4), none, (.fields #[(.str u188 441), (.str u188 442), (.str u164 443), (.int 77 0), (.int 2 0), (.int 0 0), (.int 0 0), (.int 3 0), (.ref 182), (.bool true), (.int 181 0), (.ref 183), .none, (.ref 184), (.ref 185), (.ref 186), (.int 446 0), (.int 77 0), (.str u164 447)]), #[]⟩ (BT.node ⟨(.type PySem.W.SL.s2766695959194262286x5), none, (.seq #[] 0), #[]⟩ BT.nil BT.nil) BT.nil) (BT.node ⟨(.type PySem.W.SL.s14755015743595814543x17), none, (.fields #[(.str u255 573), (.ref 250), (.builtin PySem.W.SL.s6511155373996960695x17), (.builtin PySem.W.SL.s12411053484034534018x21)]), #[]⟩ (BT.node ⟨.none, none, (.fields #[]), #[]⟩ BT.nil BT.nil) BT.nil)))))) (BT.node ⟨(.type PySem.W.SL.s6658869562736209489x6), (some 3), .plain, #[]⟩ (BT.node ⟨(.type PySem.W.SL.s5856160107412720595x4), none, (.fields #[(.str u166 176), (.str u166 177), (.str u164 178), (.int 1 0), (.int 0 0), (.int 0 0), (.int 0 0), (.int 0 0), (.ref 7), (.bool false), (.int 175 0), (.ref 8), .none, .none, .none, .none, (.int 179 0), (.int 1 0), (.str u164 180)]), #[]⟩ (BT.node ⟨(.type PySem.W.SL.s2766695959194262286x5), none, (.seq #[(.str u219 192), (.str u220 193)] 0), #[]⟩ (BT.node ⟨.none, none, (.fields #[(.int 13 0), (.int 4 0), (.ref 41)]), #[]⟩ (BT.node ⟨.none, none, (.fields #[]), #[]⟩ (BT.node ⟨(.type PySem.W.SL.s2766695959194262286x5), none, (.seq #[] 0), #[]⟩ (BT.node ⟨(.type PySem.W.SL.s14018661285674007319x4), none, (.dict #[⟨PyData.keyHash P u232, (.str u232 591), (.str u289 580)⟩, ⟨PyData.keyHash P u234, (.str u234 593), (.str u208 592)⟩, ⟨PyData.keyHash P u235, (.str u235 595), (.int 150 594)⟩, ⟨PyData.keyHash P u285, (.str u285 610), (.ref 268)⟩, ⟨PyData.keyHash P u212, (.str u212 616), (.ref 273)⟩, ⟨PyData.keyHash P u237, (.str u237 617), (.ref 274)⟩] 6), #[]⟩ BT.nil BT.nil) (BT.node ⟨(.type PySem.W.SL.s2766695959194262286x5), none, (.seq #[] 0), #[]⟩ BT.nil BT.nil)) (BT.node ⟨.none, none, (.func { name := u189, qualname := u189, params := fP (fnAt p 25), body := .stmts (fB (fnAt p 25)), scope := fS (fnAt p 25), globals := 0, closure := [], defaults := .none, kwdefaults := .none, doc := .none, pyModule := .none, annotations := none, code := .none, closureTuple := .none, builtins := 0 }), #[]⟩ (BT.node ⟨(.type PySem.W.SL.s2766695959194262286x5), none, (.seq #[(.str u238 684), (.str u225 685)] 0), #[]⟩ BT.nil BT.nil) BT.nil)) (BT.node ⟨(.type PySem.W.SL.s2766695959194262286x5), none, (.seq #[] 0), #[]⟩ (BT.node ⟨.none, none, (.fields #[]), #[]⟩ (BT.node ⟨.none, none, (.fields #[]), #[]⟩ BT.nil BT.nil) BT.nil) (BT.node ⟨(.type PySem.W.SL.s5856160107412720595x4), none, (.fields #[(.str u205 532), (.str u205 533), (.str u164 534), (.int 120 0), (.int 2 0), (.int 0 0), (.int 0 0), (.int 3 0), (.ref 222), (.bool true), (.int 181 0), (.ref 223), .none, .none, .none, (.ref 224), (.int 535 0), (.int 120 0), (.str u164 536)]), #[]⟩ (BT.node ⟨(.type PySem.W.SL.s7174869446012820540x8), none, (.func { name := u212, qualname := u212, params := fP (fnAt p 51), body := .stmts (fB (fnAt p 51)), scope := fS (fnAt p 51), globals := 3, closure := [], defaults := .none, kwdefaults := .none, doc := .none, pyModule := (.str u302 705), annotations := none, code := (.ref 352), closureTuple := .none, builtins := 0 }), #[]⟩ BT.nil BT.nil) BT.nil))) (BT.node ⟨(.type PySem.W.SL.s2766695959194262286x5), none, (.seq #[(.ref 45)] 0), #[]⟩ (BT.node ⟨(.type PySem.W.SL.s11030030927630378310x26), none, (.fields #[(.builtin PySem.W.SL.s10062305145149207511x16), (.type PySem.W.SL.s17162191345867700912x4)]), #[]⟩ (BT.node ⟨(.type PySem.W.SL.s7174869446012820540x8), none, (.func { name := u220, qualname := u262, params := fP (inCls p 11 3), body := .stmts (fB (inCls p 11 3)), scope := fS (inCls p 11 3), globals := 3, closure := [], defaults := .none, kwdefaults := .none, doc := .none, pyModule := (.str u245 288), annotations := none, code := (.ref 144), closureTuple := .none, builtins := 0 }), #[]⟩ (BT.node ⟨(.type PySem.W.SL.s7174869446012820540x8), none, (.func { name := u212, qualname := u295, params := fP (inCls p 46 1), body := .stmts (fB (inCls p 46 1)), scope := fS (inCls p 46 1), globals := 3, closure := [], defaults := .none, kwdefaults := .none, doc := .none, pyModule := (.str u289 580), annotations := none, code := (.ref 272), closureTuple := .none, builtins := 0 }), #[]⟩ BT.nil BT.nil) BT.nil) (BT.node ⟨(.type PySem.W.SL.s7174869446012820540x8), none, (.func { name := u191, qualname := u191, params := fP (fnAt p 27), body := .stmts (fB (fnAt p 27)), scope := fS (fnAt p 27), globals := 3, closure := [], defaults := .none, kwdefaults := .none, doc := .none, pyModule := (.str u266 429), annotations := none, code := (.ref 208), closureTuple := .none, builtins := 0 }), #[]⟩ (BT.node ⟨(.type PySem.W.SL.s14755015743595814543x17), none, (.fields #[(.str u241 700), (.ref 335), (.builtin PySem.W.SL.s10220274742760427390x26), .none]), #[]⟩ BT.nil BT.nil) BT.nil)) (BT.node ⟨(.type PySem.W.SL.s4290257624100764138x5), none, (.fields #[(.ref 110), (.ref 110), (.ref 110)]), #[]⟩ (BT.node ⟨(.type PySem.W.SL.s2766695959194262286x5), none, (.seq #[] 0), #[]⟩ (BT.node ⟨(.type PySem.W.SL.s2766695959194262286x5), none, (.seq #[] 0), #[]⟩ BT.nil BT.nil) BT.nil) (BT.node ⟨(.type PySem.W.SL.s2766695959194262286x5), none, (.seq #[] 0), #[]⟩ (BT.node ⟨(.type PySem.W.SL.s5856160107412720595x4), none, (.fields #[(.str u215 742), (.str u215 743), (.str u164 744), (.int 223 0), (.int 3 0), (.int 0 0), (.int 0 0), (.int 3 0), (.ref 366), (.bool true), (.int 181 0), (.ref 367), .none, .none, .none, (.ref 368), (.int 745 0), (.int 223 0), (.str u164 746)]), #[]⟩ BT.nil BT.nil) BT.nil)))) (BT.node ⟨(.type PySem.W.SL.s2766695959194262286x5), none, (.seq #[] 0), #[]⟩ (BT.node ⟨(.type PySem.W.SL.s5856160107412720595x4), none, (.fields #[(.str u236 228), (.str u240 229), (.str u164 230), (.int 13 0), (.int 2 0), (.int 0 0), (.int 0 0), (.int 3 0), (.ref 36), (.bool true), (.int 181 0), (.ref 37), .none, (.ref 38), (.ref 39), (.ref 40), (.int 233 0), (.int 13 0), (.str u164 234)]), #[]⟩ (BT.node ⟨(.type PySem.W.SL.s2766695959194262286x5), none, (.seq #[] 0), #[]⟩ (BT.node ⟨(.type PySem.W.SL.s5856160107412720595x4), none, (.fields #[(.str u249 370), (.str u261 371), (.str u164 372), (.int 50 0), (.int 1 0), (.int 0 0), (.int 0 0), (.int 3 0), (.ref 134), (.bool true), (.int 181 0), (.ref 135), .none, .none, .none, (.ref 136), (.int 373 0), (.int 50 0), (.str u164 374)]), #[]⟩ (BT.node ⟨(.type PySem.W.SL.s2766695959194262286x5), none, (.seq #[] 0), #[]⟩ BT.nil BT.nil) BT.nil) (BT.node ⟨(.type PySem.W.SL.s5856160107412720595x4), none, (.fields #[(.str u190 462), (.str u190 463), (.str u164 464), (.int 83 0), (.int 4 0), (.int 0 0), (.int 0 0), (.int 3 0), (.ref 196), (.bool true), (.int 181 0), (.ref 197), .none, (.ref 198), (.ref 199), (.ref 200), (.int 474 0), (.int 83 0), (.str u164 475)]), #[]⟩ (BT.node ⟨(.type PySem.W.SL.s2766695959194262286x5), none, (.seq #[] 0), #[]⟩ BT.nil BT.nil) BT.nil)) (BT.node ⟨.none, none, (.func { name := u247, qualname := u254, params := fP (inCls p 10 2), body := .stmts (fB (inCls p 10 2)), scope := fS (inCls p 10 2), globals := 0, closure := [], defaults := .none, kwdefaults := .none, doc := .none, pyModule := .none, annotations := none, code := .none, closureTuple := .none, builtins := 0 }), #[]⟩ (BT.node ⟨.none, none, (.func { name := u180, qualname := u180, params := fP (fnAt p 14), body := .stmts (fB (fnAt p 14)), scope := fS (fnAt p 14), globals := 0, closure := [], defaults := .none, kwdefaults := .none, doc := .none, pyModule := .none, annotations := none, code := .none, closureTuple := .none, builtins := 0 }), #[]⟩ (BT.node ⟨(.type PySem.W.SL.s7174869446012820540x8), none, (.func { name := u212, qualname := u298, params := fP (inCls p 47 1), body := .stmts (fB (inCls p 47 1)), scope := fS (inCls p 47 1), globals := 3, closure := [], defaults := .none, kwdefaults := .none, doc := .none, pyModule := (.str u289 580), annotations := none, code := (.ref 296), closureTuple := .none, builtins := 0 }), #[]⟩ BT.nil BT.nil) BT.nil) (BT.node ⟨(.type PySem.W.SL.s658472552662922059x5), none, .plain, #[(some (.ref 232)), (some (.ref 3)), (some (.ref 229)), none, (some (.str u284 487)), none, (some (.ref 0))]⟩ (BT.node ⟨(.type PySem.W.SL.s2766695959194262286x5), none, (.seq #[] 0), #[]⟩ BT.nil BT.nil) BT.nil))) (BT.node ⟨(.type PySem.W.SL.s14018661285674007319x4), none, (.dict #[⟨PyData.keyHash P u232, (.str u232 252), (.str u233 214)⟩, ⟨PyData.keyHash P u235, (.str u235 256), (.int 16 255)⟩, ⟨PyData.keyHash P u237, (.str u237 257), (.ref 56)⟩, ⟨PyData.keyHash P u2, (.str u2 258), .none⟩] 2), #[]⟩ (BT.node ⟨(.type PySem.W.SL.s2766695959194262286x5), none, (.seq #[(.str u238 305), (.str u248 306), (.str u249 307), (.str u250 308)] 0), #[]⟩ (BT.node ⟨(.type PySem.W.SL.s2766695959194262286x5), none, (.seq #[] 0), #[]⟩ (BT.node ⟨(.type PySem.W.SL.s2766695959194262286x5), none, (.seq #[] 0), #[]⟩ BT.nil BT.nil) BT.nil) (BT.node ⟨(.type PySem.W.SL.s2766695959194262286x5), none, (.seq #[] 0), #[]⟩ (BT.node ⟨(.type PySem.W.SL.s5856160107412720595x4), none, (.fields #[(.str u211 707), (.str u211 708), (.str u164 709), (.int 197 0), (.int 1 0), (.int 0 0), (.int 0 0), (.int 3 0), (.ref 340), (.bool true), (.int 181 0), (.ref 341), .none, (.ref 342), (.ref 343), (.ref 344), (.int 711 0), (.int 197 0), (.str u164 712)]), #[]⟩ BT.nil BT.nil) BT.nil)) (BT.node ⟨(.type PySem.W.SL.s658472552662922059x5), none, .plain, #[(some (.ref 120)), (some (.ref 3)), (some (.ref 117)), none, (some (.str u245 288)), none, (some (.ref 0))]⟩ (BT.node ⟨(.type PySem.W.SL.s2766695959194262286x5), none, (.seq #[] 0), #[]⟩ (BT.node ⟨(.type PySem.W.SL.s11030030927630378310x26), none, (.fields #[(.builtin PySem.W.SL.s10062305145149207511x16), (.type PySem.W.SL.s17162191345867700912x4)]), #[]⟩ BT.nil BT.nil) BT.nil) (BT.node ⟨(.type PySem.W.SL.s14018661285674007319x4), none, (.dict #[⟨PyData.keyHash P u232, (.str u232 545), (.str u284 487)⟩, ⟨PyData.keyHash P u235, (.str u235 549), (.int 126 548)⟩, ⟨PyData.keyHash P u285, (.str u285 560), (.ref 240)⟩, ⟨PyData.keyHash P u212, (.str u212 571), (.ref 247)⟩, ⟨PyData.keyHash P u237, (.str u237 572), (.ref 248)⟩, ⟨PyData.keyHash P u255, (.str u255 574), (.ref 251)⟩, ⟨PyData.keyHash P u241, (.str u241 576), (.ref 252)⟩, ⟨PyData.keyHash P u2, (.str u2 577), .none⟩] 4), #[]⟩ (BT.node ⟨(.type PySem.W.SL.s7174869446012820540x8), none, (.func { name := u216, qualname := u216, params := fP (fnAt p 56), body := .stmts (fB (fnAt p 56)), scope := fS (fnAt p 56), globals := 3, closure := [], defaults := .none, kwdefaults := .none, doc := .none, pyModule := (.str u305 722), annotations := none, code := (.ref 376), closureTuple := .none, builtins := 0 }), #[]⟩ BT.nil BT.nil) BT.nil))))) (BT.node ⟨(.type PySem.W.SL.s5856160107412720595x4), none, (.fields #[(.str u166 182), (.str u166 183), (.str u164 184), (.int 1 0), (.int 0 0), (.int 0 0), (.int 0 0), (.int 0 0), (.ref 11), (.bool false), (.int 181 0), (.ref 12), .none, .none, .none, .none, (.int 185 0), (.int 1 0), (.str u164 186)]), #[]⟩ (BT.node ⟨(.type PySem.W.SL.s7174869446012820540x8), none, (.func { name := u170, qualname := u170, params := fP (fnAt p 1), body := .stmts (fB (fnAt p 1)), scope := fS (fnAt p 1), globals := 3, closure := [], defaults := .none, kwdefaults := .none, doc := .none, pyModule := (.str u221 187), annotations := none, code := (.ref 20), closureTuple := .none, builtins := 0 }), #[]⟩ (BT.node ⟨.none, none, (.fields #[]), #[]⟩ (BT.node ⟨(.type PySem.W.SL.s14018661285674007319x4), none, (.dict #[⟨PyData.keyHash P u232, (.str u232 268), (.str u233 214)⟩, ⟨PyData.keyHash P u235, (.str u235 272), (.int 18 271)⟩, ⟨PyData.keyHash P u237, (.str u237 273), (.ref 68)⟩, ⟨PyData.keyHash P u2, (.str u2 274), .none⟩] 2), #[]⟩ (BT.node ⟨(.type PySem.W.SL.s7174869446012820540x8), none, (.func { name := u248, qualname := u260, params := fP (inCls p 11 1), body := .stmts (fB (inCls p 11 1)), scope := fS (inCls p 11 1), globals := 3, closure := [], defaults := .none, kwdefaults := .none, doc := .none, pyModule := (.str u245 288), annotations := none, code := (.ref 132), closureTuple := .none, builtins := 0 }), #[]⟩ (BT.node ⟨(.type PySem.W.SL.s658472552662922059x5), none, .plain, #[(some (.ref 260)), (some (.ref 3)), (some (.ref 257)), none, (some (.str u289 580)), none, (some (.ref 0))]⟩ BT.nil BT.nil) (BT.node ⟨.none, none, (.func { name := u218, qualname := u218, params := fP (fnAt p 59), body := .stmts (fB (fnAt p 59)), scope := fS (fnAt p 59), globals := 0, closure := [], defaults := .none, kwdefaults := .none, doc := .none, pyModule := .none, annotations := none, code := .none, closureTuple := .none, builtins := 0 }), #[]⟩ BT.nil BT.nil)) (BT.node ⟨.none, none, (.fields #[]), #[]⟩ (BT.node ⟨(.type PySem.W.SL.s7174869446012820540x8), none, (.func { name := u285, qualname := u300, params := fP (inCls p 48 0), body := .stmts (fB (inCls p 48 0)), scope := fS (inCls p 48 0), globals := 3, closure := [], defaults := .none, kwdefaults := .none, doc := .none, pyModule := (.str u289 580), annotations := none, code := (.ref 324), closureTuple := .none, builtins := 0 }), #[]⟩ BT.nil BT.nil) BT.nil)) (BT.node ⟨(.type PySem.W.SL.s2766695959194262286x5), none, (.seq #[] 0), #[]⟩ (BT.node ⟨(.type PySem.W.SL.s5856160107412720595x4), none, (.fields #[(.str u179 402), (.str u179 403), (.str u164 404), (.int 59 0), (.int 1 0), (.int 0 0), (.int 0 0), (.int 3 0), (.ref 160), (.bool true), (.int 181 0), (.ref 161), .none, (.ref 162), (.ref 163), (.ref 164), (.int 406 0), (.int 59 0), (.str u164 407)]), #[]⟩ (BT.node ⟨(.type PySem.W.SL.s2766695959194262286x5), none, (.seq #[] 0), #[]⟩ BT.nil BT.nil) BT.nil) (BT.node ⟨(.type PySem.W.SL.s14018661285674007319x4), none, (.dict #[⟨PyData.keyHash P u232, (.str u232 545), (.str u284 487)⟩, ⟨PyData.keyHash P u234, (.str u234 547), (.str u206 546)⟩, ⟨PyData.keyHash P u235, (.str u235 549), (.int 126 548)⟩, ⟨PyData.keyHash P u285, (.str u285 560), (.ref 240)⟩, ⟨PyData.keyHash P u212, (.str u212 571), (.ref 247)⟩, ⟨PyData.keyHash P u237, (.str u237 572), (.ref 248)⟩] 6), #[]⟩ (BT.node ⟨(.type PySem.W.SL.s2766695959194262286x5), none, (.seq #[] 0), #[]⟩ BT.nil BT.nil) BT.nil))) (BT.node ⟨.none, none, (.fields #[]), #[]⟩ (BT.node ⟨(.type PySem.W.SL.s5856160107412720595x4), none, (.fields #[(.str u176 292), (.str u176 293), (.str u164 294), (.int 27 0), (.int 0 0), (.int 0 0), (.int 0 0), (.int 0 0), (.ref 83), (.bool false), (.int 181 0), (.ref 84), .none, .none, .none, .none, (.int 295 0), (.int 27 0), (.str u164 296)]), #[]⟩ (BT.node ⟨(.type PySem.W.SL.s14755015743595814543x17), none, (.fields #[(.str u255 387), (.ref 148), (.builtin PySem.W.SL.s6511155373996960695x17), (.builtin PySem.W.SL.s12411053484034534018x21)]), #[]⟩ (BT.node ⟨(.type PySem.W.SL.s14755015743595814543x17), none, (.fields #[(.str u255 618), (.ref 276), (.builtin PySem.W.SL.s6511155373996960695x17), (.builtin PySem.W.SL.s12411053484034534018x21)]), #[]⟩ BT.nil BT.nil) BT.nil) (BT.node ⟨(.type PySem.W.SL.s2766695959194262286x5), none, (.seq #[] 0), #[]⟩ (BT.node ⟨.none, none, (.fields #[]), #[]⟩ BT.nil BT.nil) BT.nil)) (BT.node ⟨(.type PySem.W.SL.s14018661285674007319x4), none, (.dict #[⟨PyData.keyHash P u232, (.str u232 349), (.str u245 288)⟩, ⟨PyData.keyHash P u234, (.str u234 351), (.str u177 350)⟩, ⟨PyData.keyHash P u235, (.str u235 353), (.int 40 352)⟩, ⟨PyData.keyHash P u236, (.str u236 363), (.ref 128)⟩, ⟨PyData.keyHash P u248, (.str u248 369), (.ref 133)⟩, ⟨PyData.keyHash P u249, (.str u249 375), (.ref 138)⟩, ⟨PyData.keyHash P u220, (.str u220 382), (.ref 145)⟩, ⟨PyData.keyHash P u237, (.str u237 386), (.ref 146)⟩] 8), #[]⟩ (BT.node ⟨(.type PySem.W.SL.s7174869446012820540x8), none, (.func { name := u182, qualname := u182, params := fP (fnAt p 17), body := .stmts (fB (fnAt p 17)), scope := fS (fnAt p 17), globals := 3, closure := [], defaults := .none, kwdefaults := .none, doc := .none, pyModule := (.str u264 421), annotations := none, code := (.ref 180), closureTuple := .none, builtins := 0 }), #[]⟩ (BT.node ⟨(.type PySem.W.SL.s14755015743595814543x17), none, (.fields #[(.str u241 664), (.ref 307), (.builtin PySem.W.SL.s10220274742760427390x26), .none]), #[]⟩ BT.nil BT.nil) BT.nil) (BT.node ⟨.none, none, (.func { name := u212, qualname := u288, params := fP (inCls p 43 1), body := .stmts (fB (inCls p 43 1)), scope := fS (inCls p 43 1), globals := 0, closure := [], defaults := .none, kwdefaults := .none, doc := .none, pyModule := .none, annotations := none, code := .none, closureTuple := .none, builtins := 0 }), #[]⟩ (BT.node ⟨(.type PySem.W.SL.s2766695959194262286x5), none, (.seq #[(.str u231 751), (.str u263 752), (.str u282 753), (.str u283 754)] 0), #[]⟩ BT.nil BT.nil) BT.nil)))) (BT.node ⟨(.type PySem.W.SL.s2766695959194262286x5), none, (.seq #[(.type PySem.W.SL.s5946037652744460706x9)] 0), #[]⟩ (BT.node ⟨(.type PySem.W.SL.s17162191345867700912x4), none, (.cls { name := u172, bases := [(.type PySem.W.SL.s5946037652744460706x9)], mro := [(.ref 45), (.type PySem.W.SL.s5946037652744460706x9), (.type PySem.W.SL.s4278001404047624695x13), (.type PySem.W.SL.s2742458400755230247x6)], ns := 44, qualname := u172, hasDict := true, slotNames := [], subclasses := [(.ref 58), (.ref 70)], abstract := false, collection := none, hasDel := false }), #[(some (.ref 29)), none, (some (.str u172 216)), (some (.str u172 224)), (some (.builtin PySem.W.SL.s5160863994218179198x17)), (some (.bool true))]⟩ (BT.node ⟨.none, none, (.func { name := u175, qualname := u175, params := fP (fnAt p 8), body := .stmts (fB (fnAt p 8)), scope := fS (fnAt p 8), globals := 0, closure := [], defaults := .none, kwdefaults := .none, doc := .none, pyModule := .none, annotations := none, code := .none, closureTuple := .none, builtins := 0 }), #[]⟩ (BT.node ⟨(.type PySem.W.SL.s2766695959194262286x5), none, (.seq #[(.str u238 379)] 0), #[]⟩ (BT.node ⟨(.type PySem.W.SL.s2766695959194262286x5), none, (.seq #[] 0), #[]⟩ BT.nil BT.nil) BT.nil) (BT.node ⟨(.type PySem.W.SL.s2766695959194262286x5), none, (.seq #[(.str u225 480), (.str u226 481), (.str u280 482), (.str u231 483)] 0), #[]⟩ (BT.node ⟨(.type PySem.W.SL.s2766695959194262286x5), none, (.seq #[] 0), #[]⟩ BT.nil BT.nil) BT.nil)) (BT.node ⟨(.type PySem.W.SL.s14018661285674007319x4), none, (.dict #[⟨PyData.keyHash P u232, (.str u232 297), (.str u245 288)⟩, ⟨PyData.keyHash P u235, (.str u235 301), (.int 27 300)⟩, ⟨PyData.keyHash P u236, (.str u236 311), (.ref 93)⟩, ⟨PyData.keyHash P u246, (.str u246 320), (.ref 100)⟩, ⟨PyData.keyHash P u247, (.str u247 330), (.ref 107)⟩, ⟨PyData.keyHash P u237, (.str u237 334), (.ref 108)⟩, ⟨PyData.keyHash P u255, (.str u255 336), (.ref 111)⟩, ⟨PyData.keyHash P u241, (.str u241 338), (.ref 112)⟩, ⟨PyData.keyHash P u2, (.str u2 339), .none⟩] 4), #[]⟩ (BT.node ⟨.none, none, (.fields #[]), #[]⟩ (BT.node ⟨(.type PySem.W.SL.s2766695959194262286x5), none, (.seq #[] 0), #[]⟩ BT.nil BT.nil) BT.nil) (BT.node ⟨(.type PySem.W.SL.s2766695959194262286x5), none, (.seq #[] 0), #[]⟩ (BT.node ⟨(.type PySem.W.SL.s7174869446012820540x8), none, (.func { name := u214, qualname := u214, params := fP (fnAt p 54), body := .stmts (fB (fnAt p 54)), scope := fS (fnAt p 54), globals := 3, closure := [], defaults := .none, kwdefaults := .none, doc := .none, pyModule := (.str u305 722), annotations := none, code := (.ref 364), closureTuple := .none, builtins := 0 }), #[]⟩ BT.nil BT.nil) BT.nil))) (BT.node ⟨(.type PySem.W.SL.s2766695959194262286x5), none, (.seq #[(.ref 45)] 0), #[]⟩ (BT.node ⟨(.type PySem.W.SL.s7174869446012820540x8), none, (.func { name := u236, qualname := u251, params := fP (inCls p 10 0), body := .stmts (fB (inCls p 10 0)), scope := fS (inCls p 10 0), globals := 3, closure := [], defaults := .none, kwdefaults := .none, doc := .none, pyModule := (.str u245 288), annotations := none, code := (.ref 92), closureTuple := .none, builtins := 0 }), #[]⟩ (BT.node ⟨.none, none, (.func { name := u178, qualname := u178, params := fP (fnAt p 12), body := .stmts (fB (fnAt p 12)), scope := fS (fnAt p 12), globals := 0, closure := [], defaults := .none, kwdefaults := .none, doc := .none, pyModule := .none, annotations := none, code := .none, closureTuple := .none, builtins := 0 }), #[]⟩ (BT.node ⟨.none, none, (.fields #[(.int 180 0), (.int 4 0), (.ref 291), (.int 183 0), (.int 4 0), (.ref 296), (.int 186 0), (.int 4 0), (.ref 303)]), #[]⟩ BT.nil BT.nil) BT.nil) (BT.node ⟨(.type PySem.W.SL.s7174869446012820540x8), none, (.func { name := u204, qualname := u204, params := fP (fnAt p 41), body := .stmts (fB (fnAt p 41)), scope := fS (fnAt p 41), globals := 3, closure := [], defaults := .none, kwdefaults := .none, doc := .none, pyModule := (.str u284 487), annotations := none, code := (.ref 220), closureTuple := .none, builtins := 0 }), #[]⟩ (BT.node ⟨(.type PySem.W.SL.s2766695959194262286x5), none, (.seq #[(.str u225 717), (.str u226 718)] 0), #[]⟩ BT.nil BT.nil) BT.nil)) (BT.node ⟨(.type PySem.W.SL.s2766695959194262286x5), none, (.seq #[] 0), #[]⟩ (BT.node ⟨(.type PySem.W.SL.s2766695959194262286x5), none, (.seq #[] 0), #[]⟩ (BT.node ⟨(.type PySem.W.SL.s5856160107412720595x4), none, (.fields #[(.str u210 671), (.str u210 672), (.str u164 673), (.int 189 0), (.int 0 0), (.int 0 0), (.int 0 0), (.int 0 0), (.ref 315), (.bool false), (.int 181 0), (.ref 316), .none, .none, .none, .none, (.int 674 0), (.int 189 0), (.str u164 675)]), #[]⟩ BT.nil BT.nil) BT.nil) (BT.node ⟨(.type PySem.W.SL.s4290257624100764138x5), none, (.fields #[(.ref 250), (.ref 250), (.ref 250)]), #[]⟩ (BT.node ⟨(.type PySem.W.SL.s2766695959194262286x5), none, (.seq #[] 0), #[]⟩ BT.nil BT.nil) BT.nil))))))) (BT.node ⟨.none, none, (.dict #[⟨PyData.keyHash P u167, (.str u167 241), (.int 45 0)⟩, ⟨PyData.keyHash P u168, (.str u168 242), (.int 1 0)⟩] 2), #[]⟩ (BT.node ⟨(.type PySem.W.SL.s6658869562736209489x6), (some 0), .plain, #[]⟩ (BT.node ⟨.none, none, (.fields #[]), #[]⟩ (BT.node ⟨.none, none, (.fields #[]), #[]⟩ (BT.node ⟨(.type PySem.W.SL.s2766695959194262286x5), none, (.seq #[] 0), #[]⟩ (BT.node ⟨(.type PySem.W.SL.s2766695959194262286x5), none, (.seq #[] 0), #[]⟩ (BT.node ⟨(.type PySem.W.SL.s7174869446012820540x8), none, (.func { name := u236, qualname := u259, params := fP (inCls p 11 0), body := .stmts (fB (inCls p 11 0)), scope := fS (inCls p 11 0), globals := 3, closure := [], defaults := .none, kwdefaults := .none, doc := .none, pyModule := (.str u245 288), annotations := none, code := (.ref 127), closureTuple := .none, builtins := 0 }), #[]⟩ (BT.node ⟨(.type PySem.W.SL.s11030030927630378310x26), none, (.fields #[(.builtin PySem.W.SL.s10062305145149207511x16), (.type PySem.W.SL.s17162191345867700912x4)]), #[]⟩ BT.nil BT.nil) (BT.node ⟨(.type PySem.W.SL.s7174869446012820540x8), none, (.func { name := u217, qualname := u217, params := fP (fnAt p 57), body := .stmts (fB (fnAt p 57)), scope := fS (fnAt p 57), globals := 3, closure := [], defaults := .none, kwdefaults := .none, doc := .none, pyModule := (.str u305 722), annotations := none, code := (.ref 383), closureTuple := .none, builtins := 0 }), #[]⟩ BT.nil BT.nil)) (BT.node ⟨(.type PySem.W.SL.s2766695959194262286x5), none, (.seq #[] 0), #[]⟩ (BT.node ⟨.none, none, (.fields #[]), #[]⟩ BT.nil BT.nil) BT.nil)) (BT.node ⟨(.type PySem.W.SL.s2766695959194262286x5), none, (.seq #[(.str u238 315), (.str u223 316), (.str u224 317)] 0), #[]⟩ (BT.node ⟨(.type PySem.W.SL.s2766695959194262286x5), none, (.seq #[] 0), #[]⟩ (BT.node ⟨(.type PySem.W.SL.s2766695959194262286x5), none, (.seq #[] 0), #[]⟩ BT.nil BT.nil) BT.nil) (BT.node ⟨.none, none, (.func { name := u205, qualname := u205, params := fP (fnAt p 42), body := .stmts (fB (fnAt p 42)), scope := fS (fnAt p 42), globals := 0, closure := [], defaults := .none, kwdefaults := .none, doc := .none, pyModule := .none, annotations := none, code := .none, closureTuple := .none, builtins := 0 }), #[]⟩ (BT.node ⟨(.type PySem.W.SL.s5856160107412720595x4), none, (.fields #[(.str u212 714), (.str u212 715), (.str u164 716), (.int 207 0), (.int 2 0), (.int 0 0), (.int 0 0), (.int 3 0), (.ref 347), (.bool true), (.int 181 0), (.ref 348), .none, (.ref 349), (.ref 350), (.ref 351), (.int 719 0), (.int 207 0), (.str u164 720)]), #[]⟩ BT.nil BT.nil) BT.nil))) (BT.node ⟨(.type PySem.W.SL.s11030030927630378310x26), none, (.fields #[(.builtin PySem.W.SL.s4860613602091757760x24), (.ref 45)]), #[]⟩ (BT.node ⟨(.type PySem.W.SL.s2766695959194262286x5), none, (.seq #[] 0), #[]⟩ (BT.node ⟨(.type PySem.W.SL.s5856160107412720595x4), none, (.fields #[(.str u220 376), (.str u262 377), (.str u164 378), (.int 53 0), (.int 1 0), (.int 0 0), (.int 0 0), (.int 3 0), (.ref 139), (.bool true), (.int 181 0), (.ref 140), .none, (.ref 141), (.ref 142), (.ref 143), (.int 380 0), (.int 53 0), (.str u164 381)]), #[]⟩ (BT.node ⟨(.type PySem.W.SL.s5856160107412720595x4), none, (.fields #[(.str u212 611), (.str u295 612), (.str u164 613), (.int 166 0), (.int 2 0), (.int 0 0), (.int 0 0), (.int 3 0), (.ref 269), (.bool true), (.int 181 0), (.ref 270), .none, .none, .none, (.ref 271), (.int 614 0), (.int 166 0), (.str u164 615)]), #[]⟩ BT.nil BT.nil) BT.nil) (BT.node ⟨(.type PySem.W.SL.s5856160107412720595x4), none, (.fields #[(.str u191 477), (.str u191 478), (.str u164 479), (.int 88 0), (.int 2 0), (.int 0 0), (.int 0 0), (.int 3 0), (.ref 203), (.bool true), (.int 181 0), (.ref 204), .none, (.ref 205), (.ref 206), (.ref 207), (.int 484 0), (.int 88 0), (.str u164 485)]), #[]⟩ (BT.node ⟨(.type PySem.W.SL.s14755015743595814543x17), none, (.fields #[(.str u255 698), (.ref 335), (.builtin PySem.W.SL.s6511155373996960695x17), (.builtin PySem.W.SL.s12411053484034534018x21)]), #[]⟩ BT.nil BT.nil) BT.nil)) (BT.node ⟨(.type PySem.W.SL.s14755015743595814543x17), none, (.fields #[(.str u241 337), (.ref 110), (.builtin PySem.W.SL.s10220274742760427390x26), .none]), #[]⟩ (BT.node ⟨(.type PySem.W.SL.s7174869446012820540x8), none, (.func { name := u181, qualname := u181, params := fP (fnAt p 15), body := .stmts (fB (fnAt p 15)), scope := fS (fnAt p 15), globals := 3, closure := [], defaults := .none, kwdefaults := .none, doc := .none, pyModule := (.str u245 288), annotations := none, code := (.ref 175), closureTuple := .none, builtins := 0 }), #[]⟩ (BT.node ⟨(.type PySem.W.SL.s7174869446012820540x8), none, (.func { name := u296, qualname := u299, params := fP (inCls p 47 2), body := .stmts (fB (inCls p 47 2)), scope := fS (inCls p 47 2), globals := 3, closure := [], defaults := .none, kwdefaults := .none, doc := .none, pyModule := (.str u289 580), annotations := none, code := (.ref 303), closureTuple := .none, builtins := 0 }), #[]⟩ BT.nil BT.nil) BT.nil) (BT.node ⟨(.type PySem.W.SL.s7174869446012820540x8), none, (.func { name := u285, qualname := u287, params := fP (inCls p 43 0), body := .stmts (fB (inCls p 43 0)), scope := fS (inCls p 43 0), globals := 3, closure := [], defaults := .none, kwdefaults := .none, doc := .none, pyModule := (.str u284 487), annotations := none, code := (.ref 239), closureTuple := .none, builtins := 0 }), #[]⟩ (BT.node ⟨.none, none, (.func { name := u215, qualname := u215, params := fP (fnAt p 55), body := .stmts (fB (fnAt p 55)), scope := fS (fnAt p 55), globals := 0, closure := [], defaults := .none, kwdefaults := .none, doc := .none, pyModule := .none, annotations := none, code := .none, closureTuple := .none, builtins := 0 }), #[]⟩ BT.nil BT.nil) BT.nil)))) (BT.node ⟨(.type PySem.W.SL.s2766695959194262286x5), none, (.seq #[(.str u222 200), (.str u223 201), (.str u224 202), (.str u225 203), (.str u226 204), (.str u227 205), (.str u220 206), (.str u228 207), (.str u229 208), (.str u230 209), (.str u231 210)] 0), #[]⟩ (BT.node ⟨.none, none, (.func { name := u236, qualname := u240, params := fP (inCls p 4 0), body := .stmts (fB (inCls p 4 0)), scope := fS (inCls p 4 0), globals := 0, closure := [], defaults := .none, kwdefaults := .none, doc := .none, pyModule := .none, annotations := none, code := .none, closureTuple := .none, builtins := 0 }), #[]⟩ (BT.node ⟨(.type PySem.W.SL.s11030030927630378310x26), none, (.fields #[(.builtin PySem.W.SL.s4860613602091757760x24), (.ref 70)]), #[]⟩ (BT.node ⟨.none, none, (.func { name := u249, qualname := u261, params := fP (inCls p 11 2), body := .stmts (fB (inCls p 11 2)), scope := fS (inCls p 11 2), globals := 0, closure := [], defaults := .none, kwdefaults := .none, doc := .none, pyModule := .none, annotations := none, code := .none, closureTuple := .none, builtins := 0 }), #[]⟩ (BT.node ⟨(.type PySem.W.SL.s2766695959194262286x5), none, (.seq #[(.str u238 599), (.str u225 600), (.str u280 601), (.str u246 602), (.str u290 603), (.str u291 604), (.str u292 605), (.str u293 606), (.str u286 607)] 0), #[]⟩ BT.nil BT.nil) BT.nil) (BT.node ⟨.none, none, (.func { name := u190, qualname := u190, params := fP (fnAt p 26), body := .stmts (fB (fnAt p 26)), scope := fS (fnAt p 26), globals := 0, closure := [], defaults := .none, kwdefaults := .none, doc := .none, pyModule := .none, annotations := none, code := .none, closureTuple := .none, builtins := 0 }), #[]⟩ (BT.node ⟨(.type PySem.W.SL.s2766695959194262286x5), none, (.seq #[(.str u238 692), (.str u225 693)] 0), #[]⟩ BT.nil BT.nil) BT.nil)) (BT.node ⟨(.type PySem.W.SL.s2766695959194262286x5), none, (.seq #[] 0), #[]⟩ (BT.node ⟨.none, none, (.fields #[]), #[]⟩ (BT.node ⟨(.type PySem.W.SL.s5856160107412720595x4), none, (.fields #[(.str u212 643), (.str u298 644), (.str u164 645), (.int 183 0), (.int 2 0), (.int 0 0), (.int 0 0), (.int 3 0), (.ref 293), (.bool true), (.int 181 0), (.ref 294), .none, .none, .none, (.ref 295), (.int 646 0), (.int 183 0), (.str u164 647)]), #[]⟩ BT.nil BT.nil) BT.nil) (BT.node ⟨(.type PySem.W.SL.s5856160107412720595x4), none, (.fields #[(.str u206 540), (.str u206 541), (.str u164 542), (.int 126 0), (.int 0 0), (.int 0 0), (.int 0 0), (.int 0 0), (.ref 230), (.bool false), (.int 181 0), (.ref 231), .none, .none, .none, .none, (.int 543 0), (.int 126 0), (.str u164 544)]), #[]⟩ (BT.node ⟨(.type PySem.W.SL.s7174869446012820540x8), none, (.func { name := u213, qualname := u213, params := fP (fnAt p 53), body := .stmts (fB (fnAt p 53)), scope := fS (fnAt p 53), globals := 3, closure := [], defaults := .none, kwdefaults := .none, doc := .none, pyModule := (.str u305 722), annotations := none, code := (.ref 359), closureTuple := .none, builtins := 0 }), #[]⟩ BT.nil BT.nil) BT.nil))) (BT.node ⟨(.type PySem.W.SL.s2766695959194262286x5), none, (.seq #[] 0), #[]⟩ (BT.node ⟨.none, none, (.fields #[]), #[]⟩ (BT.node ⟨(.type PySem.W.SL.s11030030927630378310x26), none, (.fields #[(.builtin PySem.W.SL.s4860613602091757760x24), (.ref 148)]), #[]⟩ (BT.node ⟨(.type PySem.W.SL.s11030030927630378310x26), none, (.fields #[(.builtin PySem.W.SL.s4860613602091757760x24), (.ref 276)]), #[]⟩ BT.nil BT.nil) BT.nil) (BT.node ⟨(.type PySem.W.SL.s7174869446012820540x8), none, (.func { name := u203, qualname := u203, params := fP (fnAt p 40), body := .stmts (fB (fnAt p 40)), scope := fS (fnAt p 40), globals := 3, closure := [], defaults := .none, kwdefaults := .none, doc := .none, pyModule := (.str u284 487), annotations := none, code := (.ref 215), closureTuple := .none, builtins := 0 }), #[]⟩ (BT.node ⟨.none, none, (.func { name := u211, qualname := u211, params := fP (fnAt p 50), body := .stmts (fB (fnAt p 50)), scope := fS (fnAt p 50), globals := 0, closure := [], defaults := .none, kwdefaults := .none, doc := .none, pyModule := .none, annotations := none, code := .none, closureTuple := .none, builtins := 0 }), #[]⟩ BT.nil BT.nil) BT.nil)) (BT.node ⟨(.type PySem.W.SL.s5856160107412720595x4), none, (.fields #[(.str u177 344), (.str u177 345), (.str u164 346), (.int 40 0), (.int 0 0), (.int 0 0), (.int 0 0), (.int 0 0), (.ref 118), (.bool false), (.int 181 0), (.ref 119), .none, .none, .none, .none, (.int 347 0), (.int 40 0), (.str u164 348)]), #[]⟩ (BT.node ⟨(.type PySem.W.SL.s2766695959194262286x5), none, (.seq #[(.str u219 444), (.str u265 445)] 0), #[]⟩ (BT.node ⟨(.type PySem.W.SL.s2766695959194262286x5), none, (.seq #[] 0), #[]⟩ BT.nil BT.nil) BT.nil) (BT.node ⟨(.type PySem.W.SL.s2766695959194262286x5), none, (.seq #[] 0), #[]⟩ (BT.node ⟨(.type PySem.W.SL.s5856160107412720595x4), none, (.fields #[(.str u216 748), (.str u216 749), (.str u164 750), (.int 236 0), (.int 2 0), (.int 0 0), (.int 0 0), (.int 3 0), (.ref 371), (.bool true), (.int 181 0), (.ref 372), .none, (.ref 373), (.ref 374), (.ref 375), (.int 755 0), (.int 236 0), (.str u164 756)]), #[]⟩ BT.nil BT.nil) BT.nil))))) (BT.node ⟨.none, none, (.fields #[(.int 2 0), (.int 0 0), (.ref 20), (.int 4 0), (.int 0 0), (.ref 27), (.int 11 0), (.int 0 0), (.ref 34), (.int 16 0), (.int 0 0), (.ref 54), (.int 18 0), (.int 0 0), (.ref 66), (.int 21 0), (.int 0 0), (.ref 78), (.int 27 0), (.int 0 0), (.ref 85), (.int 40 0), (.int 0 0), (.ref 120), (.int 55 0), (.int 0 0), (.ref 158), (.int 59 0), (.int 0 0), (.ref 165), (.int 61 0), (.int 0 0), (.ref 170), (.int 63 0), (.int 0 0), (.ref 175), (.int 69 0), (.int 0 0), (.ref 180), (.int 77 0), (.int 0 0), (.ref 187), (.int 79 0), (.int 0 0), (.ref 194), (.int 83 0), (.int 0 0), (.ref 201), (.int 88 0), (.int 0 0), (.ref 208), (.int 105 0), (.int 0 0), (.ref 215), (.int 110 0), (.int 0 0), (.ref 220), (.int 120 0), (.int 0 0), (.ref 225), (.int 126 0), (.int 0 0), (.ref 232), (.int 150 0), (.int 0 0), (.ref 260), (.int 178 0), (.int 0 0), (.ref 286), (.int 189 0), (.int 0 0), (.ref 317), (.int 197 0), (.int 0 0), (.ref 345), (.int 207 0), (.int 0 0), (.ref 352), (.int 210 0), (.int 0 0), (.ref 359), (.int 216 0), (.int 0 0), (.ref 364), (.int 223 0), (.int 0 0), (.ref 369), (.int 236 0), (.int 0 0), (.ref 376), (.int 242 0), (.int 0 0), (.ref 383), (.int 252 0), (.int 0 0), (.ref 390)]), #[]⟩ (BT.node ⟨(.type PySem.W.SL.s5856160107412720595x4), none, (.fields #[(.str u170 189), (.str u170 190), (.str u164 191), (.int 2 0), (.int 2 0), (.int 0 0), (.int 0 0), (.int 3 0), (.ref 15), (.bool true), (.int 181 0), (.ref 16), .none, (.ref 17), (.ref 18), (.ref 19), (.int 194 0), (.int 2 0), (.str u164 195)]), #[]⟩ (BT.node ⟨(.type PySem.W.SL.s2766695959194262286x5), none, (.seq #[] 0), #[]⟩ (BT.node ⟨(.type PySem.W.SL.s2766695959194262286x5), none, (.seq #[] 0), #[]⟩ (BT.node ⟨(.type PySem.W.SL.s5856160107412720595x4), none, (.fields #[(.str u248 364), (.str u260 365), (.str u164 366), (.int 47 0), (.int 1 0), (.int 0 0), (.int 0 0), (.int 3 0), (.ref 129), (.bool true), (.int 181 0), (.ref 130), .none, .none, .none, (.ref 131), (.int 367 0), (.int 47 0), (.str u164 368)]), #[]⟩ (BT.node ⟨(.type PySem.W.SL.s5856160107412720595x4), none, (.fields #[(.str u208 586), (.str u208 587), (.str u164 588), (.int 150 0), (.int 0 0), (.int 0 0), (.int 0 0), (.int 0 0), (.ref 258), (.bool false), (.int 181 0), (.ref 259), .none, .none, .none, .none, (.int 589 0), (.int 150 0), (.str u164 590)]), #[]⟩ BT.nil BT.nil) (BT.node ⟨(.type PySem.W.SL.s2766695959194262286x5), none, (.seq #[] 0), #[]⟩ BT.nil BT.nil)) (BT.node ⟨(.type PySem.W.SL.s2766695959194262286x5), none, (.seq #[] 0), #[]⟩ (BT.node ⟨(.type PySem.W.SL.s5856160107412720595x4), none, (.fields #[(.str u285 681), (.str u300 682), (.str u164 683), (.int 191 0), (.int 2 0), (.int 0 0), (.int 0 0), (.int 3 0), (.ref 319), (.bool true), (.int 181 0), (.ref 320), .none, (.ref 321), (.ref 322), (.ref 323), (.int 686 0), (.int 191 0), (.str u164 687)]), #[]⟩ BT.nil BT.nil) BT.nil)) (BT.node ⟨(.type PySem.W.SL.s7174869446012820540x8), none, (.func { name := u246, qualname := u252, params := fP (inCls p 10 1), body := .stmts (fB (inCls p 10 1)), scope := fS (inCls p 10 1), globals := 3, closure := [], defaults := .none, kwdefaults := .none, doc := .none, pyModule := (.str u245 288), annotations := none, code := (.ref 99), closureTuple := .none, builtins := 0 }), #[]⟩ (BT.node ⟨.none, none, (.func { name := u179, qualname := u179, params := fP (fnAt p 13), body := .stmts (fB (fnAt p 13)), scope := fS (fnAt p 13), globals := 0, closure := [], defaults := .none, kwdefaults := .none, doc := .none, pyModule := .none, annotations := none, code := .none, closureTuple := .none, builtins := 0 }), #[]⟩ (BT.node ⟨(.type PySem.W.SL.s7174869446012820540x8), none, (.func { name := u285, qualname := u297, params := fP (inCls p 47 0), body := .stmts (fB (inCls p 47 0)), scope := fS (inCls p 47 0), globals := 3, closure := [], defaults := .none, kwdefaults := .none, doc := .none, pyModule := (.str u289 580), annotations := none, code := (.ref 291), closureTuple := .none, builtins := 0 }), #[]⟩ BT.nil BT.nil) BT.nil) (BT.node ⟨(.type PySem.W.SL.s11030030927630378310x26), none, (.fields #[(.builtin PySem.W.SL.s10062305145149207511x16), (.type PySem.W.SL.s17162191345867700912x4)]), #[]⟩ (BT.node ⟨(.type PySem.W.SL.s2766695959194262286x5), none, (.seq #[(.str u222 727), (.str u286 728), (.str u303 729), (.str u248 730), (.str u249 731), (.str u304 732)] 0), #[]⟩ BT.nil BT.nil) BT.nil))) (BT.node ⟨(.type PySem.W.SL.s2766695959194262286x5), none, (.seq #[] 0), #[]⟩ (BT.node ⟨.none, none, (.fields #[(.int 29 0), (.int 4 0), (.ref 92), (.int 34 0), (.int 4 0), (.ref 99), (.int 37 0), (.int 4 0), (.ref 106)]), #[]⟩ (BT.node ⟨(.type PySem.W.SL.s17162191345867700912x4), none, (.cls { name := u177, bases := [(.type PySem.W.SL.s2742458400755230247x6)], mro := [(.ref 148), (.type PySem.W.SL.s2742458400755230247x6)], ns := 147, qualname := u177, hasDict := true, slotNames := [], subclasses := [], abstract := false, collection := none, hasDel := false }), #[none, none, (some (.str u177 342)), (some (.str u177 350)), (some (.builtin PySem.W.SL.s11443829558043349243x14)), (some (.bool true))]⟩ (BT.node ⟨(.type PySem.W.SL.s17162191345867700912x4), none, (.cls { name := u208, bases := [(.type PySem.W.SL.s2742458400755230247x6)], mro := [(.ref 276), (.type PySem.W.SL.s2742458400755230247x6)], ns := 275, qualname := u208, hasDict := true, slotNames := [], subclasses := [], abstract := false, collection := none, hasDel := false }), #[none, none, (some (.str u208 584)), (some (.str u208 592)), (some (.builtin PySem.W.SL.s11443829558043349243x14)), (some (.bool true))]⟩ BT.nil BT.nil) BT.nil) (BT.node ⟨(.type PySem.W.SL.s2766695959194262286x5), none, (.seq #[(.str u267 514), (.str u268 515), (.str u269 516), (.str u270 517), (.str u281 518), (.str u271 519), (.str u272 520), (.str u282 521), (.str u283 522)] 0), #[]⟩ (BT.node ⟨(.type PySem.W.SL.s2766695959194262286x5), none, (.seq #[] 0), #[]⟩ BT.nil BT.nil) BT.nil)) (BT.node ⟨(.type PySem.W.SL.s11030030927630378310x26), none, (.fields #[(.builtin PySem.W.SL.s10062305145149207511x16), (.type PySem.W.SL.s17162191345867700912x4)]), #[]⟩ (BT.node ⟨(.type PySem.W.SL.s5856160107412720595x4), none, (.fields #[(.str u182 423), (.str u182 424), (.str u164 425), (.int 69 0), (.int 2 0), (.int 0 0), (.int 0 0), (.int 3 0), (.ref 177), (.bool true), (.int 181 0), (.ref 178), .none, .none, .none, (.ref 179), (.int 426 0), (.int 69 0), (.str u164 427)]), #[]⟩ (BT.node ⟨(.type PySem.W.SL.s14755015743595814543x17), none, (.fields #[(.str u255 662), (.ref 307), (.builtin PySem.W.SL.s6511155373996960695x17), (.builtin PySem.W.SL.s12411053484034534018x21)]), #[]⟩ BT.nil BT.nil) BT.nil) (BT.node ⟨(.type PySem.W.SL.s2766695959194262286x5), none, (.seq #[] 0), #[]⟩ (BT.node ⟨.none, none, (.fields #[]), #[]⟩ BT.nil BT.nil) BT.nil)))) (BT.node ⟨(.type PySem.W.SL.s7174869446012820540x8), none, (.func { name := u171, qualname := u171, params := fP (fnAt p 2), body := .stmts (fB (fnAt p 2)), scope := fS (fnAt p 2), globals := 3, closure := [], defaults := .none, kwdefaults := .none, doc := .none, pyModule := (.str u221 187), annotations := none, code := (.ref 27), closureTuple := .none, builtins := 0 }), #[]⟩ (BT.node ⟨(.type PySem.W.SL.s14018661285674007319x4), none, (.dict #[⟨PyData.keyHash P u232, (.str u232 223), (.str u233 214)⟩, ⟨PyData.keyHash P u235, (.str u235 227), (.int 11 226)⟩, ⟨PyData.keyHash P u236, (.str u236 235), (.ref 42)⟩, ⟨PyData.keyHash P u237, (.str u237 237), (.ref 43)⟩, ⟨PyData.keyHash P u241, (.str u241 239), (.ref 46)⟩, ⟨PyData.keyHash P u2, (.str u2 240), .none⟩] 3), #[]⟩ (BT.node ⟨(.type PySem.W.SL.s2766695959194262286x5), none, (.seq #[] 0), #[]⟩ (BT.node ⟨.none, none, (.fields #[]), #[]⟩ (BT.node ⟨(.type PySem.W.SL.s7174869446012820540x8), none, (.func { name := u285, qualname := u294, params := fP (inCls p 46 0), body := .stmts (fB (inCls p 46 0)), scope := fS (inCls p 46 0), globals := 3, closure := [], defaults := .none, kwdefaults := .none, doc := .none, pyModule := (.str u289 580), annotations := none, code := (.ref 267), closureTuple := .none, builtins := 0 }), #[]⟩ BT.nil BT.nil) BT.nil) (BT.node ⟨.none, none, (.fields #[]), #[]⟩ (BT.node ⟨(.type PySem.W.SL.s7174869446012820540x8), none, (.func { name := u212, qualname := u301, params := fP (inCls p 48 1), body := .stmts (fB (inCls p 48 1)), scope := fS (inCls p 48 1), globals := 3, closure := [], defaults := .none, kwdefaults := .none, doc := .none, pyModule := (.str u289 580), annotations := none, code := (.ref 331), closureTuple := .none, builtins := 0 }), #[]⟩ BT.nil BT.nil) BT.nil)) (BT.node ⟨(.type PySem.W.SL.s2766695959194262286x5), none, (.seq #[(.str u249 331), (.str u250 332), (.str u248 333)] 0), #[]⟩ (BT.node ⟨(.type PySem.W.SL.s2766695959194262286x5), none, (.seq #[] 0), #[]⟩ (BT.node ⟨(.type PySem.W.SL.s2766695959194262286x5), none, (.seq #[(.str u238 652), (.str u225 653), (.str u267 654), (.str u268 655), (.str u269 656), (.str u270 657)] 0), #[]⟩ BT.nil BT.nil) BT.nil) (BT.node ⟨(.type PySem.W.SL.s2766695959194262286x5), none, (.seq #[(.str u238 553), (.str u225 554), (.str u280 555), (.str u246 556), (.str u286 557)] 0), #[]⟩ (BT.node ⟨(.type PySem.W.SL.s5856160107412720595x4), none, (.fields #[(.str u214 736), (.str u214 737), (.str u164 738), (.int 216 0), (.int 7 0), (.int 0 0), (.int 0 0), (.int 3 0), (.ref 361), (.bool true), (.int 181 0), (.ref 362), .none, .none, .none, (.ref 363), (.int 739 0), (.int 216 0), (.str u164 740)]), #[]⟩ BT.nil BT.nil) BT.nil))) (BT.node ⟨(.type PySem.W.SL.s11030030927630378310x26), none, (.fields #[(.builtin PySem.W.SL.s4860613602091757760x24), (.ref 58)]), #[]⟩ (BT.node ⟨(.type PySem.W.SL.s5856160107412720595x4), none, (.fields #[(.str u236 302), (.str u251 303), (.str u164 304), (.int 29 0), (.int 4 0), (.int 0 0), (.int 0 0), (.int 3 0), (.ref 87), (.bool true), (.int 181 0), (.ref 88), .none, (.ref 89), (.ref 90), (.ref 91), (.int 309 0), (.int 29 0), (.str u164 310)]), #[]⟩ (BT.node ⟨(.type PySem.W.SL.s2766695959194262286x5), none, (.seq #[] 0), #[]⟩ (BT.node ⟨(.type PySem.W.SL.s2766695959194262286x5), none, (.seq #[] 0), #[]⟩ BT.nil BT.nil) BT.nil) (BT.node ⟨(.type PySem.W.SL.s5856160107412720595x4), none, (.fields #[(.str u204 526), (.str u204 527), (.str u164 528), (.int 110 0), (.int 4 0), (.int 0 0), (.int 0 0), (.int 3 0), (.ref 217), (.bool true), (.int 181 0), (.ref 218), .none, .none, .none, (.ref 219), (.int 529 0), (.int 110 0), (.str u164 530)]), #[]⟩ (BT.node ⟨.none, none, (.fields #[]), #[]⟩ BT.nil BT.nil) BT.nil)) (BT.node ⟨(.type PySem.W.SL.s2766695959194262286x5), none, (.seq #[(.str u238 357), (.str u256 358), (.str u257 359), (.str u258 360)] 0), #[]⟩ (BT.node ⟨(.type PySem.W.SL.s7174869446012820540x8), none, (.func { name := u188, qualname := u188, params := fP (fnAt p 24), body := .stmts (fB (fnAt p 24)), scope := fS (fnAt p 24), globals := 3, closure := [], defaults := .none, kwdefaults := .none, doc := .none, pyModule := (.str u266 429), annotations := none, code := (.ref 187), closureTuple := .none, builtins := 0 }), #[]⟩ (BT.node ⟨.none, none, (.fields #[(.int 191 0), (.int 4 0), (.ref 324), (.int 194 0), (.int 4 0), (.ref 331)]), #[]⟩ BT.nil BT.nil) BT.nil) (BT.node ⟨(.type PySem.W.SL.s14755015743595814543x17), none, (.fields #[(.str u241 575), (.ref 250), (.builtin PySem.W.SL.s10220274742760427390x26), .none]), #[]⟩ (BT.node ⟨(.type PySem.W.SL.s2766695959194262286x5), none, (.seq #[(.str u306 761), (.str u307 762), (.str u308 763), (.str u309 764), (.str u310 765), (.str u280 766), (.str u246 767), (.str u311 768), (.str u312 769)] 0), #[]⟩ BT.nil BT.nil) BT.nil)))))) (BT.node ⟨(.type PySem.W.SL.s14018661285674007319x4), none, (.dict #[] 0), #[]⟩ (BT.node ⟨(.type PySem.W.SL.s658472552662922059x5), none, .plain, #[(some (.ref 9)), (some (.ref 3)), (some (.ref 3)), none, (some (.str u160 164)), none, (some (.ref 0))]⟩ (BT.node ⟨(.type PySem.W.SL.s2766695959194262286x5), none, (.seq #[] 0), #[]⟩ (BT.node ⟨(.type PySem.W.SL.s5856160107412720595x4), none, (.fields #[(.str u172 218), (.str u172 219), (.str u164 220), (.int 11 0), (.int 0 0), (.int 0 0), (.int 0 0), (.int 0 0), (.ref 32), (.bool false), (.int 181 0), (.ref 33), .none, .none, .none, .none, (.int 221 0), (.int 11 0), (.str u164 222)]), #[]⟩ (BT.node ⟨(.type PySem.W.SL.s5856160107412720595x4), none, (.fields #[(.str u174 263), (.str u174 264), (.str u164 265), (.int 18 0), (.int 0 0), (.int 0 0), (.int 0 0), (.int 0 0), (.ref 64), (.bool false), (.int 181 0), (.ref 65), .none, .none, .none, .none, (.int 266 0), (.int 18 0), (.str u164 267)]), #[]⟩ (BT.node ⟨.none, none, (.fields #[]), #[]⟩ (BT.node ⟨(.type PySem.W.SL.s2766695959194262286x5), none, (.seq #[] 0), #[]⟩ BT.nil BT.nil) (BT.node ⟨.none, none, (.fields #[]), #[]⟩ BT.nil BT.nil)) (BT.node ⟨(.type PySem.W.SL.s5856160107412720595x4), none, (.fields #[(.str u189 449), (.str u189 450), (.str u164 451), (.int 79 0), (.int 4 0), (.int 0 0), (.int 0 0), (.int 3 0), (.ref 189), (.bool true), (.int 181 0), (.ref 190), .none, (.ref 191), (.ref 192), (.ref 193), (.int 459 0), (.int 79 0), (.str u164 460)]), #[]⟩ (BT.node ⟨(.type PySem.W.SL.s2766695959194262286x5), none, (.seq #[] 0), #[]⟩ BT.nil BT.nil) BT.nil)) (BT.node ⟨.none, none, (.func { name := u246, qualname := u252, params := fP (inCls p 10 1), body := .stmts (fB (inCls p 10 1)), scope := fS (inCls p 10 1), globals := 0, closure := [], defaults := .none, kwdefaults := .none, doc := .none, pyModule := .none, annotations := none, code := .none, closureTuple := .none, builtins := 0 }), #[]⟩ (BT.node ⟨(.type PySem.W.SL.s2766695959194262286x5), none, (.seq #[(.str u257 405)] 0), #[]⟩ (BT.node ⟨.none, none, (.func { name := u285, qualname := u297, params := fP (inCls p 47 0), body := .stmts (fB (inCls p 47 0)), scope := fS (inCls p 47 0), globals := 0, closure := [], defaults := .none, kwdefaults := .none, doc := .none, pyModule := .none, annotations := none, code := .none, closureTuple := .none, builtins := 0 }), #[]⟩ BT.nil BT.nil) BT.nil) (BT.node ⟨(.type PySem.W.SL.s7174869446012820540x8), none, (.func { name := u205, qualname := u205, params := fP (fnAt p 42), body := .stmts (fB (fnAt p 42)), scope := fS (fnAt p 42), globals := 3, closure := [], defaults := .none, kwdefaults := .none, doc := .none, pyModule := (.str u284 487), annotations := none, code := (.ref 225), closureTuple := .none, builtins := 0 }), #[]⟩ (BT.node ⟨(.type PySem.W.SL.s2766695959194262286x5), none, (.seq #[] 0), #[]⟩ BT.nil BT.nil) BT.nil))) (BT.node ⟨(.type PySem.W.SL.s11030030927630378310x26), none, (.fields #[(.builtin PySem.W.SL.s10062305145149207511x16), (.type PySem.W.SL.s17162191345867700912x4)]), #[]⟩ (BT.node ⟨(.type PySem.W.SL.s14018661285674007319x4), none, (.dict #[⟨PyData.keyHash P u232, (.str u232 297), (.str u245 288)⟩, ⟨PyData.keyHash P u234, (.str u234 299), (.str u176 298)⟩, ⟨PyData.keyHash P u235, (.str u235 301), (.int 27 300)⟩, ⟨PyData.keyHash P u236, (.str u236 311), (.ref 93)⟩, ⟨PyData.keyHash P u246, (.str u246 320), (.ref 100)⟩, ⟨PyData.keyHash P u247, (.str u247 330), (.ref 107)⟩, ⟨PyData.keyHash P u237, (.str u237 334), (.ref 108)⟩] 7), #[]⟩ (BT.node ⟨(.type PySem.W.SL.s2766695959194262286x5), none, (.seq #[(.str u256 383), (.str u258 384), (.str u257 385)] 0), #[]⟩ (BT.node ⟨(.type PySem.W.SL.s2766695959194262286x5), none, (.seq #[] 0), #[]⟩ BT.nil BT.nil) BT.nil) (BT.node ⟨(.type PySem.W.SL.s2766695959194262286x5), none, (.seq #[] 0), #[]⟩ (BT.node ⟨(.type PySem.W.SL.s4290257624100764138x5), none, (.fields #[(.ref 335), (.ref 335), (.ref 335)]), #[]⟩ BT.nil BT.nil) BT.nil)) (BT.node ⟨(.type PySem.W.SL.s11030030927630378310x26), none, (.fields #[(.builtin PySem.W.SL.s4860613602091757760x24), (.ref 110)]), #[]⟩ (BT.node ⟨.none, none, (.fields #[]), #[]⟩ (BT.node ⟨(.type PySem.W.SL.s14018661285674007319x4), none, (.dict #[⟨PyData.keyHash P u232, (.str u232 632), (.str u289 580)⟩, ⟨PyData.keyHash P u235, (.str u235 636), (.int 178 635)⟩, ⟨PyData.keyHash P u285, (.str u285 642), (.ref 292)⟩, ⟨PyData.keyHash P u212, (.str u212 648), (.ref 297)⟩, ⟨PyData.keyHash P u296, (.str u296 660), (.ref 304)⟩, ⟨PyData.keyHash P u237, (.str u237 661), (.ref 305)⟩, ⟨PyData.keyHash P u255, (.str u255 663), (.ref 308)⟩, ⟨PyData.keyHash P u241, (.str u241 665), (.ref 309)⟩, ⟨PyData.keyHash P u2, (.str u2 666), .none⟩] 4), #[]⟩ BT.nil BT.nil) BT.nil) (BT.node ⟨.none, none, (.fields #[]), #[]⟩ (BT.node ⟨(.type PySem.W.SL.s7174869446012820540x8), none, (.func { name := u215, qualname := u215, params := fP (fnAt p 55), body := .stmts (fB (fnAt p 55)), scope := fS (fnAt p 55), globals := 3, closure := [], defaults := .none, kwdefaults := .none, doc := .none, pyModule := (.str u305 722), annotations := none, code := (.ref 369), closureTuple := .none, builtins := 0 }), #[]⟩ BT.nil BT.nil) BT.nil)))) (BT.node ⟨.none, none, (.func { name := u171, qualname := u171, params := fP (fnAt p 2), body := .stmts (fB (fnAt p 2)), scope := fS (fnAt p 2), globals := 0, closure := [], defaults := .none, kwdefaults := .none, doc := .none, pyModule := .none, annotations := none, code := .none, closureTuple := .none, builtins := 0 }), #[]⟩ (BT.node ⟨(.type PySem.W.SL.s7174869446012820540x8), none, (.func { name := u236, qualname := u240, params := fP (inCls p 4 0), body := .stmts (fB (inCls p 4 0)), scope := fS (inCls p 4 0), globals := 3, closure := [], defaults := .none, kwdefaults := .none, doc := .none, pyModule := (.str u233 214), annotations := none, code := (.ref 41), closureTuple := .none, builtins := 0 }), #[]⟩ (BT.node ⟨.none, none, (.fields #[]), #[]⟩ (BT.node ⟨(.type PySem.W.SL.s7174869446012820540x8), none, (.func { name := u249, qualname := u261, params := fP (inCls p 11 2), body := .stmts (fB (inCls p 11 2)), scope := fS (inCls p 11 2), globals := 3, closure := [], defaults := .none, kwdefaults := .none, doc := .none, pyModule := (.str u245 288), annotations := none, code := (.ref 137), closureTuple := .none, builtins := 0 }), #[]⟩ (BT.node ⟨.none, none, (.func { name := u285, qualname := u294, params := fP (inCls p 46 0), body := .stmts (fB (inCls p 46 0)), scope := fS (inCls p 46 0), globals := 0, closure := [], defaults := .none, kwdefaults := .none, doc := .none, pyModule := .none, annotations := none, code := .none, closureTuple := .none, builtins := 0 }), #[]⟩ BT.nil BT.nil) BT.nil) (BT.node ⟨(.type PySem.W.SL.s7174869446012820540x8), none, (.func { name := u190, qualname := u190, params := fP (fnAt p 26), body := .stmts (fB (fnAt p 26)), scope := fS (fnAt p 26), globals := 3, closure := [], defaults := .none, kwdefaults := .none, doc := .none, pyModule := (.str u266 429), annotations := none, code := (.ref 201), closureTuple := .none, builtins := 0 }), #[]⟩ (BT.node ⟨.none, none, (.func { name := u212, qualname := u301, params := fP (inCls p 48 1), body := .stmts (fB (inCls p 48 1)), scope := fS (inCls p 48 1), globals := 0, closure := [], defaults := .none, kwdefaults := .none, doc := .none, pyModule := .none, annotations := none, code := .none, closureTuple := .none, builtins := 0 }), #[]⟩ BT.nil BT.nil) BT.nil)) (BT.node ⟨(.type PySem.W.SL.s5856160107412720595x4), none, (.fields #[(.str u247 321), (.str u254 322), (.str u164 323), (.int 37 0), (.int 4 0), (.int 0 0), (.int 0 0), (.int 3 0), (.ref 101), (.bool true), (.int 181 0), (.ref 102), .none, (.ref 103), (.ref 104), (.ref 105), (.int 328 0), (.int 37 0), (.str u164 329)]), #[]⟩ (BT.node ⟨(.type PySem.W.SL.s5856160107412720595x4), none, (.fields #[(.str u180 409), (.str u180 410), (.str u164 411), (.int 61 0), (.int 3 0), (.int 0 0), (.int 0 0), (.int 3 0), (.ref 167), (.bool true), (.int 181 0), (.ref 168), .none, .none, .none, (.ref 169), (.int 412 0), (.int 61 0), (.str u164 413)]), #[]⟩ (BT.node ⟨(.type PySem.W.SL.s2766695959194262286x5), none, (.seq #[] 0), #[]⟩ BT.nil BT.nil) BT.nil) (BT.node ⟨(.type PySem.W.SL.s2766695959194262286x5), none, (.seq #[] 0), #[]⟩ (BT.node ⟨.none, none, (.fields #[]), #[]⟩ BT.nil BT.nil) BT.nil))) (BT.node ⟨(.type PySem.W.SL.s17162191345867700912x4), none, (.cls { name := u173, bases := [(.ref 45)], mro := [(.ref 58), (.ref 45), (.type PySem.W.SL.s5946037652744460706x9), (.type PySem.W.SL.s4278001404047624695x13), (.type PySem.W.SL.s2742458400755230247x6)], ns := 57, qualname := u173, hasDict := true, slotNames := [], subclasses := [], abstract := false, collection := none, hasDel := false }), #[(some (.ref 49)), none, (some (.str u173 245)), (some (.str u173 253)), (some (.builtin PySem.W.SL.s5160863994218179198x17)), (some (.bool true))]⟩ (BT.node ⟨(.type PySem.W.SL.s2766695959194262286x5), none, (.seq #[] 0), #[]⟩ (BT.node ⟨.none, none, (.fields #[]), #[]⟩ (BT.node ⟨(.type PySem.W.SL.s11030030927630378310x26), none, (.fields #[(.builtin PySem.W.SL.s10062305145149207511x16), (.type PySem.W.SL.s17162191345867700912x4)]), #[]⟩ BT.nil BT.nil) BT.nil) (BT.node ⟨.none, none, (.fields #[]), #[]⟩ (BT.node ⟨(.type PySem.W.SL.s7174869446012820540x8), none, (.func { name := u211, qualname := u211, params := fP (fnAt p 50), body := .stmts (fB (fnAt p 50)), scope := fS (fnAt p 50), globals := 3, closure := [], defaults := .none, kwdefaults := .none, doc := .none, pyModule := (.str u302 705), annotations := none, code := (.ref 345), closureTuple := .none, builtins := 0 }), #[]⟩ BT.nil BT.nil) BT.nil)) (BT.node ⟨(.type PySem.W.SL.s2766695959194262286x5), none, (.seq #[] 0), #[]⟩ (BT.node ⟨.none, none, (.func { name := u188, qualname := u188, params := fP (fnAt p 24), body := .stmts (fB (fnAt p 24)), scope := fS (fnAt p 24), globals := 0, closure := [], defaults := .none, kwdefaults := .none, doc := .none, pyModule := .none, annotations := none, code := .none, closureTuple := .none, builtins := 0 }), #[]⟩ (BT.node ⟨(.type PySem.W.SL.s14018661285674007319x4), none, (.dict #[⟨PyData.keyHash P u232, (.str u232 676), (.str u289 580)⟩, ⟨PyData.keyHash P u234, (.str u234 678), (.str u210 677)⟩, ⟨PyData.keyHash P u235, (.str u235 680), (.int 189 679)⟩, ⟨PyData.keyHash P u285, (.str u285 688), (.ref 325)⟩, ⟨PyData.keyHash P u212, (.str u212 696), (.ref 332)⟩, ⟨PyData.keyHash P u237, (.str u237 697), (.ref 333)⟩] 6), #[]⟩ BT.nil BT.nil) BT.nil) (BT.node ⟨(.type PySem.W.SL.s17162191345867700912x4), none, (.cls { name := u206, bases := [(.type PySem.W.SL.s2742458400755230247x6)], mro := [(.ref 250), (.type PySem.W.SL.s2742458400755230247x6)], ns := 249, qualname := u206, hasDict := true, slotNames := [], subclasses := [], abstract := false, collection := none, hasDel := false }), #[none, none, (some (.str u206 538)), (some (.str u206 546)), (some (.builtin PySem.W.SL.s11443829558043349243x14)), (some (.bool true))]⟩ (BT.node ⟨(.type PySem.W.SL.s2766695959194262286x5), none, (.seq #[] 0), #[]⟩ BT.nil BT.nil) BT.nil))))) (BT.node ⟨(.type PySem.W.SL.s658472552662922059x5), none, .plain, #[(some (.ref 13)), (some (.ref 3)), (some (.ref 3)), none, (some (.str u160 164)), none, (some (.ref 0))]⟩ (BT.node ⟨(.type PySem.W.SL.s2766695959194262286x5), none, (.seq #[] 0), #[]⟩ (BT.node ⟨(.type PySem.W.SL.s2766695959194262286x5), none, (.seq #[(.str u238 231), (.str u239 232)] 0), #[]⟩ (BT.node ⟨(.type PySem.W.SL.s17162191345867700912x4), none, (.cls { name := u174, bases := [(.ref 45)], mro := [(.ref 70), (.ref 45), (.type PySem.W.SL.s5946037652744460706x9), (.type PySem.W.SL.s4278001404047624695x13), (.type PySem.W.SL.s2742458400755230247x6)], ns := 69, qualname := u174, hasDict := true, slotNames := [], subclasses := [], abstract := false, collection := none, hasDel := false }), #[(some (.ref 61)), none, (some (.str u174 261)), (some (.str u174 269)), (some (.builtin PySem.W.SL.s5160863994218179198x17)), (some (.bool true))]⟩ (BT.node ⟨(.type PySem.W.SL.s2766695959194262286x5), none, (.seq #[] 0), #[]⟩ (BT.node ⟨(.type PySem.W.SL.s2766695959194262286x5), none, (.seq #[] 0), #[]⟩ BT.nil BT.nil) (BT.node ⟨(.type PySem.W.SL.s5856160107412720595x4), none, (.fields #[(.str u218 775), (.str u218 776), (.str u164 777), (.int 252 0), (.int 1 0), (.int 0 0), (.int 0 0), (.int 3 0), (.ref 385), (.bool true), (.int 181 0), (.ref 386), .none, (.ref 387), (.ref 388), (.ref 389), (.int 785 0), (.int 252 0), (.str u164 786)]), #[]⟩ BT.nil BT.nil)) (BT.node ⟨(.type PySem.W.SL.s2766695959194262286x5), none, (.seq #[(.str u274 465), (.str u275 466), (.str u276 467), (.str u277 468), (.str u273 469), (.str u271 470), (.str u272 471), (.str u278 472), (.str u279 473)] 0), #[]⟩ (BT.node ⟨(.type PySem.W.SL.s2766695959194262286x5), none, (.seq #[] 0), #[]⟩ BT.nil BT.nil) BT.nil)) (BT.node ⟨.none, none, (.fields #[]), #[]⟩ (BT.node ⟨(.type PySem.W.SL.s7174869446012820540x8), none, (.func { name := u179, qualname := u179, params := fP (fnAt p 13), body := .stmts (fB (fnAt p 13)), scope := fS (fnAt p 13), globals := 3, closure := [], defaults := .none, kwdefaults := .none, doc := .none, pyModule := (.str u245 288), annotations := none, code := (.ref 165), closureTuple := .none, builtins := 0 }), #[]⟩ (BT.node ⟨.none, none, (.fields #[]), #[]⟩ BT.nil BT.nil) BT.nil) (BT.node ⟨(.type PySem.W.SL.s2766695959194262286x5), none, (.seq #[] 0), #[]⟩ (BT.node ⟨.none, none, (.func { name := u213, qualname := u213, params := fP (fnAt p 53), body := .stmts (fB (fnAt p 53)), scope := fS (fnAt p 53), globals := 0, closure := [], defaults := .none, kwdefaults := .none, doc := .none, pyModule := .none, annotations := none, code := .none, closureTuple := .none, builtins := 0 }), #[]⟩ BT.nil BT.nil) BT.nil))) (BT.node ⟨(.type PySem.W.SL.s5856160107412720595x4), none, (.fields #[(.str u173 247), (.str u173 248), (.str u164 249), (.int 16 0), (.int 0 0), (.int 0 0), (.int 0 0), (.int 0 0), (.ref 52), (.bool false), (.int 181 0), (.ref 53), .none, .none, .none, .none, (.int 250 0), (.int 16 0), (.str u164 251)]), #[]⟩ (BT.node ⟨(.type PySem.W.SL.s658472552662922059x5), none, .plain, #[(some (.ref 85)), (some (.ref 3)), (some (.ref 82)), none, (some (.str u245 288)), none, (some (.ref 0))]⟩ (BT.node ⟨(.type PySem.W.SL.s14755015743595814543x17), none, (.fields #[(.str u241 389), (.ref 148), (.builtin PySem.W.SL.s10220274742760427390x26), .none]), #[]⟩ (BT.node ⟨(.type PySem.W.SL.s14755015743595814543x17), none, (.fields #[(.str u241 620), (.ref 276), (.builtin PySem.W.SL.s10220274742760427390x26), .none]), #[]⟩ BT.nil BT.nil) BT.nil) (BT.node ⟨.none, none, (.func { name := u203, qualname := u203, params := fP (fnAt p 40), body := .stmts (fB (fnAt p 40)), scope := fS (fnAt p 40), globals := 0, closure := [], defaults := .none, kwdefaults := .none, doc := .none, pyModule := .none, annotations := none, code := .none, closureTuple := .none, builtins := 0 }), #[]⟩ (BT.node ⟨(.type PySem.W.SL.s2766695959194262286x5), none, (.seq #[(.str u226 710)] 0), #[]⟩ BT.nil BT.nil) BT.nil)) (BT.node ⟨(.type PySem.W.SL.s2766695959194262286x5), none, (.seq #[] 0), #[]⟩ (BT.node ⟨(.type PySem.W.SL.s2766695959194262286x5), none, (.seq #[] 0), #[]⟩ (BT.node ⟨(.type PySem.W.SL.s4290257624100764138x5), none, (.fields #[(.ref 307), (.ref 307), (.ref 307)]), #[]⟩ BT.nil BT.nil) BT.nil) (BT.node ⟨(.type PySem.W.SL.s5856160107412720595x4), none, (.fields #[(.str u212 561), (.str u288 562), (.str u164 563), (.int 138 0), (.int 2 0), (.int 0 0), (.int 0 0), (.int 3 0), (.ref 241), (.bool true), (.int 181 0), (.ref 242), .none, (.ref 243), (.ref 244), (.ref 245), (.int 569 0), (.int 138 0), (.str u164 570)]), #[]⟩ (BT.node ⟨(.type PySem.W.SL.s2766695959194262286x5), none, (.seq #[] 0), #[]⟩ BT.nil BT.nil) BT.nil)))) (BT.node ⟨(.type PySem.W.SL.s11030030927630378310x26), none, (.fields #[(.builtin PySem.W.SL.s10062305145149207511x16), (.type PySem.W.SL.s17162191345867700912x4)]), #[]⟩ (BT.node ⟨(.type PySem.W.SL.s14755015743595814543x17), none, (.fields #[(.str u241 238), (.ref 45), (.builtin PySem.W.SL.s10220274742760427390x26), .none]), #[]⟩ (BT.node ⟨(.type PySem.W.SL.s5856160107412720595x4), none, (.fields #[(.str u175 279), (.str u175 280), (.str u164 281), (.int 21 0), (.int 2 0), (.int 0 0), (.int 0 0), (.int 3 0), (.ref 73), (.bool true), (.int 181 0), (.ref 74), .none, (.ref 75), (.ref 76), (.ref 77), (.int 285 0), (.int 21 0), (.str u164 286)]), #[]⟩ (BT.node ⟨(.type PySem.W.SL.s2766695959194262286x5), none, (.seq #[] 0), #[]⟩ (BT.node ⟨.none, none, (.fields #[]), #[]⟩ BT.nil BT.nil) BT.nil) (BT.node ⟨(.type PySem.W.SL.s2766695959194262286x5), none, (.seq #[] 0), #[]⟩ (BT.node ⟨(.type PySem.W.SL.s14018661285674007319x4), none, (.dict #[⟨PyData.keyHash P u232, (.str u232 676), (.str u289 580)⟩, ⟨PyData.keyHash P u235, (.str u235 680), (.int 189 679)⟩, ⟨PyData.keyHash P u285, (.str u285 688), (.ref 325)⟩, ⟨PyData.keyHash P u212, (.str u212 696), (.ref 332)⟩, ⟨PyData.keyHash P u237, (.str u237 697), (.ref 333)⟩, ⟨PyData.keyHash P u255, (.str u255 699), (.ref 336)⟩, ⟨PyData.keyHash P u241, (.str u241 701), (.ref 337)⟩, ⟨PyData.keyHash P u2, (.str u2 702), .none⟩] 4), #[]⟩ BT.nil BT.nil) BT.nil)) (BT.node ⟨(.type PySem.W.SL.s17162191345867700912x4), none, (.cls { name := u176, bases := [(.type PySem.W.SL.s2742458400755230247x6)], mro := [(.ref 110), (.type PySem.W.SL.s2742458400755230247x6)], ns := 109, qualname := u176, hasDict := true, slotNames := [], subclasses := [], abstract := false, collection := none, hasDel := false }), #[none, none, (some (.str u176 290)), (some (.str u176 298)), (some (.builtin PySem.W.SL.s11443829558043349243x14)), (some (.bool true))]⟩ (BT.node ⟨.none, none, (.func { name := u181, qualname := u181, params := fP (fnAt p 15), body := .stmts (fB (fnAt p 15)), scope := fS (fnAt p 15), globals := 0, closure := [], defaults := .none, kwdefaults := .none, doc := .none, pyModule := .none, annotations := none, code := .none, closureTuple := .none, builtins := 0 }), #[]⟩ (BT.node ⟨.none, none, (.func { name := u296, qualname := u299, params := fP (inCls p 47 2), body := .stmts (fB (inCls p 47 2)), scope := fS (inCls p 47 2), globals := 0, closure := [], defaults := .none, kwdefaults := .none, doc := .none, pyModule := .none, annotations := none, code := .none, closureTuple := .none, builtins := 0 }), #[]⟩ BT.nil BT.nil) BT.nil) (BT.node ⟨.none, none, (.func { name := u285, qualname := u287, params := fP (inCls p 43 0), body := .stmts (fB (inCls p 43 0)), scope := fS (inCls p 43 0), globals := 0, closure := [], defaults := .none, kwdefaults := .none, doc := .none, pyModule := .none, annotations := none, code := .none, closureTuple := .none, builtins := 0 }), #[]⟩ (BT.node ⟨(.type PySem.W.SL.s2766695959194262286x5), none, (.seq #[] 0), #[]⟩ BT.nil BT.nil) BT.nil))) (BT.node ⟨(.type PySem.W.SL.s11030030927630378310x26), none, (.fields #[(.builtin PySem.W.SL.s10062305145149207511x16), (.type PySem.W.SL.s17162191345867700912x4)]), #[]⟩ (BT.node ⟨(.type PySem.W.SL.s2766695959194262286x5), none, (.seq #[] 0), #[]⟩ (BT.node ⟨(.type PySem.W.SL.s5856160107412720595x4), none, (.fields #[(.str u178 394), (.str u178 395), (.str u164 396), (.int 55 0), (.int 2 0), (.int 0 0), (.int 0 0), (.int 3 0), (.ref 153), (.bool true), (.int 181 0), (.ref 154), .none, (.ref 155), (.ref 156), (.ref 157), (.int 399 0), (.int 55 0), (.str u164 400)]), #[]⟩ (BT.node ⟨(.type PySem.W.SL.s5856160107412720595x4), none, (.fields #[(.str u209 627), (.str u209 628), (.str u164 629), (.int 178 0), (.int 0 0), (.int 0 0), (.int 0 0), (.int 0 0), (.ref 284), (.bool false), (.int 181 0), (.ref 285), .none, .none, .none, .none, (.int 630 0), (.int 178 0), (.str u164 631)]), #[]⟩ BT.nil BT.nil) BT.nil) (BT.node ⟨(.type PySem.W.SL.s2766695959194262286x5), none, (.seq #[] 0), #[]⟩ (BT.node ⟨(.type PySem.W.SL.s2766695959194262286x5), none, (.seq #[] 0), #[]⟩ BT.nil BT.nil) BT.nil)) (BT.node ⟨.none, none, (.func { name := u236, qualname := u259, params := fP (inCls p 11 0), body := .stmts (fB (inCls p 11 0)), scope := fS (inCls p 11 0), globals := 0, closure := [], defaults := .none, kwdefaults := .none, doc := .none, pyModule := .none, annotations := none, code := .none, closureTuple := .none, builtins := 0 }), #[]⟩ (BT.node ⟨.none, none, (.fields #[]), #[]⟩ (BT.node ⟨(.type PySem.W.SL.s658472552662922059x5), none, .plain, #[(some (.ref 317)), (some (.ref 3)), (some (.ref 314)), none, (some (.str u289 580)), none, (some (.ref 0))]⟩ BT.nil BT.nil) BT.nil) (BT.node ⟨(.type PySem.W.SL.s11030030927630378310x26), none, (.fields #[(.builtin PySem.W.SL.s4860613602091757760x24), (.ref 250)]), #[]⟩ (BT.node ⟨.none, none, (.func { name := u217, qualname := u217, params := fP (fnAt p 57), body := .stmts (fB (fnAt p 57)), scope := fS (fnAt p 57), globals := 0, closure := [], defaults := .none, kwdefaults := .none, doc := .none, pyModule := .none, annotations := none, code := .none, closureTuple := .none, builtins := 0 }), #[]⟩ BT.nil BT.nil) BT.nil))))))))
noncomputable def tB (p : Program) (P : Params) : BT := (BT.node ⟨(.type PySem.W.SL.s14018661285674007319x4), none, (.dict #[⟨PyData.keyHash P u0, (.str u0 1), (.str u1 160)⟩, ⟨PyData.keyHash P u2, (.str u2 2), (.builtin "builtins.__doc__:str#opaque")⟩, ⟨PyData.keyHash P u3, (.str u3 3), (.builtin "builtins.__package__:str#opaque")⟩, ⟨PyData.keyHash P u4, (.str u4 4), (.builtin "builtins.__loader__:shared#opaque")⟩, ⟨PyData.keyHash P u5, (.str u5 5), (.builtin PySem.W.SL.s11665532747177232413x24)⟩, ⟨PyData.keyHash P u6, (.str u6 6), (.builtin PySem.W.SL.s15183661809925369436x15)⟩, ⟨PyData.keyHash P u7, (.str u7 7), (.builtin PySem.W.SL.s13915890719876406383x10)⟩, ⟨PyData.keyHash P u8, (.str u8 8), (.builtin PySem.W.SL.s13459172003223722735x3)⟩, ⟨PyData.keyHash P u9, (.str u9 9), (.builtin PySem.W.SL.s10557405761357834076x3)⟩, ⟨PyData.keyHash P u10, (.str u10 10), (.builtin PySem.W.SL.s4233737765568776869x3)⟩, ⟨PyData.keyHash P u11, (.str u11 11), (.builtin PySem.W.SL.s2508922471967985374x5)⟩, ⟨PyData.keyHash P u12, (.str u12 12), (.builtin PySem.W.SL.s15574269061696679450x3)⟩, ⟨PyData.keyHash P u13, (.str u13 13), (.builtin PySem.W.SL.s6016482663378992977x10)⟩, ⟨PyData.keyHash P u14, (.str u14 14), (.builtin PySem.W.SL.s5596568736180474577x8)⟩, ⟨PyData.keyHash P u15, (.str u15 15), (.builtin PySem.W.SL.s2839554839881490554x3)⟩, ⟨PyData.keyHash P u16, (.str u16 16), (.builtin PySem.W.SL.s725004073602090463x7)⟩, ⟨PyData.keyHash P u17, (.str u17 17), (.builtin PySem.W.SL.s9436932552931045734x7)⟩, ⟨PyData.keyHash P u18, (.str u18 18), (.builtin PySem.W.SL.s2754603736356183583x3)⟩, ⟨PyData.keyHash P u19, (.str u19 19), (.builtin PySem.W.SL.s15185746759980889043x6)⟩, ⟨PyData.keyHash P u20, (.str u20 20), (.builtin PySem.W.SL.s8192189862530294059x4)⟩, ⟨PyData.keyHash P u21, (.str u21 21), (.builtin PySem.W.SL.s7038307821325472102x4)⟩, ⟨PyData.keyHash P u22, (.str u22 22), (.builtin PySem.W.SL.s5662562618415449548x6)⟩, ⟨PyData.keyHash P u23, (.str u23 23), (.builtin PySem.W.SL.s15281542589158584767x7)⟩, ⟨PyData.keyHash P u24, (.str u24 24), (.builtin PySem.W.SL.s17651547275483570877x7)⟩, ⟨PyData.keyHash P u25, (.str u25 25), (.builtin PySem.W.SL.s4036449017235975746x7)⟩, ⟨PyData.keyHash P u26, (.str u26 26), (.builtin PySem.W.SL.s8879979712987360175x4)⟩, ⟨PyData.keyHash P u27, (.str u27 27), (.builtin PySem.W.SL.s1801250619170735830x3)⟩, ⟨PyData.keyHash P u28, (.str u28 28), (.builtin PySem.W.SL.s17659931425627118568x2)⟩, ⟨PyData.keyHash P u29, (.str u29 29), (.builtin PySem.W.SL.s6063217899685152688x5)⟩, ⟨PyData.keyHash P u30, (.str u30 30), (.builtin PySem.W.SL.s8008927332132565319x10)⟩, ⟨PyData.keyHash P u31, (.str u31 31), (.builtin PySem.W.SL.s3544116645089599534x10)⟩, ⟨PyData.keyHash P u32, (.str u32 32), (.builtin PySem.W.SL.s13761710972054866084x4)⟩, ⟨PyData.keyHash P u33, (.str u33 33), (.builtin PySem.W.SL.s12896375587409280029x5)⟩, ⟨PyData.keyHash P u34, (.str u34 34), (.builtin PySem.W.SL.s13014049009108672802x3)⟩, ⟨PyData.keyHash P u35, (.str u35 35), (.builtin PySem.W.SL.s13935586738268321596x6)⟩, ⟨PyData.keyHash P u36, (.str u36 36), (.builtin PySem.W.SL.s8200498257699607233x3)⟩, ⟨PyData.keyHash P u37, (.str u37 37), (.builtin PySem.W.SL.s14114244577727609259x3)⟩, ⟨PyData.keyHash P u38, (.str u38 38), (.builtin PySem.W.SL.s1499430450269397089x4)⟩, ⟨PyData.keyHash P u39, (.str u39 39), (.builtin PySem.W.SL.s8755793994789770505x5)⟩, ⟨PyData.keyHash P u40, (.str u40 40), (.builtin PySem.W.SL.s15725212667919936108x3)⟩, ⟨PyData.keyHash P u41, (.str u41 41), (.builtin PySem.W.SL.s15791221867095933363x3)⟩, ⟨PyData.keyHash P u42, (.str u42 42), (.builtin PySem.W.SL.s81309575031448614x3)⟩, ⟨PyData.keyHash P u43, (.str u43 43), (.builtin PySem.W.SL.s8069831620301644142x5)⟩, ⟨PyData.keyHash P u44, (.str u44 44), (.builtin PySem.W.SL.s10061844253413749634x4)⟩, ⟨PyData.keyHash P u45, (.str u45 45), (.builtin PySem.W.SL.s9496514870978017513x5)⟩, ⟨PyData.keyHash P u46, (.str u46 46), (.builtin PySem.W.SL.s8899691144933366716x7)⟩, ⟨PyData.keyHash P u47, (.str u47 47), (.builtin PySem.W.SL.s15201008993051130160x6)⟩, ⟨PyData.keyHash P u48, (.str u48 48), (.builtin PySem.W.SL.s741896355592496720x3)⟩, ⟨PyData.keyHash P u49, (.str u49 49), (.builtin PySem.W.SL.s17925004256654032244x4)⟩, ⟨PyData.keyHash P u50, (.str u50 50), .none⟩, ⟨PyData.keyHash P u51, (.str u51 51), .ellipsis⟩, ⟨PyData.keyHash P u52, (.str u52 52), .notImplemented⟩, ⟨PyData.keyHash P u53, (.str u53 53), (.bool false)⟩, ⟨PyData.keyHash P u54, (.str u54 54), (.bool true)⟩, ⟨PyData.keyHash P u55, (.str u55 55), (.type PySem.W.SL.s11695548795398191787x4)⟩, ⟨PyData.keyHash P u56, (.str u56 56), (.type PySem.W.SL.s4156966113859768872x10)⟩, ⟨PyData.keyHash P u57, (.str u57 57), (.type PySem.W.SL.s9501651726347032510x9)⟩, ⟨PyData.keyHash P u58, (.str u58 58), (.type PySem.W.SL.s15722918466584999320x5)⟩, ⟨PyData.keyHash P u59, (.str u59 59), (.type PySem.W.SL.s591115383303110208x11)⟩, ⟨PyData.keyHash P u60, (.str u60 60), (.type PySem.W.SL.s15721156781594690315x7)⟩, ⟨PyData.keyHash P u61, (.str u61 61), (.type PySem.W.SL.s14018661285674007319x4)⟩, ⟨PyData.keyHash P u62, (.str u62 62), (.type PySem.W.SL.s14340494229221121180x9)⟩, ⟨PyData.keyHash P u63, (.str u63 63), (.type PySem.W.SL.s13429844117177748173x6)⟩, ⟨PyData.keyHash P u64, (.str u64 64), (.type PySem.W.SL.s16463266125957815391x5)⟩, ⟨PyData.keyHash P u65, (.str u65 65), (.type PySem.W.SL.s4922535414793169389x9)⟩, ⟨PyData.keyHash P u66, (.str u66 66), (.type PySem.W.SL.s8101838861749082086x8)⟩, ⟨PyData.keyHash P u67, (.str u67 67), (.type PySem.W.SL.s7066276694103001551x3)⟩, ⟨PyData.keyHash P u68, (.str u68 68), (.type PySem.W.SL.s9222952809800978799x4)⟩, ⟨PyData.keyHash P u69, (.str u69 69), (.type PySem.W.SL.s462964344163437139x3)⟩, ⟨PyData.keyHash P u70, (.str u70 70), (.type PySem.W.SL.s2742458400755230247x6)⟩, ⟨PyData.keyHash P u71, (.str u71 71), (.type PySem.W.SL.s1438033511350832697x5)⟩, ⟨PyData.keyHash P u72, (.str u72 72), (.type PySem.W.SL.s14365286008749172514x8)⟩, ⟨PyData.keyHash P u73, (.str u73 73), (.type PySem.W.SL.s3642769012341782148x3)⟩, ⟨PyData.keyHash P u74, (.str u74 74), (.type PySem.W.SL.s4674234679698826739x5)⟩, ⟨PyData.keyHash P u75, (.str u75 75), (.type PySem.W.SL.s16656946322747308186x12)⟩, ⟨PyData.keyHash P u76, (.str u76 76), (.type PySem.W.SL.s10796804682411823810x3)⟩, ⟨PyData.keyHash P u77, (.str u77 77), (.type PySem.W.SL.s4290257624100764138x5)⟩, ⟨PyData.keyHash P u78, (.str u78 78), (.type PySem.W.SL.s2766695959194262286x5)⟩, ⟨PyData.keyHash P u79, (.str u79 79), (.type PySem.W.SL.s17162191345867700912x4)⟩, ⟨PyData.keyHash P u80, (.str u80 80), (.type PySem.W.SL.s14339709457334898076x3)⟩, ⟨PyData.keyHash P u81, (.str u81 81), (.bool true)⟩, ⟨PyData.keyHash P u82, (.str u82 82), (.type PySem.W.SL.s4278001404047624695x13)⟩, ⟨PyData.keyHash P u83, (.str u83 83), (.type PySem.W.SL.s6585700554429387442x18)⟩, ⟨PyData.keyHash P u84, (.str u84 84), (.type PySem.W.SL.s5946037652744460706x9)⟩, ⟨PyData.keyHash P u85, (.str u85 85), (.type PySem.W.SL.s7410770068591931388x13)⟩, ⟨PyData.keyHash P u86, (.str u86 86), (.type PySem.W.SL.s11817881795495490833x17)⟩, ⟨PyData.keyHash P u87, (.str u87 87), (.type PySem.W.SL.s15679963881808890155x10)⟩, ⟨PyData.keyHash P u88, (.str u88 88), (.type PySem.W.SL.s3871700062485845797x15)⟩, ⟨PyData.keyHash P u89, (.str u89 89), (.type PySem.W.SL.s7689518266570723881x14)⟩, ⟨PyData.keyHash P u90, (.str u90 90), (.type PySem.W.SL.s9001593270443806431x14)⟩, ⟨PyData.keyHash P u91, (.str u91 91), (.type PySem.W.SL.s6882542574934516792x11)⟩, ⟨PyData.keyHash P u92, (.str u92 92), (.type PySem.W.SL.s14403400214490484960x8)⟩, ⟨PyData.keyHash P u93, (.str u93 93), (.type PySem.W.SL.s14457978657717015782x11)⟩, ⟨PyData.keyHash P u94, (.str u94 94), (.type PySem.W.SL.s1753610191782819921x11)⟩, ⟨PyData.keyHash P u95, (.str u95 95), (.type PySem.W.SL.s14119380538032626715x11)⟩, ⟨PyData.keyHash P u96, (.str u96 96), (.type PySem.W.SL.s11437920000406562045x9)⟩, ⟨PyData.keyHash P u97, (.str u97 97), (.type PySem.W.SL.s10852414792293593619x7)⟩, ⟨PyData.keyHash P u98, (.str u98 98), (.type PySem.W.SL.s14816307405966870543x14)⟩, ⟨PyData.keyHash P u99, (.str u99 99), (.type PySem.W.SL.s8682627914449686677x12)⟩, ⟨PyData.keyHash P u100, (.str u100 100), (.type PySem.W.SL.s4428170145600203450x18)⟩, ⟨PyData.keyHash P u101, (.str u101 101), (.type PySem.W.SL.s5991306692159431302x13)⟩, ⟨PyData.keyHash P u102, (.str u102 102), (.type PySem.W.SL.s16067994140765818257x11)⟩, ⟨PyData.keyHash P u103, (.str u103 103), (.type PySem.W.SL.s2327743974964600596x11)⟩, ⟨PyData.keyHash P u104, (.str u104 104), (.type PySem.W.SL.s2804747833354056582x9)⟩, ⟨PyData.keyHash P u105, (.str u105 105), (.type PySem.W.SL.s6070975301684473832x10)⟩, ⟨PyData.keyHash P u106, (.str u106 106), (.type PySem.W.SL.s14270485950484850486x7)⟩, ⟨PyData.keyHash P u107, (.str u107 107), (.type PySem.W.SL.s12041534306414923332x18)⟩, ⟨PyData.keyHash P u108, (.str u108 108), (.type PySem.W.SL.s2531307568338490285x13)⟩, ⟨PyData.keyHash P u109, (.str u109 109), (.type PySem.W.SL.s631175304937289666x17)⟩, ⟨PyData.keyHash P u110, (.str u110 110), (.type PySem.W.SL.s5144983644357021410x12)⟩, ⟨PyData.keyHash P u111, (.str u111 111), (.type PySem.W.SL.s18039099521571816885x18)⟩, ⟨PyData.keyHash P u112, (.str u112 112), (.type PySem.W.SL.s6011586214260557989x15)⟩, ⟨PyData.keyHash P u113, (.str u113 113), (.type PySem.W.SL.s5430567037509283100x13)⟩, ⟨PyData.keyHash P u114, (.str u114 114), (.type PySem.W.SL.s8117915138073963741x13)⟩, ⟨PyData.keyHash P u115, (.str u115 115), (.type PySem.W.SL.s3423317712779056401x25)⟩, ⟨PyData.keyHash P u116, (.str u116 116), (.type PySem.W.SL.s2007317383269046180x15)⟩, ⟨PyData.keyHash P u117, (.str u117 117), (.type PySem.W.SL.s17481586968713580700x14)⟩, ⟨PyData.keyHash P u118, (.str u118 118), (.type PySem.W.SL.s2450899226349176912x13)⟩, ⟨PyData.keyHash P u119, (.str u119 119), (.type PySem.W.SL.s16626165730633575011x14)⟩, ⟨PyData.keyHash P u120, (.str u120 120), (.type PySem.W.SL.s14288496050688921416x11)⟩, ⟨PyData.keyHash P u121, (.str u121 121), (.type PySem.W.SL.s5735081916595925998x15)⟩, ⟨PyData.keyHash P u122, (.str u122 122), (.type PySem.W.SL.s3865607918536308442x17)⟩, ⟨PyData.keyHash P u123, (.str u123 123), (.type PySem.W.SL.s13337502604062700212x15)⟩, ⟨PyData.keyHash P u124, (.str u124 124), (.type PySem.W.SL.s13114017843053701147x15)⟩, ⟨PyData.keyHash P u125, (.str u125 125), (.type PySem.W.SL.s17467278006356818441x17)⟩, ⟨PyData.keyHash P u126, (.str u126 126), (.type PySem.W.SL.s17722149559621369488x16)⟩, ⟨PyData.keyHash P u127, (.str u127 127), (.type PySem.W.SL.s7855274175708717672x17)⟩, ⟨PyData.keyHash P u128, (.str u128 128), (.type PySem.W.SL.s13351283678309829046x18)⟩, ⟨PyData.keyHash P u129, (.str u129 129), (.type PySem.W.SL.s6668348653404991179x15)⟩, ⟨PyData.keyHash P u130, (.str u130 130), (.type PySem.W.SL.s12913350958174193794x18)⟩, ⟨PyData.keyHash P u131, (.str u131 131), (.type PySem.W.SL.s16115879512475548326x12)⟩, ⟨PyData.keyHash P u132, (.str u132 132), (.type PySem.W.SL.s15920661018069861047x16)⟩, ⟨PyData.keyHash P u133, (.str u133 133), (.type PySem.W.SL.s10779130036587390575x21)⟩, ⟨PyData.keyHash P u134, (.str u134 134), (.type PySem.W.SL.s7801419657504700863x10)⟩, ⟨PyData.keyHash P u135, (.str u135 135), (.type PySem.W.SL.s1688129525768580628x8)⟩, ⟨PyData.keyHash P u136, (.str u136 136), (.type PySem.W.SL.s1031832959479892071x19)⟩, ⟨PyData.keyHash P u137, (.str u137 137), (.type PySem.W.SL.s8991790508128307865x19)⟩, ⟨PyData.keyHash P u138, (.str u138 138), (.type PySem.W.SL.s14539662485746970245x23)⟩, ⟨PyData.keyHash P u139, (.str u139 139), (.type PySem.W.SL.s11643622729373238714x14)⟩, ⟨PyData.keyHash P u140, (.str u140 140), (.type PySem.W.SL.s3386828779285465597x17)⟩, ⟨PyData.keyHash P u141, (.str u141 141), (.type PySem.W.SL.s13042696260734638735x12)⟩, ⟨PyData.keyHash P u142, (.str u142 142), (.type PySem.W.SL.s18239426817015966623x15)⟩, ⟨PyData.keyHash P u143, (.str u143 143), (.type PySem.W.SL.s1270395311379034370x22)⟩, ⟨PyData.keyHash P u144, (.str u144 144), (.type PySem.W.SL.s10696252587037064777x22)⟩, ⟨PyData.keyHash P u145, (.str u145 145), (.type PySem.W.SL.s7852717498200857586x20)⟩, ⟨PyData.keyHash P u146, (.str u146 146), (.type PySem.W.SL.s6377248116197321094x8)⟩, ⟨PyData.keyHash P u147, (.str u147 147), (.type PySem.W.SL.s3834378056692298002x18)⟩, ⟨PyData.keyHash P u148, (.str u148 148), (.type PySem.W.SL.s17586630440231065808x18)⟩, ⟨PyData.keyHash P u149, (.str u149 149), (.type PySem.W.SL.s15234114252648025395x21)⟩, ⟨PyData.keyHash P u150, (.str u150 150), (.type PySem.W.SL.s8496462677383758984x14)⟩, ⟨PyData.keyHash P u151, (.str u151 151), (.type PySem.W.SL.s10852414792293593619x7)⟩, ⟨PyData.keyHash P u152, (.str u152 152), (.type PySem.W.SL.s10852414792293593619x7)⟩, ⟨PyData.keyHash P u153, (.str u153 153), (.builtin PySem.W.SL.s16789243406116112673x4)⟩, ⟨PyData.keyHash P u154, (.str u154 154), (.builtin PySem.W.SL.s14400166428656793546x20)⟩, ⟨PyData.keyHash P u155, (.str u155 155), (.builtin PySem.W.SL.s5857708277339239366x20)⟩, ⟨PyData.keyHash P u156, (.str u156 156), (.builtin "builtins.copyright#opaque")⟩, ⟨PyData.keyHash P u157, (.str u157 157), (.builtin "builtins.credits#opaque")⟩, ⟨PyData.keyHash P u158, (.str u158 158), (.builtin "builtins.license#opaque")⟩, ⟨PyData.keyHash P u159, (.str u159 159), (.builtin PySem.W.SL.s7804999707787243718x20)⟩] 159), #[]⟩ (BT.node ⟨(.type PySem.W.SL.s14018661285674007319x4), none, (.dict #[⟨PyData.keyHash P u1, (.str u1 162), (.ref 4)⟩, ⟨PyData.keyHash P u160, (.str u160 163), (.ref 5)⟩] 2), #[]⟩ (BT.node ⟨(.type PySem.W.SL.s14018661285674007319x4), none, (.dict #[⟨PyData.keyHash P u0, (.str u0 165), (.str u169 773)⟩, ⟨PyData.keyHash P u2, (.str u2 166), .none⟩, ⟨PyData.keyHash P u3, (.str u3 167), .none⟩, ⟨PyData.keyHash P u4, (.str u4 168), (.builtin PySem.W.SL.s7097527257260152453x26)⟩, ⟨PyData.keyHash P u5, (.str u5 169), .none⟩, ⟨PyData.keyHash P u161, (.str u161 170), (.ref 6)⟩, ⟨PyData.keyHash P u162, (.str u162 171), (.ref 4)⟩, ⟨PyData.keyHash P u163, (.str u163 173), (.str u164 172)⟩, ⟨PyData.keyHash P u165, (.str u165 174), .none⟩, ⟨PyData.keyHash P u170, (.str u170 196), (.ref 21)⟩, ⟨PyData.keyHash P u171, (.str u171 213), (.ref 28)⟩, ⟨PyData.keyHash P u172, (.str u172 244), (.ref 45)⟩, ⟨PyData.keyHash P u173, (.str u173 260), (.ref 58)⟩, ⟨PyData.keyHash P u174, (.str u174 276), (.ref 70)⟩, ⟨PyData.keyHash P u175, (.str u175 287), (.ref 79)⟩, ⟨PyData.keyHash P u176, (.str u176 341), (.ref 110)⟩, ⟨PyData.keyHash P u177, (.str u177 393), (.ref 148)⟩, ⟨PyData.keyHash P u178, (.str u178 401), (.ref 159)⟩, ⟨PyData.keyHash P u179, (.str u179 408), (.ref 166)⟩, ⟨PyData.keyHash P u180, (.str u180 414), (.ref 171)⟩, ⟨PyData.keyHash P u181, (.str u181 420), (.ref 176)⟩, ⟨PyData.keyHash P u182, (.str u182 428), (.ref 181)⟩, ⟨PyData.keyHash P u183, (.str u183 432), (.int 13 431)⟩, ⟨PyData.keyHash P u184, (.str u184 434), (.int 2 433)⟩, ⟨PyData.keyHash P u185, (.str u185 436), (.int 4433 435)⟩, ⟨PyData.keyHash P u186, (.str u186 438), (.int 6270 437)⟩, ⟨PyData.keyHash P u187, (.str u187 440), (.int 15137 439)⟩, ⟨PyData.keyHash P u188, (.str u188 448), (.ref 188)⟩, ⟨PyData.keyHash P u189, (.str u189 461), (.ref 195)⟩, ⟨PyData.keyHash P u190, (.str u190 476), (.ref 202)⟩, ⟨PyData.keyHash P u191, (.str u191 486), (.ref 209)⟩, ⟨PyData.keyHash P u192, (.str u192 490), (.int 8 489)⟩, ⟨PyData.keyHash P u193, (.str u193 492), (.int 3 491)⟩, ⟨PyData.keyHash P u194, (.str u194 494), (.int 2446 493)⟩, ⟨PyData.keyHash P u195, (.str u195 496), (.int 3196 495)⟩, ⟨PyData.keyHash P u196, (.str u196 498), (.int 7373 497)⟩, ⟨PyData.keyHash P u197, (.str u197 500), (.int 9633 499)⟩, ⟨PyData.keyHash P u198, (.str u198 502), (.int 12299 501)⟩, ⟨PyData.keyHash P u199, (.str u199 504), (.int 16069 503)⟩, ⟨PyData.keyHash P u200, (.str u200 506), (.int 16819 505)⟩, ⟨PyData.keyHash P u201, (.str u201 508), (.int 20995 507)⟩, ⟨PyData.keyHash P u202, (.str u202 510), (.int 25172 509)⟩, ⟨PyData.keyHash P u203, (.str u203 525), (.ref 216)⟩, ⟨PyData.keyHash P u204, (.str u204 531), (.ref 221)⟩, ⟨PyData.keyHash P u205, (.str u205 537), (.ref 226)⟩, ⟨PyData.keyHash P u206, (.str u206 579), (.ref 250)⟩, ⟨PyData.keyHash P u207, (.str u207 583), (.int 4 582)⟩, ⟨PyData.keyHash P u208, (.str u208 624), (.ref 276)⟩, ⟨PyData.keyHash P u209, (.str u209 668), (.ref 307)⟩, ⟨PyData.keyHash P u210, (.str u210 704), (.ref 335)⟩, ⟨PyData.keyHash P u211, (.str u211 713), (.ref 346)⟩, ⟨PyData.keyHash P u212, (.str u212 721), (.ref 353)⟩, ⟨PyData.keyHash P u213, (.str u213 735), (.ref 360)⟩, ⟨PyData.keyHash P u214, (.str u214 741), (.ref 365)⟩, ⟨PyData.keyHash P u215, (.str u215 747), (.ref 370)⟩, ⟨PyData.keyHash P u216, (.str u216 757), (.ref 377)⟩, ⟨PyData.keyHash P u217, (.str u217 772), (.ref 384)⟩, ⟨PyData.keyHash P u218, (.str u218 787), (.ref 391)⟩, ⟨PyData.keyHash P u315, (.str u315 1380), (.ref 609)⟩] 59), #[]⟩ (BT.node ⟨(.type PySem.W.SL.s2766695959194262286x5), none, (.seq #[] 0), #[]⟩ (BT.node ⟨(.type PySem.W.SL.s2766695959194262286x5), none, (.seq #[] 0), #[]⟩ (BT.node ⟨(.type PySem.W.SL.s14018661285674007319x4), none, (.dict #[⟨PyData.keyHash P u232, (.str u232 223), (.str u233 214)⟩, ⟨PyData.keyHash P u234, (.str u234 225), (.str u172 224)⟩, ⟨PyData.keyHash P u235, (.str u235 227), (.int 11 226)⟩, ⟨PyData.keyHash P u236, (.str u236 235), (.ref 42)⟩, ⟨PyData.keyHash P u237, (.str u237 237), (.ref 43)⟩] 5), #[]⟩ (BT.node ⟨(.type PySem.W.SL.s14018661285674007319x4), none, (.dict #[⟨PyData.keyHash P u232, (.str u232 268), (.str u233 214)⟩, ⟨PyData.keyHash P u234, (.str u234 270), (.str u174 269)⟩, ⟨PyData.keyHash P u235, (.str u235 272), (.int 18 271)⟩, ⟨PyData.keyHash P u237, (.str u237 273), (.ref 68)⟩] 4), #[]⟩ (BT.node ⟨(.type PySem.W.SL.s5856160107412720595x4), none, (.fields #[(.str u236 354), (.str u259 355), (.str u164 356), (.int 42 0), (.int 4 0), (.int 0 0), (.int 0 0), (.int 3 0), (.ref 122), (.bool true), (.int 181 0), (.ref 123), .none, (.ref 124), (.ref 125), (.ref 126), (.int 361 0), (.int 42 0), (.str u164 362)]), #[]⟩ (BT.node ⟨(.type PySem.W.SL.s2766695959194262286x5), none, (.seq #[] 0), #[]⟩ (BT.node ⟨(.type PySem.W.SL.s2766695959194262286x5), none, (.seq #[] 0), #[]⟩ BT.nil BT.nil) BT.nil) (BT.node ⟨(.type PySem.W.SL.s5856160107412720595x4), none, (.fields #[(.str u217 758), (.str u217 759), (.str u164 760), (.int 242 0), (.int 4 0), (.int 0 0), (.int 0 0), (.int 3 0), (.ref 378), (.bool true), (.int 181 0), (.ref 379), .none, (.ref 380), (.ref 381), (.ref 382), (.int 770 0), (.int 242 0), (.str u164 771)]), #[]⟩ BT.nil BT.nil)) (BT.node ⟨(.type PySem.W.SL.s2766695959194262286x5), none, (.seq #[(.str u267 452), (.str u268 453), (.str u269 454), (.str u270 455), (.str u271 456), (.str u272 457), (.str u273 458)] 0), #[]⟩ (BT.node ⟨(.type PySem.W.SL.s2766695959194262286x5), none, (.seq #[] 0), #[]⟩ (BT.node ⟨(.type PySem.W.SL.s15992201931430999065x14), none, (.fields #[(.int 4 0), (.int 0 0), (.int (-1) 0)]), #[]⟩ BT.nil BT.nil) BT.nil) (BT.node ⟨(.type PySem.W.SL.s5991306692159431302x13), none, (.fields #[(.ref 446), .none, .none, .none, (.bool false), .none]), #[]⟩ BT.nil BT.nil))) (BT.node ⟨.none, none, (.fields #[]), #[]⟩ (BT.node ⟨(.type PySem.W.SL.s7174869446012820540x8), none, (.func { name := u178, qualname := u178, params := fP (fnAt p 12), body := .stmts (fB (fnAt p 12)), scope := fS (fnAt p 12), globals := 3, closure := [], defaults := .none, kwdefaults := .none, doc := .none, pyModule := (.str u245 288), annotations := none, code := (.ref 158), closureTuple := .none, builtins := 0 }), #[]⟩ (BT.node ⟨(.type PySem.W.SL.s658472552662922059x5), none, .plain, #[(some (.ref 286)), (some (.ref 3)), (some (.ref 283)), none, (some (.str u289 580)), none, (some (.ref 0))]⟩ (BT.node ⟨(.type PySem.W.SL.s9222952809800978799x4), none, (.seq #[] 2), #[]⟩ BT.nil BT.nil) BT.nil) (BT.node ⟨(.type PySem.W.SL.s2766695959194262286x5), none, (.seq #[(.int 1 820), (.int 7 828)] 0), #[]⟩ BT.nil BT.nil)) (BT.node ⟨.none, none, (.fields #[]), #[]⟩ (BT.node ⟨.none, none, (.func { name := u212, qualname := u212, params := fP (fnAt p 51), body := .stmts (fB (fnAt p 51)), scope := fS (fnAt p 51), globals := 0, closure := [], defaults := .none, kwdefaults := .none, doc := .none, pyModule := .none, annotations := none, code := .none, closureTuple := .none, builtins := 0 }), #[]⟩ (BT.node ⟨(.type PySem.W.SL.s5991306692159431302x13), none, (.fields #[(.ref 606), .none, .none, .none, (.bool false), .none]), #[]⟩ BT.nil BT.nil) BT.nil) (BT.node ⟨(.type PySem.W.SL.s5991306692159431302x13), none, (.fields #[(.ref 478), .none, .none, .none, (.bool false), .none]), #[]⟩ BT.nil BT.nil)))) (BT.node ⟨(.type PySem.W.SL.s4290257624100764138x5), none, (.fields #[(.ref 45), (.ref 45), (.ref 45)]), #[]⟩ (BT.node ⟨(.type PySem.W.SL.s7174869446012820540x8), none, (.func { name := u175, qualname := u175, params := fP (fnAt p 8), body := .stmts (fB (fnAt p 8)), scope := fS (fnAt p 8), globals := 3, closure := [], defaults := .none, kwdefaults := .none, doc := .none, pyModule := (.str u244 277), annotations := none, code := (.ref 78), closureTuple := .none, builtins := 0 }), #[]⟩ (BT.node ⟨.none, none, (.func { name := u220, qualname := u262, params := fP (inCls p 11 3), body := .stmts (fB (inCls p 11 3)), scope := fS (inCls p 11 3), globals := 0, closure := [], defaults := .none, kwdefaults := .none, doc := .none, pyModule := .none, annotations := none, code := .none, closureTuple := .none, builtins := 0 }), #[]⟩ (BT.node ⟨.none, none, (.func { name := u212, qualname := u295, params := fP (inCls p 46 1), body := .stmts (fB (inCls p 46 1)), scope := fS (inCls p 46 1), globals := 0, closure := [], defaults := .none, kwdefaults := .none, doc := .none, pyModule := .none, annotations := none, code := .none, closureTuple := .none, builtins := 0 }), #[]⟩ (BT.node ⟨(.type PySem.W.SL.s2766695959194262286x5), none, (.seq #[(.int 9 1170), (.int 7 1178)] 0), #[]⟩ BT.nil BT.nil) BT.nil) (BT.node ⟨(.type PySem.W.SL.s2766695959194262286x5), none, (.seq #[] 0), #[]⟩ BT.nil BT.nil)) (BT.node ⟨.none, none, (.func { name := u191, qualname := u191, params := fP (fnAt p 27), body := .stmts (fB (fnAt p 27)), scope := fS (fnAt p 27), globals := 0, closure := [], defaults := .none, kwdefaults := .none, doc := .none, pyModule := .none, annotations := none, code := .none, closureTuple := .none, builtins := 0 }), #[]⟩ (BT.node ⟨(.type PySem.W.SL.s17162191345867700912x4), none, (.cls { name := u210, bases := [(.type PySem.W.SL.s2742458400755230247x6)], mro := [(.ref 335), (.type PySem.W.SL.s2742458400755230247x6)], ns := 334, qualname := u210, hasDict := true, slotNames := [], subclasses := [], abstract := false, collection := none, hasDel := false }), #[none, none, (some (.str u210 669)), (some (.str u210 677)), (some (.builtin PySem.W.SL.s11443829558043349243x14)), (some (.bool true))]⟩ (BT.node ⟨(.type PySem.W.SL.s5991306692159431302x13), none, (.fields #[(.ref 590), .none, .none, .none, (.bool false), .none]), #[]⟩ BT.nil BT.nil) BT.nil) (BT.node ⟨(.type PySem.W.SL.s15992201931430999065x14), none, (.fields #[(.int (-1) 0), (.int 0 0), (.int (-1) 0)]), #[]⟩ BT.nil BT.nil))) (BT.node ⟨(.type PySem.W.SL.s14755015743595814543x17), none, (.fields #[(.str u255 335), (.ref 110), (.builtin PySem.W.SL.s6511155373996960695x17), (.builtin PySem.W.SL.s12411053484034534018x21)]), #[]⟩ (BT.node ⟨(.type PySem.W.SL.s5856160107412720595x4), none, (.fields #[(.str u181 415), (.str u181 416), (.str u164 417), (.int 63 0), (.int 5 0), (.int 0 0), (.int 0 0), (.int 3 0), (.ref 172), (.bool true), (.int 181 0), (.ref 173), .none, .none, .none, (.ref 174), (.int 418 0), (.int 63 0), (.str u164 419)]), #[]⟩ (BT.node ⟨(.type PySem.W.SL.s5856160107412720595x4), none, (.fields #[(.str u296 649), (.str u299 650), (.str u164 651), (.int 186 0), (.int 2 0), (.int 0 0), (.int 0 0), (.int 3 0), (.ref 298), (.bool true), (.int 181 0), (.ref 299), .none, (.ref 300), (.ref 301), (.ref 302), (.int 658 0), (.int 186 0), (.str u164 659)]), #[]⟩ (BT.node ⟨(.type PySem.W.SL.s5991306692159431302x13), none, (.fields #[(.ref 558), .none, .none, .none, (.bool false), .none]), #[]⟩ BT.nil BT.nil) BT.nil) (BT.node ⟨(.type PySem.W.SL.s9222952809800978799x4), none, (.seq #[] 2), #[]⟩ BT.nil BT.nil)) (BT.node ⟨(.type PySem.W.SL.s5856160107412720595x4), none, (.fields #[(.str u285 550), (.str u287 551), (.str u164 552), (.int 128 0), (.int 2 0), (.int 0 0), (.int 0 0), (.int 3 0), (.ref 234), (.bool true), (.int 181 0), (.ref 235), .none, (.ref 236), (.ref 237), (.ref 238), (.int 558 0), (.int 128 0), (.str u164 559)]), #[]⟩ (BT.node ⟨.none, none, (.fields #[]), #[]⟩ BT.nil BT.nil) (BT.node ⟨(.type PySem.W.SL.s4096838299382398694x14), none, (.fields #[.none, (.int 2 0)]), #[]⟩ BT.nil BT.nil))))) (BT.node ⟨.none, none, (.fields #[]), #[]⟩ (BT.node ⟨(.type PySem.W.SL.s2766695959194262286x5), none, (.seq #[] 0), #[]⟩ (BT.node ⟨(.type PySem.W.SL.s4290257624100764138x5), none, (.fields #[(.ref 70), (.ref 70), (.ref 70)]), #[]⟩ (BT.node ⟨.none, none, (.fields #[]), #[]⟩ (BT.node ⟨.none, none, (.fields #[]), #[]⟩ (BT.node ⟨(.type PySem.W.SL.s15992201931430999065x14), none, (.fields #[(.int 0 0), (.int 0 0), (.int (-1) 0)]), #[]⟩ BT.nil BT.nil) BT.nil) (BT.node ⟨(.type PySem.W.SL.s7174869446012820540x8), none, (.func { name := u218, qualname := u218, params := fP (fnAt p 59), body := .stmts (fB (fnAt p 59)), scope := fS (fnAt p 59), globals := 3, closure := [], defaults := .none, kwdefaults := .none, doc := .none, pyModule := (.str u169 773), annotations := none, code := (.ref 390), closureTuple := .none, builtins := 0 }), #[]⟩ BT.nil BT.nil)) (BT.node ⟨(.type PySem.W.SL.s2766695959194262286x5), none, (.seq #[] 0), #[]⟩ (BT.node ⟨.none, none, (.fields #[]), #[]⟩ (BT.node ⟨(.type PySem.W.SL.s2766695959194262286x5), none, (.seq #[(.int 13 1330), (.int 7 1338)] 0), #[]⟩ BT.nil BT.nil) BT.nil) (BT.node ⟨(.type PySem.W.SL.s2766695959194262286x5), none, (.seq #[] 0), #[]⟩ BT.nil BT.nil))) (BT.node ⟨(.type PySem.W.SL.s2766695959194262286x5), none, (.seq #[(.str u238 324), (.str u223 325), (.str u224 326), (.str u253 327)] 0), #[]⟩ (BT.node ⟨(.type PySem.W.SL.s2766695959194262286x5), none, (.seq #[] 0), #[]⟩ (BT.node ⟨.none, none, (.func { name := u212, qualname := u298, params := fP (inCls p 47 1), body := .stmts (fB (inCls p 47 1)), scope := fS (inCls p 47 1), globals := 0, closure := [], defaults := .none, kwdefaults := .none, doc := .none, pyModule := .none, annotations := none, code := .none, closureTuple := .none, builtins := 0 }), #[]⟩ (BT.node ⟨(.type PySem.W.SL.s4096838299382398694x14), none, (.fields #[.none, (.int 2 0)]), #[]⟩ BT.nil BT.nil) BT.nil) (BT.node ⟨(.type PySem.W.SL.s5991306692159431302x13), none, (.fields #[(.ref 422), .none, .none, .none, (.bool false), .none]), #[]⟩ BT.nil BT.nil)) (BT.node ⟨.none, none, (.fields #[(.int 128 0), (.int 4 0), (.ref 239), (.int 138 0), (.int 4 0), (.ref 246)]), #[]⟩ (BT.node ⟨(.type PySem.W.SL.s5856160107412720595x4), none, (.fields #[(.str u213 724), (.str u213 725), (.str u164 726), (.int 210 0), (.int 6 0), (.int 0 0), (.int 0 0), (.int 3 0), (.ref 354), (.bool true), (.int 181 0), (.ref 355), .none, (.ref 356), (.ref 357), (.ref 358), (.int 733 0), (.int 210 0), (.str u164 734)]), #[]⟩ BT.nil BT.nil) (BT.node ⟨(.type PySem.W.SL.s9222952809800978799x4), none, (.seq #[] 2), #[]⟩ BT.nil BT.nil)))) (BT.node ⟨(.type PySem.W.SL.s658472552662922059x5), none, .plain, #[(some (.ref 54)), (some (.ref 3)), (some (.ref 51)), none, (some (.str u233 214)), none, (some (.ref 0))]⟩ (BT.node ⟨(.type PySem.W.SL.s2766695959194262286x5), none, (.seq #[] 0), #[]⟩ (BT.node ⟨(.type PySem.W.SL.s4290257624100764138x5), none, (.fields #[(.ref 148), (.ref 148), (.ref 148)]), #[]⟩ (BT.node ⟨(.type PySem.W.SL.s4290257624100764138x5), none, (.fields #[(.ref 276), (.ref 276), (.ref 276)]), #[]⟩ (BT.node ⟨(.type PySem.W.SL.s5991306692159431302x13), none, (.fields #[(.ref 534), .none, .none, .none, (.bool false), .none]), #[]⟩ BT.nil BT.nil) BT.nil) (BT.node ⟨(.type PySem.W.SL.s15992201931430999065x14), none, (.fields #[(.int (-1) 0), (.int 0 0), (.int (-1) 0)]), #[]⟩ BT.nil BT.nil)) (BT.node ⟨(.type PySem.W.SL.s5856160107412720595x4), none, (.fields #[(.str u203 511), (.str u203 512), (.str u164 513), (.int 105 0), (.int 4 0), (.int 0 0), (.int 0 0), (.int 3 0), (.ref 210), (.bool true), (.int 181 0), (.ref 211), .none, (.ref 212), (.ref 213), (.ref 214), (.int 523 0), (.int 105 0), (.str u164 524)]), #[]⟩ (BT.node ⟨(.type PySem.W.SL.s2766695959194262286x5), none, (.seq #[] 0), #[]⟩ (BT.node ⟨(.type PySem.W.SL.s9222952809800978799x4), none, (.seq #[] 2), #[]⟩ BT.nil BT.nil) BT.nil) (BT.node ⟨(.type PySem.W.SL.s2766695959194262286x5), none, (.seq #[(.int 5 960), (.int 7 968)] 0), #[]⟩ BT.nil BT.nil))) (BT.node ⟨.none, none, (.fields #[(.int 42 0), (.int 4 0), (.ref 127), (.int 47 0), (.int 4 0), (.ref 132), (.int 50 0), (.int 4 0), (.ref 137), (.int 53 0), (.int 4 0), (.ref 144)]), #[]⟩ (BT.node ⟨.none, none, (.fields #[]), #[]⟩ (BT.node ⟨(.type PySem.W.SL.s11030030927630378310x26), none, (.fields #[(.builtin PySem.W.SL.s4860613602091757760x24), (.ref 307)]), #[]⟩ (BT.node ⟨(.type PySem.W.SL.s2766695959194262286x5), none, (.seq #[] 0), #[]⟩ BT.nil BT.nil) BT.nil) (BT.node ⟨(.type PySem.W.SL.s4096838299382398694x14), none, (.fields #[.none, (.int 2 0)]), #[]⟩ BT.nil BT.nil)) (BT.node ⟨(.type PySem.W.SL.s7174869446012820540x8), none, (.func { name := u212, qualname := u288, params := fP (inCls p 43 1), body := .stmts (fB (inCls p 43 1)), scope := fS (inCls p 43 1), globals := 3, closure := [], defaults := .none, kwdefaults := .none, doc := .none, pyModule := (.str u284 487), annotations := none, code := (.ref 246), closureTuple := .none, builtins := 0 }), #[]⟩ (BT.node ⟨.none, none, (.func { name := u216, qualname := u216, params := fP (fnAt p 56), body := .stmts (fB (fnAt p 56)), scope := fS (fnAt p 56), globals := 0, closure := [], defaults := .none, kwdefaults := .none, doc := .none, pyModule := .none, annotations := none, code := .none, closureTuple := .none, builtins := 0 }), #[]⟩ BT.nil BT.nil) (BT.node ⟨(.type PySem.W.SL.s5991306692159431302x13), none, (.fields #[(.ref 502), .none, .none, .none, (.bool false), .none]), #[]⟩ BT.nil BT.nil)))))) (BT.node ⟨(.type PySem.W.SL.s2766695959194262286x5), none, (.seq #[] 0), #[]⟩ (BT.node ⟨.none, none, (.func { name := u170, qualname := u170, params := fP (fnAt p 1), body := .stmts (fB (fnAt p 1)), scope := fS (fnAt p 1), globals := 0, closure := [], defaults := .none, kwdefaults := .none, doc := .none, pyModule := .none, annotations := none, code := .none, closureTuple := .none, builtins := 0 }), #[]⟩ (BT.node ⟨(.type PySem.W.SL.s658472552662922059x5), none, .plain, #[(some (.ref 34)), (some (.ref 3)), (some (.ref 31)), none, (some (.str u233 214)), none, (some (.ref 0))]⟩ (BT.node ⟨(.type PySem.W.SL.s658472552662922059x5), none, .plain, #[(some (.ref 66)), (some (.ref 3)), (some (.ref 63)), none, (some (.str u233 214)), none, (some (.ref 0))]⟩ (BT.node ⟨.none, none, (.func { name := u248, qualname := u260, params := fP (inCls p 11 1), body := .stmts (fB (inCls p 11 1)), scope := fS (inCls p 11 1), globals := 0, closure := [], defaults := .none, kwdefaults := .none, doc := .none, pyModule := .none, annotations := none, code := .none, closureTuple := .none, builtins := 0 }), #[]⟩ (BT.node ⟨.none, none, (.fields #[(.int 152 0), (.int 4 0), (.ref 267), (.int 166 0), (.int 4 0), (.ref 272)]), #[]⟩ (BT.node ⟨(.type PySem.W.SL.s9222952809800978799x4), none, (.seq #[] 2), #[]⟩ BT.nil BT.nil) BT.nil) (BT.node ⟨(.type PySem.W.SL.s2766695959194262286x5), none, (.seq #[(.str u226 778), (.str u280 779), (.str u313 780), (.str u279 781), (.str u314 782), (.str u250 783), (.str u224 784)] 0), #[]⟩ BT.nil BT.nil)) (BT.node ⟨(.type PySem.W.SL.s7174869446012820540x8), none, (.func { name := u189, qualname := u189, params := fP (fnAt p 25), body := .stmts (fB (fnAt p 25)), scope := fS (fnAt p 25), globals := 3, closure := [], defaults := .none, kwdefaults := .none, doc := .none, pyModule := (.str u266 429), annotations := none, code := (.ref 194), closureTuple := .none, builtins := 0 }), #[]⟩ (BT.node ⟨.none, none, (.func { name := u285, qualname := u300, params := fP (inCls p 48 0), body := .stmts (fB (inCls p 48 0)), scope := fS (inCls p 48 0), globals := 0, closure := [], defaults := .none, kwdefaults := .none, doc := .none, pyModule := .none, annotations := none, code := .none, closureTuple := .none, builtins := 0 }), #[]⟩ (BT.node ⟨(.type PySem.W.SL.s4096838299382398694x14), none, (.fields #[.none, (.int 2 0)]), #[]⟩ BT.nil BT.nil) BT.nil) (BT.node ⟨(.type PySem.W.SL.s5991306692159431302x13), none, (.fields #[(.ref 450), .none, .none, .none, (.bool false), .none]), #[]⟩ BT.nil BT.nil))) (BT.node ⟨(.type PySem.W.SL.s5856160107412720595x4), none, (.fields #[(.str u246 312), (.str u252 313), (.str u164 314), (.int 34 0), (.int 3 0), (.int 0 0), (.int 0 0), (.int 3 0), (.ref 94), (.bool true), (.int 181 0), (.ref 95), .none, (.ref 96), (.ref 97), (.ref 98), (.int 318 0), (.int 34 0), (.str u164 319)]), #[]⟩ (BT.node ⟨(.type PySem.W.SL.s2766695959194262286x5), none, (.seq #[] 0), #[]⟩ (BT.node ⟨(.type PySem.W.SL.s5856160107412720595x4), none, (.fields #[(.str u285 637), (.str u297 638), (.str u164 639), (.int 180 0), (.int 2 0), (.int 0 0), (.int 0 0), (.int 3 0), (.ref 288), (.bool true), (.int 181 0), (.ref 289), .none, .none, .none, (.ref 290), (.int 640 0), (.int 180 0), (.str u164 641)]), #[]⟩ (BT.node ⟨(.type PySem.W.SL.s15992201931430999065x14), none, (.fields #[(.int 2 0), (.int 0 0), (.int (-1) 0)]), #[]⟩ BT.nil BT.nil) BT.nil) (BT.node ⟨(.type PySem.W.SL.s5991306692159431302x13), none, (.fields #[(.ref 418), .none, .none, .none, (.bool false), .none]), #[]⟩ BT.nil BT.nil)) (BT.node ⟨(.type PySem.W.SL.s2766695959194262286x5), none, (.seq #[] 0), #[]⟩ (BT.node ⟨.none, none, (.fields #[]), #[]⟩ BT.nil BT.nil) (BT.node ⟨(.type PySem.W.SL.s2766695959194262286x5), none, (.seq #[] 0), #[]⟩ BT.nil BT.nil)))) (BT.node ⟨(.type PySem.W.SL.s14018661285674007319x4), none, (.dict #[⟨PyData.keyHash P u232, (.str u232 252), (.str u233 214)⟩, ⟨PyData.keyHash P u234, (.str u234 254), (.str u173 253)⟩, ⟨PyData.keyHash P u235, (.str u235 256), (.int 16 255)⟩, ⟨PyData.keyHash P u237, (.str u237 257), (.ref 56)⟩] 4), #[]⟩ (BT.node ⟨(.type PySem.W.SL.s2766695959194262286x5), none, (.seq #[] 0), #[]⟩ (BT.node ⟨(.type PySem.W.SL.s14018661285674007319x4), none, (.dict #[⟨PyData.keyHash P u232, (.str u232 349), (.str u245 288)⟩, ⟨PyData.keyHash P u235, (.str u235 353), (.int 40 352)⟩, ⟨PyData.keyHash P u236, (.str u236 363), (.ref 128)⟩, ⟨PyData.keyHash P u248, (.str u248 369), (.ref 133)⟩, ⟨PyData.keyHash P u249, (.str u249 375), (.ref 138)⟩, ⟨PyData.keyHash P u220, (.str u220 382), (.ref 145)⟩, ⟨PyData.keyHash P u237, (.str u237 386), (.ref 146)⟩, ⟨PyData.keyHash P u255, (.str u255 388), (.ref 149)⟩, ⟨PyData.keyHash P u241, (.str u241 390), (.ref 150)⟩, ⟨PyData.keyHash P u2, (.str u2 391), .none⟩] 4), #[]⟩ (BT.node ⟨(.type PySem.W.SL.s14018661285674007319x4), none, (.dict #[⟨PyData.keyHash P u232, (.str u232 591), (.str u289 580)⟩, ⟨PyData.keyHash P u235, (.str u235 595), (.int 150 594)⟩, ⟨PyData.keyHash P u285, (.str u285 610), (.ref 268)⟩, ⟨PyData.keyHash P u212, (.str u212 616), (.ref 273)⟩, ⟨PyData.keyHash P u237, (.str u237 617), (.ref 274)⟩, ⟨PyData.keyHash P u255, (.str u255 619), (.ref 277)⟩, ⟨PyData.keyHash P u241, (.str u241 621), (.ref 278)⟩, ⟨PyData.keyHash P u2, (.str u2 622), .none⟩] 4), #[]⟩ (BT.node ⟨(.type PySem.W.SL.s5991306692159431302x13), none, (.fields #[(.ref 530), .none, .none, .none, (.bool false), .none]), #[]⟩ BT.nil BT.nil) BT.nil) (BT.node ⟨(.type PySem.W.SL.s9222952809800978799x4), none, (.seq #[] 2), #[]⟩ BT.nil BT.nil)) (BT.node ⟨.none, none, (.fields #[]), #[]⟩ (BT.node ⟨(.type PySem.W.SL.s11030030927630378310x26), none, (.fields #[(.builtin PySem.W.SL.s4860613602091757760x24), (.ref 335)]), #[]⟩ (BT.node ⟨(.type PySem.W.SL.s2766695959194262286x5), none, (.seq #[] 0), #[]⟩ BT.nil BT.nil) BT.nil) (BT.node ⟨(.type PySem.W.SL.s4096838299382398694x14), none, (.fields #[.none, (.int 2 0)]), #[]⟩ BT.nil BT.nil))) (BT.node ⟨(.type PySem.W.SL.s2766695959194262286x5), none, (.seq #[] 0), #[]⟩ (BT.node ⟨.none, none, (.func { name := u182, qualname := u182, params := fP (fnAt p 17), body := .stmts (fB (fnAt p 17)), scope := fS (fnAt p 17), globals := 0, closure := [], defaults := .none, kwdefaults := .none, doc := .none, pyModule := .none, annotations := none, code := .none, closureTuple := .none, builtins := 0 }), #[]⟩ (BT.node ⟨(.type PySem.W.SL.s17162191345867700912x4), none, (.cls { name := u209, bases := [(.type PySem.W.SL.s2742458400755230247x6)], mro := [(.ref 307), (.type PySem.W.SL.s2742458400755230247x6)], ns := 306, qualname := u209, hasDict := true, slotNames := [], subclasses := [], abstract := false, collection := none, hasDel := false }), #[none, none, (some (.str u209 625)), (some (.str u209 633)), (some (.builtin PySem.W.SL.s11443829558043349243x14)), (some (.bool true))]⟩ (BT.node ⟨(.type PySem.W.SL.s5991306692159431302x13), none, (.fields #[(.ref 562), .none, .none, .none, (.bool false), .none]), #[]⟩ BT.nil BT.nil) BT.nil) (BT.node ⟨(.type PySem.W.SL.s15992201931430999065x14), none, (.fields #[(.int (-1) 0), (.int 0 0), (.int (-1) 0)]), #[]⟩ BT.nil BT.nil)) (BT.node ⟨(.type PySem.W.SL.s2766695959194262286x5), none, (.seq #[(.str u238 564), (.str u225 565), (.str u286 566), (.str u280 567), (.str u246 568)] 0), #[]⟩ (BT.node ⟨(.type PySem.W.SL.s2766695959194262286x5), none, (.seq #[] 0), #[]⟩ BT.nil BT.nil) (BT.node ⟨(.type PySem.W.SL.s2766695959194262286x5), none, (.seq #[(.int 7 1060), (.int 7 1068)] 0), #[]⟩ BT.nil BT.nil))))) (BT.node ⟨(.type PySem.W.SL.s5856160107412720595x4), none, (.fields #[(.str u171 197), (.str u171 198), (.str u164 199), (.int 4 0), (.int 7 0), (.int 0 0), (.int 0 0), (.int 3 0), (.ref 22), (.bool true), (.int 181 0), (.ref 23), .none, (.ref 24), (.ref 25), (.ref 26), (.int 211 0), (.int 4 0), (.str u164 212)]), #[]⟩ (BT.node ⟨(.type PySem.W.SL.s2766695959194262286x5), none, (.seq #[(.str u239 236)] 0), #[]⟩ (BT.node ⟨(.type PySem.W.SL.s2766695959194262286x5), none, (.seq #[(.str u242 282), (.str u231 283), (.str u243 284)] 0), #[]⟩ (BT.node ⟨(.type PySem.W.SL.s2766695959194262286x5), none, (.seq #[] 0), #[]⟩ (BT.node ⟨(.type PySem.W.SL.s5856160107412720595x4), none, (.fields #[(.str u285 596), (.str u294 597), (.str u164 598), (.int 152 0), (.int 2 0), (.int 0 0), (.int 0 0), (.int 3 0), (.ref 262), (.bool true), (.int 181 0), (.ref 263), .none, (.ref 264), (.ref 265), (.ref 266), (.int 608 0), (.int 152 0), (.str u164 609)]), #[]⟩ (BT.node ⟨(.type PySem.W.SL.s4096838299382398694x14), none, (.fields #[.none, (.int 2 0)]), #[]⟩ BT.nil BT.nil) BT.nil) (BT.node ⟨(.type PySem.W.SL.s15992201931430999065x14), none, (.fields #[(.int 15 0), (.int 0 0), (.int 1 0)]), #[]⟩ BT.nil BT.nil)) (BT.node ⟨(.type PySem.W.SL.s2766695959194262286x5), none, (.seq #[] 0), #[]⟩ (BT.node ⟨(.type PySem.W.SL.s5856160107412720595x4), none, (.fields #[(.str u212 689), (.str u301 690), (.str u164 691), (.int 194 0), (.int 2 0), (.int 0 0), (.int 0 0), (.int 3 0), (.ref 326), (.bool true), (.int 181 0), (.ref 327), .none, (.ref 328), (.ref 329), (.ref 330), (.int 694 0), (.int 194 0), (.str u164 695)]), #[]⟩ (BT.node ⟨(.type PySem.W.SL.s5991306692159431302x13), none, (.fields #[(.ref 586), .none, .none, .none, (.bool false), .none]), #[]⟩ BT.nil BT.nil) BT.nil) (BT.node ⟨(.type PySem.W.SL.s9222952809800978799x4), none, (.seq #[] 2), #[]⟩ BT.nil BT.nil))) (BT.node ⟨(.type PySem.W.SL.s7174869446012820540x8), none, (.func { name := u247, qualname := u254, params := fP (inCls p 10 2), body := .stmts (fB (inCls p 10 2)), scope := fS (inCls p 10 2), globals := 3, closure := [], defaults := .none, kwdefaults := .none, doc := .none, pyModule := (.str u245 288), annotations := none, code := (.ref 106), closureTuple := .none, builtins := 0 }), #[]⟩ (BT.node ⟨(.type PySem.W.SL.s7174869446012820540x8), none, (.func { name := u180, qualname := u180, params := fP (fnAt p 14), body := .stmts (fB (fnAt p 14)), scope := fS (fnAt p 14), globals := 3, closure := [], defaults := .none, kwdefaults := .none, doc := .none, pyModule := (.str u245 288), annotations := none, code := (.ref 170), closureTuple := .none, builtins := 0 }), #[]⟩ (BT.node ⟨.none, none, (.fields #[]), #[]⟩ (BT.node ⟨(.type PySem.W.SL.s2766695959194262286x5), none, (.seq #[(.int 11 1260), (.int 7 1268)] 0), #[]⟩ BT.nil BT.nil) BT.nil) (BT.node ⟨(.type PySem.W.SL.s2766695959194262286x5), none, (.seq #[] 0), #[]⟩ BT.nil BT.nil)) (BT.node ⟨.none, none, (.fields #[]), #[]⟩ (BT.node ⟨.none, none, (.func { name := u214, qualname := u214, params := fP (fnAt p 54), body := .stmts (fB (fnAt p 54)), scope := fS (fnAt p 54), globals := 0, closure := [], defaults := .none, kwdefaults := .none, doc := .none, pyModule := .none, annotations := none, code := .none, closureTuple := .none, builtins := 0 }), #[]⟩ BT.nil BT.nil) (BT.node ⟨(.type PySem.W.SL.s15992201931430999065x14), none, (.fields #[(.int (-1) 0), (.int 0 0), (.int (-1) 0)]), #[]⟩ BT.nil BT.nil)))) (BT.node ⟨(.type PySem.W.SL.s4290257624100764138x5), none, (.fields #[(.ref 58), (.ref 58), (.ref 58)]), #[]⟩ (BT.node ⟨.none, none, (.func { name := u236, qualname := u251, params := fP (inCls p 10 0), body := .stmts (fB (inCls p 10 0)), scope := fS (inCls p 10 0), globals := 0, closure := [], defaults := .none, kwdefaults := .none, doc := .none, pyModule := .none, annotations := none, code := .none, closureTuple := .none, builtins := 0 }), #[]⟩ (BT.node ⟨(.type PySem.W.SL.s2766695959194262286x5), none, (.seq #[(.str u231 397), (.str u263 398)] 0), #[]⟩ (BT.node ⟨(.type PySem.W.SL.s14018661285674007319x4), none, (.dict #[⟨PyData.keyHash P u232, (.str u232 632), (.str u289 580)⟩, ⟨PyData.keyHash P u234, (.str u234 634), (.str u209 633)⟩, ⟨PyData.keyHash P u235, (.str u235 636), (.int 178 635)⟩, ⟨PyData.keyHash P u285, (.str u285 642), (.ref 292)⟩, ⟨PyData.keyHash P u212, (.str u212 648), (.ref 297)⟩, ⟨PyData.keyHash P u296, (.str u296 660), (.ref 304)⟩, ⟨PyData.keyHash P u237, (.str u237 661), (.ref 305)⟩] 7), #[]⟩ (BT.node ⟨(.type PySem.W.SL.s2766695959194262286x5), none, (.seq #[] 0), #[]⟩ BT.nil BT.nil) BT.nil) (BT.node ⟨(.type PySem.W.SL.s4096838299382398694x14), none, (.fields #[.none, (.int 2 0)]), #[]⟩ BT.nil BT.nil)) (BT.node ⟨.none, none, (.func { name := u204, qualname := u204, params := fP (fnAt p 41), body := .stmts (fB (fnAt p 41)), scope := fS (fnAt p 41), globals := 0, closure := [], defaults := .none, kwdefaults := .none, doc := .none, pyModule := .none, annotations := none, code := .none, closureTuple := .none, builtins := 0 }), #[]⟩ (BT.node ⟨(.type PySem.W.SL.s2766695959194262286x5), none, (.seq #[] 0), #[]⟩ (BT.node ⟨(.type PySem.W.SL.s15992201931430999065x14), none, (.fields #[(.int 6 0), (.int 0 0), (.int (-1) 0)]), #[]⟩ BT.nil BT.nil) BT.nil) (BT.node ⟨(.type PySem.W.SL.s5991306692159431302x13), none, (.fields #[(.ref 474), .none, .none, .none, (.bool false), .none]), #[]⟩ BT.nil BT.nil))) (BT.node ⟨.none, none, (.fields #[]), #[]⟩ (BT.node ⟨(.type PySem.W.SL.s5856160107412720595x4), none, (.fields #[(.str u188 441), (.str u188 442), (.str u164 443), (.int 77 0), (.int 2 0), (.int 0 0), (.int 0 0), (.int 3 0), (.ref 182), (.bool true), (.int 181 0), (.ref 183), .none, (.ref 184), (.ref 185), (.ref 186), (.int 446 0), (.int 77 0), (.str u164 447)]), #[]⟩ (BT.node ⟨(.type PySem.W.SL.s2766695959194262286x5), none, (.seq #[] 0), #[]⟩ (BT.node ⟨(.type PySem.W.SL.s9222952809800978799x4), none, (.seq #[] 2), #[]⟩ BT.nil BT.nil) BT.nil) (BT.node ⟨(.type PySem.W.SL.s2766695959194262286x5), none, (.seq #[(.int 3 880), (.int 7 888)] 0), #[]⟩ BT.nil BT.nil)) (BT.node ⟨(.type PySem.W.SL.s14755015743595814543x17), none, (.fields #[(.str u255 573), (.ref 250), (.builtin PySem.W.SL.s6511155373996960695x17), (.builtin PySem.W.SL.s12411053484034534018x21)]), #[]⟩ (BT.node ⟨.none, none, (.fields #[]), #[]⟩ BT.nil BT.nil) (BT.node ⟨(.type PySem.W.SL.s5991306692159431302x13), none, (.fields #[(.ref 506), .none, .none, .none, (.bool false), .none]), #[]⟩ BT.nil BT.nil))))))) (BT.node ⟨(.type PySem.W.SL.s6658869562736209489x6), (some 3), .plain, #[]⟩ (BT.node ⟨(.type PySem.W.SL.s5856160107412720595x4), none, (.fields #[(.str u166 176), (.str u166 177), (.str u164 178), (.int 1 0), (.int 0 0), (.int 0 0), (.int 0 0), (.int 0 0), (.ref 7), (.bool false), (.int 175 0), (.ref 8), .none, .none, .none, .none, (.int 179 0), (.int 1 0), (.str u164 180)]), #[]⟩ (BT.node ⟨(.type PySem.W.SL.s2766695959194262286x5), none, (.seq #[(.str u219 192), (.str u220 193)] 0), #[]⟩ (BT.node ⟨.none, none, (.fields #[(.int 13 0), (.int 4 0), (.ref 41)]), #[]⟩ (BT.node ⟨.none, none, (.fields #[]), #[]⟩ (BT.node ⟨(.type PySem.W.SL.s2766695959194262286x5), none, (.seq #[] 0), #[]⟩ (BT.node ⟨(.type PySem.W.SL.s14018661285674007319x4), none, (.dict #[⟨PyData.keyHash P u232, (.str u232 591), (.str u289 580)⟩, ⟨PyData.keyHash P u234, (.str u234 593), (.str u208 592)⟩, ⟨PyData.keyHash P u235, (.str u235 595), (.int 150 594)⟩, ⟨PyData.keyHash P u285, (.str u285 610), (.ref 268)⟩, ⟨PyData.keyHash P u212, (.str u212 616), (.ref 273)⟩, ⟨PyData.keyHash P u237, (.str u237 617), (.ref 274)⟩] 6), #[]⟩ (BT.node ⟨(.type PySem.W.SL.s2766695959194262286x5), none, (.seq #[(.int 8 1117), (.int 7 1125)] 0), #[]⟩ BT.nil BT.nil) BT.nil) (BT.node ⟨(.type PySem.W.SL.s2766695959194262286x5), none, (.seq #[] 0), #[]⟩ BT.nil BT.nil)) (BT.node ⟨.none, none, (.func { name := u189, qualname := u189, params := fP (fnAt p 25), body := .stmts (fB (fnAt p 25)), scope := fS (fnAt p 25), globals := 0, closure := [], defaults := .none, kwdefaults := .none, doc := .none, pyModule := .none, annotations := none, code := .none, closureTuple := .none, builtins := 0 }), #[]⟩ (BT.node ⟨(.type PySem.W.SL.s2766695959194262286x5), none, (.seq #[(.str u238 684), (.str u225 685)] 0), #[]⟩ (BT.node ⟨(.type PySem.W.SL.s5991306692159431302x13), none, (.fields #[(.ref 576), .none, .none, .none, (.bool false), .none]), #[]⟩ BT.nil BT.nil) BT.nil) (BT.node ⟨(.type PySem.W.SL.s15992201931430999065x14), none, (.fields #[(.int 4 0), (.int 0 0), (.int 1 0)]), #[]⟩ BT.nil BT.nil))) (BT.node ⟨(.type PySem.W.SL.s2766695959194262286x5), none, (.seq #[] 0), #[]⟩ (BT.node ⟨.none, none, (.fields #[]), #[]⟩ (BT.node ⟨.none, none, (.fields #[]), #[]⟩ (BT.node ⟨(.type PySem.W.SL.s5991306692159431302x13), none, (.fields #[(.ref 544), .none, .none, .none, (.bool false), .none]), #[]⟩ BT.nil BT.nil) BT.nil) (BT.node ⟨(.type PySem.W.SL.s9222952809800978799x4), none, (.seq #[] 2), #[]⟩ BT.nil BT.nil)) (BT.node ⟨(.type PySem.W.SL.s5856160107412720595x4), none, (.fields #[(.str u205 532), (.str u205 533), (.str u164 534), (.int 120 0), (.int 2 0), (.int 0 0), (.int 0 0), (.int 3 0), (.ref 222), (.bool true), (.int 181 0), (.ref 223), .none, .none, .none, (.ref 224), (.int 535 0), (.int 120 0), (.str u164 536)]), #[]⟩ (BT.node ⟨(.type PySem.W.SL.s7174869446012820540x8), none, (.func { name := u212, qualname := u212, params := fP (fnAt p 51), body := .stmts (fB (fnAt p 51)), scope := fS (fnAt p 51), globals := 3, closure := [], defaults := .none, kwdefaults := .none, doc := .none, pyModule := (.str u302 705), annotations := none, code := (.ref 352), closureTuple := .none, builtins := 0 }), #[]⟩ (BT.node ⟨(.type PySem.W.SL.s2766695959194262286x5), none, (.seq #[(.int 0 819), (.int 1 841), (.int 8 846), (.int 16 869), (.int 9 874), (.int 2 879), (.int 3 901), (.int 10 906), (.int 17 911), (.int 24 916), (.int 32 939), (.int 25 944), (.int 18 949), (.int 11 954), (.int 4 959), (.int 5 981), (.int 12 986), (.int 19 991), (.int 26 996), (.int 33 1001), (.int 40 1006), (.int 48 1029), (.int 41 1034), (.int 34 1039), (.int 27 1044), (.int 20 1049), (.int 13 1054), (.int 6 1059), (.int 7 1081), (.int 14 1086), (.int 21 1091), (.int 28 1096), (.int 35 1101), (.int 42 1106), (.int 49 1111), (.int 56 1116), (.int 57 1139), (.int 50 1144), (.int 43 1149), (.int 36 1154), (.int 29 1159), (.int 22 1164), (.int 15 1169), (.int 23 1191), (.int 30 1196), (.int 37 1201), (.int 44 1206), (.int 51 1211), (.int 58 1216), (.int 59 1239), (.int 52 1244), (.int 45 1249), (.int 38 1254), (.int 31 1259), (.int 39 1281), (.int 46 1286), (.int 53 1291), (.int 60 1296), (.int 61 1319), (.int 54 1324), (.int 47 1329), (.int 55 1351), (.int 62 1356), (.int 63 1379)] 0), #[]⟩ BT.nil BT.nil) BT.nil) (BT.node ⟨(.type PySem.W.SL.s4096838299382398694x14), none, (.fields #[.none, (.int 2 0)]), #[]⟩ BT.nil BT.nil)))) (BT.node ⟨(.type PySem.W.SL.s2766695959194262286x5), none, (.seq #[(.ref 45)] 0), #[]⟩ (BT.node ⟨(.type PySem.W.SL.s11030030927630378310x26), none, (.fields #[(.builtin PySem.W.SL.s10062305145149207511x16), (.type PySem.W.SL.s17162191345867700912x4)]), #[]⟩ (BT.node ⟨(.type PySem.W.SL.s7174869446012820540x8), none, (.func { name := u220, qualname := u262, params := fP (inCls p 11 3), body := .stmts (fB (inCls p 11 3)), scope := fS (inCls p 11 3), globals := 3, closure := [], defaults := .none, kwdefaults := .none, doc := .none, pyModule := (.str u245 288), annotations := none, code := (.ref 144), closureTuple := .none, builtins := 0 }), #[]⟩ (BT.node ⟨(.type PySem.W.SL.s7174869446012820540x8), none, (.func { name := u212, qualname := u295, params := fP (inCls p 46 1), body := .stmts (fB (inCls p 46 1)), scope := fS (inCls p 46 1), globals := 3, closure := [], defaults := .none, kwdefaults := .none, doc := .none, pyModule := (.str u289 580), annotations := none, code := (.ref 272), closureTuple := .none, builtins := 0 }), #[]⟩ (BT.node ⟨(.type PySem.W.SL.s9222952809800978799x4), none, (.seq #[] 2), #[]⟩ BT.nil BT.nil) BT.nil) (BT.node ⟨(.type PySem.W.SL.s2766695959194262286x5), none, (.seq #[(.int 0 797), (.int 7 805)] 0), #[]⟩ BT.nil BT.nil)) (BT.node ⟨(.type PySem.W.SL.s7174869446012820540x8), none, (.func { name := u191, qualname := u191, params := fP (fnAt p 27), body := .stmts (fB (fnAt p 27)), scope := fS (fnAt p 27), globals := 3, closure := [], defaults := .none, kwdefaults := .none, doc := .none, pyModule := (.str u266 429), annotations := none, code := (.ref 208), closureTuple := .none, builtins := 0 }), #[]⟩ (BT.node ⟨(.type PySem.W.SL.s14755015743595814543x17), none, (.fields #[(.str u241 700), (.ref 335), (.builtin PySem.W.SL.s10220274742760427390x26), .none]), #[]⟩ (BT.node ⟨(.type PySem.W.SL.s4096838299382398694x14), none, (.fields #[.none, (.int 2 0)]), #[]⟩ BT.nil BT.nil) BT.nil) (BT.node ⟨(.type PySem.W.SL.s5991306692159431302x13), none, (.fields #[(.ref 464), .none, .none, .none, (.bool false), .none]), #[]⟩ BT.nil BT.nil))) (BT.node ⟨(.type PySem.W.SL.s4290257624100764138x5), none, (.fields #[(.ref 110), (.ref 110), (.ref 110)]), #[]⟩ (BT.node ⟨(.type PySem.W.SL.s2766695959194262286x5), none, (.seq #[] 0), #[]⟩ (BT.node ⟨(.type PySem.W.SL.s2766695959194262286x5), none, (.seq #[] 0), #[]⟩ (BT.node ⟨(.type PySem.W.SL.s15992201931430999065x14), none, (.fields #[(.int 8 0), (.int 0 0), (.int 1 0)]), #[]⟩ BT.nil BT.nil) BT.nil) (BT.node ⟨(.type PySem.W.SL.s5991306692159431302x13), none, (.fields #[(.ref 432), .none, .none, .none, (.bool false), .none]), #[]⟩ BT.nil BT.nil)) (BT.node ⟨(.type PySem.W.SL.s2766695959194262286x5), none, (.seq #[] 0), #[]⟩ (BT.node ⟨(.type PySem.W.SL.s5856160107412720595x4), none, (.fields #[(.str u215 742), (.str u215 743), (.str u164 744), (.int 223 0), (.int 3 0), (.int 0 0), (.int 0 0), (.int 3 0), (.ref 366), (.bool true), (.int 181 0), (.ref 367), .none, .none, .none, (.ref 368), (.int 745 0), (.int 223 0), (.str u164 746)]), #[]⟩ BT.nil BT.nil) (BT.node ⟨(.type PySem.W.SL.s2766695959194262286x5), none, (.seq #[] 0), #[]⟩ BT.nil BT.nil))))) (BT.node ⟨(.type PySem.W.SL.s2766695959194262286x5), none, (.seq #[] 0), #[]⟩ (BT.node ⟨(.type PySem.W.SL.s5856160107412720595x4), none, (.fields #[(.str u236 228), (.str u240 229), (.str u164 230), (.int 13 0), (.int 2 0), (.int 0 0), (.int 0 0), (.int 3 0), (.ref 36), (.bool true), (.int 181 0), (.ref 37), .none, (.ref 38), (.ref 39), (.ref 40), (.int 233 0), (.int 13 0), (.str u164 234)]), #[]⟩ (BT.node ⟨(.type PySem.W.SL.s2766695959194262286x5), none, (.seq #[] 0), #[]⟩ (BT.node ⟨(.type PySem.W.SL.s5856160107412720595x4), none, (.fields #[(.str u249 370), (.str u261 371), (.str u164 372), (.int 50 0), (.int 1 0), (.int 0 0), (.int 0 0), (.int 3 0), (.ref 134), (.bool true), (.int 181 0), (.ref 135), .none, .none, .none, (.ref 136), (.int 373 0), (.int 50 0), (.str u164 374)]), #[]⟩ (BT.node ⟨(.type PySem.W.SL.s2766695959194262286x5), none, (.seq #[] 0), #[]⟩ (BT.node ⟨(.type PySem.W.SL.s5991306692159431302x13), none, (.fields #[(.ref 520), .none, .none, .none, (.bool false), .none]), #[]⟩ BT.nil BT.nil) BT.nil) (BT.node ⟨(.type PySem.W.SL.s9222952809800978799x4), none, (.seq #[(.int 0 819), (.int 1 841), (.int 8 846), (.int 16 869), (.int 9 874), (.int 2 879), (.int 3 901), (.int 10 906), (.int 17 911), (.int 24 916), (.int 32 939), (.int 25 944), (.int 18 949), (.int 11 954), (.int 4 959), (.int 5 981), (.int 12 986), (.int 19 991), (.int 26 996), (.int 33 1001), (.int 40 1006), (.int 48 1029), (.int 41 1034), (.int 34 1039), (.int 27 1044), (.int 20 1049), (.int 13 1054), (.int 6 1059), (.int 7 1081), (.int 14 1086), (.int 21 1091), (.int 28 1096), (.int 35 1101), (.int 42 1106), (.int 49 1111), (.int 56 1116), (.int 57 1139), (.int 50 1144), (.int 43 1149), (.int 36 1154), (.int 29 1159), (.int 22 1164), (.int 15 1169), (.int 23 1191), (.int 30 1196), (.int 37 1201), (.int 44 1206), (.int 51 1211), (.int 58 1216), (.int 59 1239), (.int 52 1244), (.int 45 1249), (.int 38 1254), (.int 31 1259), (.int 39 1281), (.int 46 1286), (.int 53 1291), (.int 60 1296), (.int 61 1319), (.int 54 1324), (.int 47 1329), (.int 55 1351), (.int 62 1356), (.int 63 1379)] 64), #[]⟩ BT.nil BT.nil)) (BT.node ⟨(.type PySem.W.SL.s5856160107412720595x4), none, (.fields #[(.str u190 462), (.str u190 463), (.str u164 464), (.int 83 0), (.int 4 0), (.int 0 0), (.int 0 0), (.int 3 0), (.ref 196), (.bool true), (.int 181 0), (.ref 197), .none, (.ref 198), (.ref 199), (.ref 200), (.int 474 0), (.int 83 0), (.str u164 475)]), #[]⟩ (BT.node ⟨(.type PySem.W.SL.s2766695959194262286x5), none, (.seq #[] 0), #[]⟩ (BT.node ⟨(.type PySem.W.SL.s9222952809800978799x4), none, (.seq #[] 2), #[]⟩ BT.nil BT.nil) BT.nil) (BT.node ⟨(.type PySem.W.SL.s2766695959194262286x5), none, (.seq #[(.int 4 917), (.int 7 925)] 0), #[]⟩ BT.nil BT.nil))) (BT.node ⟨.none, none, (.func { name := u247, qualname := u254, params := fP (inCls p 10 2), body := .stmts (fB (inCls p 10 2)), scope := fS (inCls p 10 2), globals := 0, closure := [], defaults := .none, kwdefaults := .none, doc := .none, pyModule := .none, annotations := none, code := .none, closureTuple := .none, builtins := 0 }), #[]⟩ (BT.node ⟨.none, none, (.func { name := u180, qualname := u180, params := fP (fnAt p 14), body := .stmts (fB (fnAt p 14)), scope := fS (fnAt p 14), globals := 0, closure := [], defaults := .none, kwdefaults := .none, doc := .none, pyModule := .none, annotations := none, code := .none, closureTuple := .none, builtins := 0 }), #[]⟩ (BT.node ⟨(.type PySem.W.SL.s7174869446012820540x8), none, (.func { name := u212, qualname := u298, params := fP (inCls p 47 1), body := .stmts (fB (inCls p 47 1)), scope := fS (inCls p 47 1), globals := 3, closure := [], defaults := .none, kwdefaults := .none, doc := .none, pyModule := (.str u289 580), annotations := none, code := (.ref 296), closureTuple := .none, builtins := 0 }), #[]⟩ (BT.node ⟨(.type PySem.W.SL.s2766695959194262286x5), none, (.seq #[] 0), #[]⟩ BT.nil BT.nil) BT.nil) (BT.node ⟨(.type PySem.W.SL.s4096838299382398694x14), none, (.fields #[.none, (.int 2 0)]), #[]⟩ BT.nil BT.nil)) (BT.node ⟨(.type PySem.W.SL.s658472552662922059x5), none, .plain, #[(some (.ref 232)), (some (.ref 3)), (some (.ref 229)), none, (some (.str u284 487)), none, (some (.ref 0))]⟩ (BT.node ⟨(.type PySem.W.SL.s2766695959194262286x5), none, (.seq #[] 0), #[]⟩ BT.nil BT.nil) (BT.node ⟨(.type PySem.W.SL.s5991306692159431302x13), none, (.fields #[(.ref 488), .none, .none, .none, (.bool false), .none]), #[]⟩ BT.nil BT.nil)))) (BT.node ⟨(.type PySem.W.SL.s14018661285674007319x4), none, (.dict #[⟨PyData.keyHash P u232, (.str u232 252), (.str u233 214)⟩, ⟨PyData.keyHash P u235, (.str u235 256), (.int 16 255)⟩, ⟨PyData.keyHash P u237, (.str u237 257), (.ref 56)⟩, ⟨PyData.keyHash P u2, (.str u2 258), .none⟩] 2), #[]⟩ (BT.node ⟨(.type PySem.W.SL.s2766695959194262286x5), none, (.seq #[(.str u238 305), (.str u248 306), (.str u249 307), (.str u250 308)] 0), #[]⟩ (BT.node ⟨(.type PySem.W.SL.s2766695959194262286x5), none, (.seq #[] 0), #[]⟩ (BT.node ⟨(.type PySem.W.SL.s2766695959194262286x5), none, (.seq #[] 0), #[]⟩ (BT.node ⟨(.type PySem.W.SL.s4096838299382398694x14), none, (.fields #[.none, (.int 2 0)]), #[]⟩ BT.nil BT.nil) BT.nil) (BT.node ⟨(.type PySem.W.SL.s5991306692159431302x13), none, (.fields #[(.ref 408), .none, .none, .none, (.bool false), .none]), #[]⟩ BT.nil BT.nil)) (BT.node ⟨(.type PySem.W.SL.s2766695959194262286x5), none, (.seq #[] 0), #[]⟩ (BT.node ⟨(.type PySem.W.SL.s5856160107412720595x4), none, (.fields #[(.str u211 707), (.str u211 708), (.str u164 709), (.int 197 0), (.int 1 0), (.int 0 0), (.int 0 0), (.int 3 0), (.ref 340), (.bool true), (.int 181 0), (.ref 341), .none, (.ref 342), (.ref 343), (.ref 344), (.int 711 0), (.int 197 0), (.str u164 712)]), #[]⟩ (BT.node ⟨(.type PySem.W.SL.s5991306692159431302x13), none, (.fields #[(.ref 600), .none, .none, .none, (.bool false), .none]), #[]⟩ BT.nil BT.nil) BT.nil) (BT.node ⟨(.type PySem.W.SL.s9222952809800978799x4), none, (.seq #[] 2), #[]⟩ BT.nil BT.nil))) (BT.node ⟨(.type PySem.W.SL.s658472552662922059x5), none, .plain, #[(some (.ref 120)), (some (.ref 3)), (some (.ref 117)), none, (some (.str u245 288)), none, (some (.ref 0))]⟩ (BT.node ⟨(.type PySem.W.SL.s2766695959194262286x5), none, (.seq #[] 0), #[]⟩ (BT.node ⟨(.type PySem.W.SL.s11030030927630378310x26), none, (.fields #[(.builtin PySem.W.SL.s10062305145149207511x16), (.type PySem.W.SL.s17162191345867700912x4)]), #[]⟩ (BT.node ⟨(.type PySem.W.SL.s2766695959194262286x5), none, (.seq #[(.int 12 1297), (.int 7 1305)] 0), #[]⟩ BT.nil BT.nil) BT.nil) (BT.node ⟨(.type PySem.W.SL.s2766695959194262286x5), none, (.seq #[] 0), #[]⟩ BT.nil BT.nil)) (BT.node ⟨(.type PySem.W.SL.s14018661285674007319x4), none, (.dict #[⟨PyData.keyHash P u232, (.str u232 545), (.str u284 487)⟩, ⟨PyData.keyHash P u235, (.str u235 549), (.int 126 548)⟩, ⟨PyData.keyHash P u285, (.str u285 560), (.ref 240)⟩, ⟨PyData.keyHash P u212, (.str u212 571), (.ref 247)⟩, ⟨PyData.keyHash P u237, (.str u237 572), (.ref 248)⟩, ⟨PyData.keyHash P u255, (.str u255 574), (.ref 251)⟩, ⟨PyData.keyHash P u241, (.str u241 576), (.ref 252)⟩, ⟨PyData.keyHash P u2, (.str u2 577), .none⟩] 4), #[]⟩ (BT.node ⟨(.type PySem.W.SL.s7174869446012820540x8), none, (.func { name := u216, qualname := u216, params := fP (fnAt p 56), body := .stmts (fB (fnAt p 56)), scope := fS (fnAt p 56), globals := 3, closure := [], defaults := .none, kwdefaults := .none, doc := .none, pyModule := (.str u305 722), annotations := none, code := (.ref 376), closureTuple := .none, builtins := 0 }), #[]⟩ BT.nil BT.nil) (BT.node ⟨(.type PySem.W.SL.s15992201931430999065x14), none, (.fields #[(.int 8 0), (.int 0 0), (.int 1 0)]), #[]⟩ BT.nil BT.nil)))))) (BT.node ⟨(.type PySem.W.SL.s5856160107412720595x4), none, (.fields #[(.str u166 182), (.str u166 183), (.str u164 184), (.int 1 0), (.int 0 0), (.int 0 0), (.int 0 0), (.int 0 0), (.ref 11), (.bool false), (.int 181 0), (.ref 12), .none, .none, .none, .none, (.int 185 0), (.int 1 0), (.str u164 186)]), #[]⟩ (BT.node ⟨(.type PySem.W.SL.s7174869446012820540x8), none, (.func { name := u170, qualname := u170, params := fP (fnAt p 1), body := .stmts (fB (fnAt p 1)), scope := fS (fnAt p 1), globals := 3, closure := [], defaults := .none, kwdefaults := .none, doc := .none, pyModule := (.str u221 187), annotations := none, code := (.ref 20), closureTuple := .none, builtins := 0 }), #[]⟩ (BT.node ⟨.none, none, (.fields #[]), #[]⟩ (BT.node ⟨(.type PySem.W.SL.s14018661285674007319x4), none, (.dict #[⟨PyData.keyHash P u232, (.str u232 268), (.str u233 214)⟩, ⟨PyData.keyHash P u235, (.str u235 272), (.int 18 271)⟩, ⟨PyData.keyHash P u237, (.str u237 273), (.ref 68)⟩, ⟨PyData.keyHash P u2, (.str u2 274), .none⟩] 2), #[]⟩ (BT.node ⟨(.type PySem.W.SL.s7174869446012820540x8), none, (.func { name := u248, qualname := u260, params := fP (inCls p 11 1), body := .stmts (fB (inCls p 11 1)), scope := fS (inCls p 11 1), globals := 3, closure := [], defaults := .none, kwdefaults := .none, doc := .none, pyModule := (.str u245 288), annotations := none, code := (.ref 132), closureTuple := .none, builtins := 0 }), #[]⟩ (BT.node ⟨(.type PySem.W.SL.s658472552662922059x5), none, .plain, #[(some (.ref 260)), (some (.ref 3)), (some (.ref 257)), none, (some (.str u289 580)), none, (some (.ref 0))]⟩ (BT.node ⟨(.type PySem.W.SL.s5991306692159431302x13), none, (.fields #[(.ref 516), .none, .none, .none, (.bool false), .none]), #[]⟩ BT.nil BT.nil) BT.nil) (BT.node ⟨.none, none, (.func { name := u218, qualname := u218, params := fP (fnAt p 59), body := .stmts (fB (fnAt p 59)), scope := fS (fnAt p 59), globals := 0, closure := [], defaults := .none, kwdefaults := .none, doc := .none, pyModule := .none, annotations := none, code := .none, closureTuple := .none, builtins := 0 }), #[]⟩ BT.nil BT.nil)) (BT.node ⟨.none, none, (.fields #[]), #[]⟩ (BT.node ⟨(.type PySem.W.SL.s7174869446012820540x8), none, (.func { name := u285, qualname := u300, params := fP (inCls p 48 0), body := .stmts (fB (inCls p 48 0)), scope := fS (inCls p 48 0), globals := 3, closure := [], defaults := .none, kwdefaults := .none, doc := .none, pyModule := (.str u289 580), annotations := none, code := (.ref 324), closureTuple := .none, builtins := 0 }), #[]⟩ (BT.node ⟨(.type PySem.W.SL.s2766695959194262286x5), none, (.seq #[] 0), #[]⟩ BT.nil BT.nil) BT.nil) (BT.node ⟨(.type PySem.W.SL.s4096838299382398694x14), none, (.fields #[.none, (.int 2 0)]), #[]⟩ BT.nil BT.nil))) (BT.node ⟨(.type PySem.W.SL.s2766695959194262286x5), none, (.seq #[] 0), #[]⟩ (BT.node ⟨(.type PySem.W.SL.s5856160107412720595x4), none, (.fields #[(.str u179 402), (.str u179 403), (.str u164 404), (.int 59 0), (.int 1 0), (.int 0 0), (.int 0 0), (.int 3 0), (.ref 160), (.bool true), (.int 181 0), (.ref 161), .none, (.ref 162), (.ref 163), (.ref 164), (.int 406 0), (.int 59 0), (.str u164 407)]), #[]⟩ (BT.node ⟨(.type PySem.W.SL.s2766695959194262286x5), none, (.seq #[] 0), #[]⟩ (BT.node ⟨(.type PySem.W.SL.s5991306692159431302x13), none, (.fields #[(.ref 548), .none, .none, .none, (.bool false), .none]), #[]⟩ BT.nil BT.nil) BT.nil) (BT.node ⟨(.type PySem.W.SL.s15992201931430999065x14), none, (.fields #[(.int 2 0), (.int 0 0), (.int 1 0)]), #[]⟩ BT.nil BT.nil)) (BT.node ⟨(.type PySem.W.SL.s14018661285674007319x4), none, (.dict #[⟨PyData.keyHash P u232, (.str u232 545), (.str u284 487)⟩, ⟨PyData.keyHash P u234, (.str u234 547), (.str u206 546)⟩, ⟨PyData.keyHash P u235, (.str u235 549), (.int 126 548)⟩, ⟨PyData.keyHash P u285, (.str u285 560), (.ref 240)⟩, ⟨PyData.keyHash P u212, (.str u212 571), (.ref 247)⟩, ⟨PyData.keyHash P u237, (.str u237 572), (.ref 248)⟩] 6), #[]⟩ (BT.node ⟨(.type PySem.W.SL.s2766695959194262286x5), none, (.seq #[] 0), #[]⟩ BT.nil BT.nil) (BT.node ⟨(.type PySem.W.SL.s2766695959194262286x5), none, (.seq #[(.int 6 1007), (.int 7 1015)] 0), #[]⟩ BT.nil BT.nil)))) (BT.node ⟨.none, none, (.fields #[]), #[]⟩ (BT.node ⟨(.type PySem.W.SL.s5856160107412720595x4), none, (.fields #[(.str u176 292), (.str u176 293), (.str u164 294), (.int 27 0), (.int 0 0), (.int 0 0), (.int 0 0), (.int 0 0), (.ref 83), (.bool false), (.int 181 0), (.ref 84), .none, .none, .none, .none, (.int 295 0), (.int 27 0), (.str u164 296)]), #[]⟩ (BT.node ⟨(.type PySem.W.SL.s14755015743595814543x17), none, (.fields #[(.str u255 387), (.ref 148), (.builtin PySem.W.SL.s6511155373996960695x17), (.builtin PySem.W.SL.s12411053484034534018x21)]), #[]⟩ (BT.node ⟨(.type PySem.W.SL.s14755015743595814543x17), none, (.fields #[(.str u255 618), (.ref 276), (.builtin PySem.W.SL.s6511155373996960695x17), (.builtin PySem.W.SL.s12411053484034534018x21)]), #[]⟩ (BT.node ⟨(.type PySem.W.SL.s15992201931430999065x14), none, (.fields #[(.int 8 0), (.int 0 0), (.int 1 0)]), #[]⟩ BT.nil BT.nil) BT.nil) (BT.node ⟨(.type PySem.W.SL.s5991306692159431302x13), none, (.fields #[(.ref 404), .none, .none, .none, (.bool false), .none]), #[]⟩ BT.nil BT.nil)) (BT.node ⟨(.type PySem.W.SL.s2766695959194262286x5), none, (.seq #[] 0), #[]⟩ (BT.node ⟨.none, none, (.fields #[]), #[]⟩ (BT.node ⟨(.type PySem.W.SL.s2766695959194262286x5), none, (.seq #[(.int 14 1357), (.int 7 1365)] 0), #[]⟩ BT.nil BT.nil) BT.nil) (BT.node ⟨(.type PySem.W.SL.s2766695959194262286x5), none, (.seq #[] 0), #[]⟩ BT.nil BT.nil))) (BT.node ⟨(.type PySem.W.SL.s14018661285674007319x4), none, (.dict #[⟨PyData.keyHash P u232, (.str u232 349), (.str u245 288)⟩, ⟨PyData.keyHash P u234, (.str u234 351), (.str u177 350)⟩, ⟨PyData.keyHash P u235, (.str u235 353), (.int 40 352)⟩, ⟨PyData.keyHash P u236, (.str u236 363), (.ref 128)⟩, ⟨PyData.keyHash P u248, (.str u248 369), (.ref 133)⟩, ⟨PyData.keyHash P u249, (.str u249 375), (.ref 138)⟩, ⟨PyData.keyHash P u220, (.str u220 382), (.ref 145)⟩, ⟨PyData.keyHash P u237, (.str u237 386), (.ref 146)⟩] 8), #[]⟩ (BT.node ⟨(.type PySem.W.SL.s7174869446012820540x8), none, (.func { name := u182, qualname := u182, params := fP (fnAt p 17), body := .stmts (fB (fnAt p 17)), scope := fS (fnAt p 17), globals := 3, closure := [], defaults := .none, kwdefaults := .none, doc := .none, pyModule := (.str u264 421), annotations := none, code := (.ref 180), closureTuple := .none, builtins := 0 }), #[]⟩ (BT.node ⟨(.type PySem.W.SL.s14755015743595814543x17), none, (.fields #[(.str u241 664), (.ref 307), (.builtin PySem.W.SL.s10220274742760427390x26), .none]), #[]⟩ (BT.node ⟨(.type PySem.W.SL.s4096838299382398694x14), none, (.fields #[.none, (.int 2 0)]), #[]⟩ BT.nil BT.nil) BT.nil) (BT.node ⟨(.type PySem.W.SL.s5991306692159431302x13), none, (.fields #[(.ref 436), .none, .none, .none, (.bool false), .none]), #[]⟩ BT.nil BT.nil)) (BT.node ⟨.none, none, (.func { name := u212, qualname := u288, params := fP (inCls p 43 1), body := .stmts (fB (inCls p 43 1)), scope := fS (inCls p 43 1), globals := 0, closure := [], defaults := .none, kwdefaults := .none, doc := .none, pyModule := .none, annotations := none, code := .none, closureTuple := .none, builtins := 0 }), #[]⟩ (BT.node ⟨(.type PySem.W.SL.s2766695959194262286x5), none, (.seq #[(.str u231 751), (.str u263 752), (.str u282 753), (.str u283 754)] 0), #[]⟩ BT.nil BT.nil) (BT.node ⟨(.type PySem.W.SL.s9222952809800978799x4), none, (.seq #[] 2), #[]⟩ BT.nil BT.nil))))) (BT.node ⟨(.type PySem.W.SL.s2766695959194262286x5), none, (.seq #[(.type PySem.W.SL.s5946037652744460706x9)] 0), #[]⟩ (BT.node ⟨(.type PySem.W.SL.s17162191345867700912x4), none, (.cls { name := u172, bases := [(.type PySem.W.SL.s5946037652744460706x9)], mro := [(.ref 45), (.type PySem.W.SL.s5946037652744460706x9), (.type PySem.W.SL.s4278001404047624695x13), (.type PySem.W.SL.s2742458400755230247x6)], ns := 44, qualname := u172, hasDict := true, slotNames := [], subclasses := [(.ref 58), (.ref 70)], abstract := false, collection := none, hasDel := false }), #[(some (.ref 29)), none, (some (.str u172 216)), (some (.str u172 224)), (some (.builtin PySem.W.SL.s5160863994218179198x17)), (some (.bool true))]⟩ (BT.node ⟨.none, none, (.func { name := u175, qualname := u175, params := fP (fnAt p 8), body := .stmts (fB (fnAt p 8)), scope := fS (fnAt p 8), globals := 0, closure := [], defaults := .none, kwdefaults := .none, doc := .none, pyModule := .none, annotations := none, code := .none, closureTuple := .none, builtins := 0 }), #[]⟩ (BT.node ⟨(.type PySem.W.SL.s2766695959194262286x5), none, (.seq #[(.str u238 379)] 0), #[]⟩ (BT.node ⟨(.type PySem.W.SL.s2766695959194262286x5), none, (.seq #[] 0), #[]⟩ (BT.node ⟨(.type PySem.W.SL.s2766695959194262286x5), none, (.seq #[] 0), #[]⟩ BT.nil BT.nil) BT.nil) (BT.node ⟨(.type PySem.W.SL.s4096838299382398694x14), none, (.fields #[.none, (.int 2 0)]), #[]⟩ BT.nil BT.nil)) (BT.node ⟨(.type PySem.W.SL.s2766695959194262286x5), none, (.seq #[(.str u225 480), (.str u226 481), (.str u280 482), (.str u231 483)] 0), #[]⟩ (BT.node ⟨(.type PySem.W.SL.s2766695959194262286x5), none, (.seq #[] 0), #[]⟩ (BT.node ⟨(.type PySem.W.SL.s15992201931430999065x14), none, (.fields #[(.int 8 0), (.int 0 0), (.int 1 0)]), #[]⟩ BT.nil BT.nil) BT.nil) (BT.node ⟨(.type PySem.W.SL.s5991306692159431302x13), none, (.fields #[(.ref 460), .none, .none, .none, (.bool false), .none]), #[]⟩ BT.nil BT.nil))) (BT.node ⟨(.type PySem.W.SL.s14018661285674007319x4), none, (.dict #[⟨PyData.keyHash P u232, (.str u232 297), (.str u245 288)⟩, ⟨PyData.keyHash P u235, (.str u235 301), (.int 27 300)⟩, ⟨PyData.keyHash P u236, (.str u236 311), (.ref 93)⟩, ⟨PyData.keyHash P u246, (.str u246 320), (.ref 100)⟩, ⟨PyData.keyHash P u247, (.str u247 330), (.ref 107)⟩, ⟨PyData.keyHash P u237, (.str u237 334), (.ref 108)⟩, ⟨PyData.keyHash P u255, (.str u255 336), (.ref 111)⟩, ⟨PyData.keyHash P u241, (.str u241 338), (.ref 112)⟩, ⟨PyData.keyHash P u2, (.str u2 339), .none⟩] 4), #[]⟩ (BT.node ⟨.none, none, (.fields #[]), #[]⟩ (BT.node ⟨(.type PySem.W.SL.s2766695959194262286x5), none, (.seq #[] 0), #[]⟩ (BT.node ⟨(.type PySem.W.SL.s9222952809800978799x4), none, (.seq #[] 2), #[]⟩ BT.nil BT.nil) BT.nil) (BT.node ⟨(.type PySem.W.SL.s2766695959194262286x5), none, (.seq #[(.int 2 847), (.int 7 855)] 0), #[]⟩ BT.nil BT.nil)) (BT.node ⟨(.type PySem.W.SL.s2766695959194262286x5), none, (.seq #[] 0), #[]⟩ (BT.node ⟨(.type PySem.W.SL.s7174869446012820540x8), none, (.func { name := u214, qualname := u214, params := fP (fnAt p 54), body := .stmts (fB (fnAt p 54)), scope := fS (fnAt p 54), globals := 3, closure := [], defaults := .none, kwdefaults := .none, doc := .none, pyModule := (.str u305 722), annotations := none, code := (.ref 364), closureTuple := .none, builtins := 0 }), #[]⟩ BT.nil BT.nil) (BT.node ⟨(.type PySem.W.SL.s5991306692159431302x13), none, (.fields #[(.ref 492), .none, .none, .none, (.bool false), .none]), #[]⟩ BT.nil BT.nil)))) (BT.node ⟨(.type PySem.W.SL.s2766695959194262286x5), none, (.seq #[(.ref 45)] 0), #[]⟩ (BT.node ⟨(.type PySem.W.SL.s7174869446012820540x8), none, (.func { name := u236, qualname := u251, params := fP (inCls p 10 0), body := .stmts (fB (inCls p 10 0)), scope := fS (inCls p 10 0), globals := 3, closure := [], defaults := .none, kwdefaults := .none, doc := .none, pyModule := (.str u245 288), annotations := none, code := (.ref 92), closureTuple := .none, builtins := 0 }), #[]⟩ (BT.node ⟨.none, none, (.func { name := u178, qualname := u178, params := fP (fnAt p 12), body := .stmts (fB (fnAt p 12)), scope := fS (fnAt p 12), globals := 0, closure := [], defaults := .none, kwdefaults := .none, doc := .none, pyModule := .none, annotations := none, code := .none, closureTuple := .none, builtins := 0 }), #[]⟩ (BT.node ⟨.none, none, (.fields #[(.int 180 0), (.int 4 0), (.ref 291), (.int 183 0), (.int 4 0), (.ref 296), (.int 186 0), (.int 4 0), (.ref 303)]), #[]⟩ (BT.node ⟨(.type PySem.W.SL.s2766695959194262286x5), none, (.seq #[(.int 10 1217), (.int 7 1225)] 0), #[]⟩ BT.nil BT.nil) BT.nil) (BT.node ⟨(.type PySem.W.SL.s2766695959194262286x5), none, (.seq #[] 0), #[]⟩ BT.nil BT.nil)) (BT.node ⟨(.type PySem.W.SL.s7174869446012820540x8), none, (.func { name := u204, qualname := u204, params := fP (fnAt p 41), body := .stmts (fB (fnAt p 41)), scope := fS (fnAt p 41), globals := 3, closure := [], defaults := .none, kwdefaults := .none, doc := .none, pyModule := (.str u284 487), annotations := none, code := (.ref 220), closureTuple := .none, builtins := 0 }), #[]⟩ (BT.node ⟨(.type PySem.W.SL.s2766695959194262286x5), none, (.seq #[(.str u225 717), (.str u226 718)] 0), #[]⟩ (BT.node ⟨(.type PySem.W.SL.s5991306692159431302x13), none, (.fields #[(.ref 604), .none, .none, .none, (.bool false), .none]), #[]⟩ BT.nil BT.nil) BT.nil) (BT.node ⟨(.type PySem.W.SL.s15992201931430999065x14), none, (.fields #[(.int 6 0), (.int 0 0), (.int 1 0)]), #[]⟩ BT.nil BT.nil))) (BT.node ⟨(.type PySem.W.SL.s2766695959194262286x5), none, (.seq #[] 0), #[]⟩ (BT.node ⟨(.type PySem.W.SL.s2766695959194262286x5), none, (.seq #[] 0), #[]⟩ (BT.node ⟨(.type PySem.W.SL.s5856160107412720595x4), none, (.fields #[(.str u210 671), (.str u210 672), (.str u164 673), (.int 189 0), (.int 0 0), (.int 0 0), (.int 0 0), (.int 0 0), (.ref 315), (.bool false), (.int 181 0), (.ref 316), .none, .none, .none, .none, (.int 674 0), (.int 189 0), (.str u164 675)]), #[]⟩ (BT.node ⟨(.type PySem.W.SL.s5991306692159431302x13), none, (.fields #[(.ref 572), .none, .none, .none, (.bool false), .none]), #[]⟩ BT.nil BT.nil) BT.nil) (BT.node ⟨(.type PySem.W.SL.s9222952809800978799x4), none, (.seq #[] 2), #[]⟩ BT.nil BT.nil)) (BT.node ⟨(.type PySem.W.SL.s4290257624100764138x5), none, (.fields #[(.ref 250), (.ref 250), (.ref 250)]), #[]⟩ (BT.node ⟨(.type PySem.W.SL.s2766695959194262286x5), none, (.seq #[] 0), #[]⟩ BT.nil BT.nil) (BT.node ⟨(.type PySem.W.SL.s4096838299382398694x14), none, (.fields #[.none, (.int 2 0)]), #[]⟩ BT.nil BT.nil)))))))) (BT.node ⟨.none, none, (.dict #[⟨PyData.keyHash P u167, (.str u167 241), (.int 45 0)⟩, ⟨PyData.keyHash P u168, (.str u168 242), (.int 1 0)⟩] 2), #[]⟩ (BT.node ⟨(.type PySem.W.SL.s6658869562736209489x6), (some 0), .plain, #[]⟩ (BT.node ⟨.none, none, (.fields #[]), #[]⟩ (BT.node ⟨.none, none, (.fields #[]), #[]⟩ (BT.node ⟨(.type PySem.W.SL.s2766695959194262286x5), none, (.seq #[] 0), #[]⟩ (BT.node ⟨(.type PySem.W.SL.s2766695959194262286x5), none, (.seq #[] 0), #[]⟩ (BT.node ⟨(.type PySem.W.SL.s7174869446012820540x8), none, (.func { name := u236, qualname := u259, params := fP (inCls p 11 0), body := .stmts (fB (inCls p 11 0)), scope := fS (inCls p 11 0), globals := 3, closure := [], defaults := .none, kwdefaults := .none, doc := .none, pyModule := (.str u245 288), annotations := none, code := (.ref 127), closureTuple := .none, builtins := 0 }), #[]⟩ (BT.node ⟨(.type PySem.W.SL.s11030030927630378310x26), none, (.fields #[(.builtin PySem.W.SL.s10062305145149207511x16), (.type PySem.W.SL.s17162191345867700912x4)]), #[]⟩ (BT.node ⟨(.type PySem.W.SL.s5991306692159431302x13), none, (.fields #[(.ref 511), .none, .none, .none, (.bool false), .none]), #[]⟩ BT.nil BT.nil) BT.nil) (BT.node ⟨(.type PySem.W.SL.s7174869446012820540x8), none, (.func { name := u217, qualname := u217, params := fP (fnAt p 57), body := .stmts (fB (fnAt p 57)), scope := fS (fnAt p 57), globals := 3, closure := [], defaults := .none, kwdefaults := .none, doc := .none, pyModule := (.str u305 722), annotations := none, code := (.ref 383), closureTuple := .none, builtins := 0 }), #[]⟩ BT.nil BT.nil)) (BT.node ⟨(.type PySem.W.SL.s2766695959194262286x5), none, (.seq #[] 0), #[]⟩ (BT.node ⟨.none, none, (.fields #[]), #[]⟩ (BT.node ⟨(.type PySem.W.SL.s2766695959194262286x5), none, (.seq #[] 0), #[]⟩ BT.nil BT.nil) BT.nil) (BT.node ⟨(.type PySem.W.SL.s1438033511350832697x5), none, (.fields #[(.int 0 882), (.int 4 894), (.int 1 895)]), #[]⟩ BT.nil BT.nil))) (BT.node ⟨(.type PySem.W.SL.s2766695959194262286x5), none, (.seq #[(.str u238 315), (.str u223 316), (.str u224 317)] 0), #[]⟩ (BT.node ⟨(.type PySem.W.SL.s2766695959194262286x5), none, (.seq #[] 0), #[]⟩ (BT.node ⟨(.type PySem.W.SL.s2766695959194262286x5), none, (.seq #[] 0), #[]⟩ (BT.node ⟨(.type PySem.W.SL.s2766695959194262286x5), none, (.seq #[] 0), #[]⟩ BT.nil BT.nil) BT.nil) (BT.node ⟨(.type PySem.W.SL.s4096838299382398694x14), none, (.fields #[.none, (.int 2 0)]), #[]⟩ BT.nil BT.nil)) (BT.node ⟨.none, none, (.func { name := u205, qualname := u205, params := fP (fnAt p 42), body := .stmts (fB (fnAt p 42)), scope := fS (fnAt p 42), globals := 0, closure := [], defaults := .none, kwdefaults := .none, doc := .none, pyModule := .none, annotations := none, code := .none, closureTuple := .none, builtins := 0 }), #[]⟩ (BT.node ⟨(.type PySem.W.SL.s5856160107412720595x4), none, (.fields #[(.str u212 714), (.str u212 715), (.str u164 716), (.int 207 0), (.int 2 0), (.int 0 0), (.int 0 0), (.int 3 0), (.ref 347), (.bool true), (.int 181 0), (.ref 348), .none, (.ref 349), (.ref 350), (.ref 351), (.int 719 0), (.int 207 0), (.str u164 720)]), #[]⟩ (BT.node ⟨(.type PySem.W.SL.s9222952809800978799x4), none, (.seq #[(.int 0 819), (.int 1 841), (.int 8 846), (.int 16 869), (.int 9 874), (.int 2 879), (.int 3 901), (.int 10 906), (.int 17 911), (.int 24 916), (.int 32 939), (.int 25 944), (.int 18 949), (.int 11 954), (.int 4 959), (.int 5 981), (.int 12 986), (.int 19 991), (.int 26 996), (.int 33 1001), (.int 40 1006), (.int 48 1029), (.int 41 1034), (.int 34 1039), (.int 27 1044), (.int 20 1049), (.int 13 1054), (.int 6 1059), (.int 7 1081), (.int 14 1086), (.int 21 1091), (.int 28 1096), (.int 35 1101), (.int 42 1106), (.int 49 1111), (.int 56 1116), (.int 57 1139), (.int 50 1144), (.int 43 1149), (.int 36 1154), (.int 29 1159), (.int 22 1164), (.int 15 1169), (.int 23 1191), (.int 30 1196), (.int 37 1201), (.int 44 1206), (.int 51 1211), (.int 58 1216), (.int 59 1239), (.int 52 1244), (.int 45 1249), (.int 38 1254), (.int 31 1259), (.int 39 1281), (.int 46 1286), (.int 53 1291), (.int 60 1296), (.int 61 1319), (.int 54 1324), (.int 47 1329), (.int 55 1351), (.int 62 1356), (.int 63 1379)] 1), #[]⟩ BT.nil BT.nil) BT.nil) (BT.node ⟨(.type PySem.W.SL.s2766695959194262286x5), none, (.seq #[(.int 0 1009), (.int (-1) 1012)] 0), #[]⟩ BT.nil BT.nil)))) (BT.node ⟨(.type PySem.W.SL.s11030030927630378310x26), none, (.fields #[(.builtin PySem.W.SL.s4860613602091757760x24), (.ref 45)]), #[]⟩ (BT.node ⟨(.type PySem.W.SL.s2766695959194262286x5), none, (.seq #[] 0), #[]⟩ (BT.node ⟨(.type PySem.W.SL.s5856160107412720595x4), none, (.fields #[(.str u220 376), (.str u262 377), (.str u164 378), (.int 53 0), (.int 1 0), (.int 0 0), (.int 0 0), (.int 3 0), (.ref 139), (.bool true), (.int 181 0), (.ref 140), .none, (.ref 141), (.ref 142), (.ref 143), (.int 380 0), (.int 53 0), (.str u164 381)]), #[]⟩ (BT.node ⟨(.type PySem.W.SL.s5856160107412720595x4), none, (.fields #[(.str u212 611), (.str u295 612), (.str u164 613), (.int 166 0), (.int 2 0), (.int 0 0), (.int 0 0), (.int 3 0), (.ref 269), (.bool true), (.int 181 0), (.ref 270), .none, .none, .none, (.ref 271), (.int 614 0), (.int 166 0), (.str u164 615)]), #[]⟩ (BT.node ⟨(.type PySem.W.SL.s4096838299382398694x14), none, (.fields #[.none, (.int 2 0)]), #[]⟩ BT.nil BT.nil) BT.nil) (BT.node ⟨(.type PySem.W.SL.s5991306692159431302x13), none, (.fields #[(.ref 399), .none, .none, .none, (.bool false), .none]), #[]⟩ BT.nil BT.nil)) (BT.node ⟨(.type PySem.W.SL.s5856160107412720595x4), none, (.fields #[(.str u191 477), (.str u191 478), (.str u164 479), (.int 88 0), (.int 2 0), (.int 0 0), (.int 0 0), (.int 3 0), (.ref 203), (.bool true), (.int 181 0), (.ref 204), .none, (.ref 205), (.ref 206), (.ref 207), (.int 484 0), (.int 88 0), (.str u164 485)]), #[]⟩ (BT.node ⟨(.type PySem.W.SL.s14755015743595814543x17), none, (.fields #[(.str u255 698), (.ref 335), (.builtin PySem.W.SL.s6511155373996960695x17), (.builtin PySem.W.SL.s12411053484034534018x21)]), #[]⟩ (BT.node ⟨(.type PySem.W.SL.s2766695959194262286x5), none, (.seq #[(.int 0 1359), (.int 7 1362)] 0), #[]⟩ BT.nil BT.nil) BT.nil) (BT.node ⟨(.type PySem.W.SL.s2766695959194262286x5), none, (.seq #[] 0), #[]⟩ BT.nil BT.nil))) (BT.node ⟨(.type PySem.W.SL.s14755015743595814543x17), none, (.fields #[(.str u241 337), (.ref 110), (.builtin PySem.W.SL.s10220274742760427390x26), .none]), #[]⟩ (BT.node ⟨(.type PySem.W.SL.s7174869446012820540x8), none, (.func { name := u181, qualname := u181, params := fP (fnAt p 15), body := .stmts (fB (fnAt p 15)), scope := fS (fnAt p 15), globals := 3, closure := [], defaults := .none, kwdefaults := .none, doc := .none, pyModule := (.str u245 288), annotations := none, code := (.ref 175), closureTuple := .none, builtins := 0 }), #[]⟩ (BT.node ⟨(.type PySem.W.SL.s7174869446012820540x8), none, (.func { name := u296, qualname := u299, params := fP (inCls p 47 2), body := .stmts (fB (inCls p 47 2)), scope := fS (inCls p 47 2), globals := 3, closure := [], defaults := .none, kwdefaults := .none, doc := .none, pyModule := (.str u289 580), annotations := none, code := (.ref 303), closureTuple := .none, builtins := 0 }), #[]⟩ (BT.node ⟨(.type PySem.W.SL.s1438033511350832697x5), none, (.fields #[(.int 4 1265), (.int 8 1274), (.int 1 1275)]), #[]⟩ BT.nil BT.nil) BT.nil) (BT.node ⟨(.type PySem.W.SL.s2766695959194262286x5), none, (.seq #[] 0), #[]⟩ BT.nil BT.nil)) (BT.node ⟨(.type PySem.W.SL.s7174869446012820540x8), none, (.func { name := u285, qualname := u287, params := fP (inCls p 43 0), body := .stmts (fB (inCls p 43 0)), scope := fS (inCls p 43 0), globals := 3, closure := [], defaults := .none, kwdefaults := .none, doc := .none, pyModule := (.str u284 487), annotations := none, code := (.ref 239), closureTuple := .none, builtins := 0 }), #[]⟩ (BT.node ⟨.none, none, (.func { name := u215, qualname := u215, params := fP (fnAt p 55), body := .stmts (fB (fnAt p 55)), scope := fS (fnAt p 55), globals := 0, closure := [], defaults := .none, kwdefaults := .none, doc := .none, pyModule := .none, annotations := none, code := .none, closureTuple := .none, builtins := 0 }), #[]⟩ BT.nil BT.nil) (BT.node ⟨(.type PySem.W.SL.s9222952809800978799x4), none, (.seq #[] 2), #[]⟩ BT.nil BT.nil))))) (BT.node ⟨(.type PySem.W.SL.s2766695959194262286x5), none, (.seq #[(.str u222 200), (.str u223 201), (.str u224 202), (.str u225 203), (.str u226 204), (.str u227 205), (.str u220 206), (.str u228 207), (.str u229 208), (.str u230 209), (.str u231 210)] 0), #[]⟩ (BT.node ⟨.none, none, (.func { name := u236, qualname := u240, params := fP (inCls p 4 0), body := .stmts (fB (inCls p 4 0)), scope := fS (inCls p 4 0), globals := 0, closure := [], defaults := .none, kwdefaults := .none, doc := .none, pyModule := .none, annotations := none, code := .none, closureTuple := .none, builtins := 0 }), #[]⟩ (BT.node ⟨(.type PySem.W.SL.s11030030927630378310x26), none, (.fields #[(.builtin PySem.W.SL.s4860613602091757760x24), (.ref 70)]), #[]⟩ (BT.node ⟨.none, none, (.func { name := u249, qualname := u261, params := fP (inCls p 11 2), body := .stmts (fB (inCls p 11 2)), scope := fS (inCls p 11 2), globals := 0, closure := [], defaults := .none, kwdefaults := .none, doc := .none, pyModule := .none, annotations := none, code := .none, closureTuple := .none, builtins := 0 }), #[]⟩ (BT.node ⟨(.type PySem.W.SL.s2766695959194262286x5), none, (.seq #[(.str u238 599), (.str u225 600), (.str u280 601), (.str u246 602), (.str u290 603), (.str u291 604), (.str u292 605), (.str u293 606), (.str u286 607)] 0), #[]⟩ (BT.node ⟨(.type PySem.W.SL.s2766695959194262286x5), none, (.seq #[] 0), #[]⟩ BT.nil BT.nil) BT.nil) (BT.node ⟨(.type PySem.W.SL.s658472552662922059x5), none, (.dict #[⟨PyData.keyHash P u226, (.str u226 789), (.int 8 788)⟩, ⟨PyData.keyHash P u280, (.str u280 790), (.ref 393)⟩, ⟨PyData.keyHash P u313, (.str u313 798), (.int 14 1357)⟩, ⟨PyData.keyHash P u279, (.str u279 803), (.int 7 1362)⟩, ⟨PyData.keyHash P u314, (.str u314 806), (.int 7 1365)⟩, ⟨PyData.keyHash P u250, (.str u250 814), (.ref 602)⟩, ⟨PyData.keyHash P u224, (.str u224 816), (.int 7 1375)⟩] 7), #[]⟩ BT.nil BT.nil)) (BT.node ⟨.none, none, (.func { name := u190, qualname := u190, params := fP (fnAt p 26), body := .stmts (fB (fnAt p 26)), scope := fS (fnAt p 26), globals := 0, closure := [], defaults := .none, kwdefaults := .none, doc := .none, pyModule := .none, annotations := none, code := .none, closureTuple := .none, builtins := 0 }), #[]⟩ (BT.node ⟨(.type PySem.W.SL.s2766695959194262286x5), none, (.seq #[(.str u238 692), (.str u225 693)] 0), #[]⟩ (BT.node ⟨(.type PySem.W.SL.s4096838299382398694x14), none, (.fields #[.none, (.int 2 0)]), #[]⟩ BT.nil BT.nil) BT.nil) (BT.node ⟨(.type PySem.W.SL.s5991306692159431302x13), none, (.fields #[(.ref 455), .none, .none, .none, (.bool false), .none]), #[]⟩ BT.nil BT.nil))) (BT.node ⟨(.type PySem.W.SL.s2766695959194262286x5), none, (.seq #[] 0), #[]⟩ (BT.node ⟨.none, none, (.fields #[]), #[]⟩ (BT.node ⟨(.type PySem.W.SL.s5856160107412720595x4), none, (.fields #[(.str u212 643), (.str u298 644), (.str u164 645), (.int 183 0), (.int 2 0), (.int 0 0), (.int 0 0), (.int 3 0), (.ref 293), (.bool true), (.int 181 0), (.ref 294), .none, .none, .none, (.ref 295), (.int 646 0), (.int 183 0), (.str u164 647)]), #[]⟩ (BT.node ⟨(.type PySem.W.SL.s9222952809800978799x4), none, (.seq #[] 2), #[]⟩ BT.nil BT.nil) BT.nil) (BT.node ⟨(.type PySem.W.SL.s2766695959194262286x5), none, (.seq #[(.int 0 849), (.int (-5) 852)] 0), #[]⟩ BT.nil BT.nil)) (BT.node ⟨(.type PySem.W.SL.s5856160107412720595x4), none, (.fields #[(.str u206 540), (.str u206 541), (.str u164 542), (.int 126 0), (.int 0 0), (.int 0 0), (.int 0 0), (.int 0 0), (.ref 230), (.bool false), (.int 181 0), (.ref 231), .none, .none, .none, .none, (.int 543 0), (.int 126 0), (.str u164 544)]), #[]⟩ (BT.node ⟨(.type PySem.W.SL.s7174869446012820540x8), none, (.func { name := u213, qualname := u213, params := fP (fnAt p 53), body := .stmts (fB (fnAt p 53)), scope := fS (fnAt p 53), globals := 3, closure := [], defaults := .none, kwdefaults := .none, doc := .none, pyModule := (.str u305 722), annotations := none, code := (.ref 359), closureTuple := .none, builtins := 0 }), #[]⟩ BT.nil BT.nil) (BT.node ⟨(.type PySem.W.SL.s2766695959194262286x5), none, (.seq #[] 0), #[]⟩ BT.nil BT.nil)))) (BT.node ⟨(.type PySem.W.SL.s2766695959194262286x5), none, (.seq #[] 0), #[]⟩ (BT.node ⟨.none, none, (.fields #[]), #[]⟩ (BT.node ⟨(.type PySem.W.SL.s11030030927630378310x26), none, (.fields #[(.builtin PySem.W.SL.s4860613602091757760x24), (.ref 148)]), #[]⟩ (BT.node ⟨(.type PySem.W.SL.s11030030927630378310x26), none, (.fields #[(.builtin PySem.W.SL.s4860613602091757760x24), (.ref 276)]), #[]⟩ (BT.node ⟨(.type PySem.W.SL.s2766695959194262286x5), none, (.seq #[(.int 0 1219), (.int 3 1222)] 0), #[]⟩ BT.nil BT.nil) BT.nil) (BT.node ⟨(.type PySem.W.SL.s2766695959194262286x5), none, (.seq #[] 0), #[]⟩ BT.nil BT.nil)) (BT.node ⟨(.type PySem.W.SL.s7174869446012820540x8), none, (.func { name := u203, qualname := u203, params := fP (fnAt p 40), body := .stmts (fB (fnAt p 40)), scope := fS (fnAt p 40), globals := 3, closure := [], defaults := .none, kwdefaults := .none, doc := .none, pyModule := (.str u284 487), annotations := none, code := (.ref 215), closureTuple := .none, builtins := 0 }), #[]⟩ (BT.node ⟨.none, none, (.func { name := u211, qualname := u211, params := fP (fnAt p 50), body := .stmts (fB (fnAt p 50)), scope := fS (fnAt p 50), globals := 0, closure := [], defaults := .none, kwdefaults := .none, doc := .none, pyModule := .none, annotations := none, code := .none, closureTuple := .none, builtins := 0 }), #[]⟩ (BT.node ⟨(.type PySem.W.SL.s2766695959194262286x5), none, (.seq #[] 0), #[]⟩ BT.nil BT.nil) BT.nil) (BT.node ⟨(.type PySem.W.SL.s4096838299382398694x14), none, (.fields #[.none, (.int 2 0)]), #[]⟩ BT.nil BT.nil))) (BT.node ⟨(.type PySem.W.SL.s5856160107412720595x4), none, (.fields #[(.str u177 344), (.str u177 345), (.str u164 346), (.int 40 0), (.int 0 0), (.int 0 0), (.int 0 0), (.int 0 0), (.ref 118), (.bool false), (.int 181 0), (.ref 119), .none, .none, .none, .none, (.int 347 0), (.int 40 0), (.str u164 348)]), #[]⟩ (BT.node ⟨(.type PySem.W.SL.s2766695959194262286x5), none, (.seq #[(.str u219 444), (.str u265 445)] 0), #[]⟩ (BT.node ⟨(.type PySem.W.SL.s2766695959194262286x5), none, (.seq #[] 0), #[]⟩ (BT.node ⟨(.type PySem.W.SL.s5991306692159431302x13), none, (.fields #[(.ref 567), .none, .none, .none, (.bool false), .none]), #[]⟩ BT.nil BT.nil) BT.nil) (BT.node ⟨(.type PySem.W.SL.s9222952809800978799x4), none, (.seq #[] 2), #[]⟩ BT.nil BT.nil)) (BT.node ⟨(.type PySem.W.SL.s2766695959194262286x5), none, (.seq #[] 0), #[]⟩ (BT.node ⟨(.type PySem.W.SL.s5856160107412720595x4), none, (.fields #[(.str u216 748), (.str u216 749), (.str u164 750), (.int 236 0), (.int 2 0), (.int 0 0), (.int 0 0), (.int 3 0), (.ref 371), (.bool true), (.int 181 0), (.ref 372), .none, (.ref 373), (.ref 374), (.ref 375), (.int 755 0), (.int 236 0), (.str u164 756)]), #[]⟩ BT.nil BT.nil) (BT.node ⟨(.type PySem.W.SL.s1438033511350832697x5), none, (.fields #[(.int 0 1062), (.int 8 1074), (.int 1 1075)]), #[]⟩ BT.nil BT.nil)))))) (BT.node ⟨.none, none, (.fields #[(.int 2 0), (.int 0 0), (.ref 20), (.int 4 0), (.int 0 0), (.ref 27), (.int 11 0), (.int 0 0), (.ref 34), (.int 16 0), (.int 0 0), (.ref 54), (.int 18 0), (.int 0 0), (.ref 66), (.int 21 0), (.int 0 0), (.ref 78), (.int 27 0), (.int 0 0), (.ref 85), (.int 40 0), (.int 0 0), (.ref 120), (.int 55 0), (.int 0 0), (.ref 158), (.int 59 0), (.int 0 0), (.ref 165), (.int 61 0), (.int 0 0), (.ref 170), (.int 63 0), (.int 0 0), (.ref 175), (.int 69 0), (.int 0 0), (.ref 180), (.int 77 0), (.int 0 0), (.ref 187), (.int 79 0), (.int 0 0), (.ref 194), (.int 83 0), (.int 0 0), (.ref 201), (.int 88 0), (.int 0 0), (.ref 208), (.int 105 0), (.int 0 0), (.ref 215), (.int 110 0), (.int 0 0), (.ref 220), (.int 120 0), (.int 0 0), (.ref 225), (.int 126 0), (.int 0 0), (.ref 232), (.int 150 0), (.int 0 0), (.ref 260), (.int 178 0), (.int 0 0), (.ref 286), (.int 189 0), (.int 0 0), (.ref 317), (.int 197 0), (.int 0 0), (.ref 345), (.int 207 0), (.int 0 0), (.ref 352), (.int 210 0), (.int 0 0), (.ref 359), (.int 216 0), (.int 0 0), (.ref 364), (.int 223 0), (.int 0 0), (.ref 369), (.int 236 0), (.int 0 0), (.ref 376), (.int 242 0), (.int 0 0), (.ref 383), (.int 252 0), (.int 0 0), (.ref 390)]), #[]⟩ (BT.node ⟨(.type PySem.W.SL.s5856160107412720595x4), none, (.fields #[(.str u170 189), (.str u170 190), (.str u164 191), (.int 2 0), (.int 2 0), (.int 0 0), (.int 0 0), (.int 3 0), (.ref 15), (.bool true), (.int 181 0), (.ref 16), .none, (.ref 17), (.ref 18), (.ref 19), (.int 194 0), (.int 2 0), (.str u164 195)]), #[]⟩ (BT.node ⟨(.type PySem.W.SL.s2766695959194262286x5), none, (.seq #[] 0), #[]⟩ (BT.node ⟨(.type PySem.W.SL.s2766695959194262286x5), none, (.seq #[] 0), #[]⟩ (BT.node ⟨(.type PySem.W.SL.s5856160107412720595x4), none, (.fields #[(.str u248 364), (.str u260 365), (.str u164 366), (.int 47 0), (.int 1 0), (.int 0 0), (.int 0 0), (.int 3 0), (.ref 129), (.bool true), (.int 181 0), (.ref 130), .none, .none, .none, (.ref 131), (.int 367 0), (.int 47 0), (.str u164 368)]), #[]⟩ (BT.node ⟨(.type PySem.W.SL.s5856160107412720595x4), none, (.fields #[(.str u208 586), (.str u208 587), (.str u164 588), (.int 150 0), (.int 0 0), (.int 0 0), (.int 0 0), (.int 0 0), (.ref 258), (.bool false), (.int 181 0), (.ref 259), .none, .none, .none, .none, (.int 589 0), (.int 150 0), (.str u164 590)]), #[]⟩ (BT.node ⟨(.type PySem.W.SL.s2766695959194262286x5), none, (.seq #[] 0), #[]⟩ BT.nil BT.nil) BT.nil) (BT.node ⟨(.type PySem.W.SL.s2766695959194262286x5), none, (.seq #[] 0), #[]⟩ BT.nil BT.nil)) (BT.node ⟨(.type PySem.W.SL.s2766695959194262286x5), none, (.seq #[] 0), #[]⟩ (BT.node ⟨(.type PySem.W.SL.s5856160107412720595x4), none, (.fields #[(.str u285 681), (.str u300 682), (.str u164 683), (.int 191 0), (.int 2 0), (.int 0 0), (.int 0 0), (.int 3 0), (.ref 319), (.bool true), (.int 181 0), (.ref 320), .none, (.ref 321), (.ref 322), (.ref 323), (.int 686 0), (.int 191 0), (.str u164 687)]), #[]⟩ (BT.node ⟨(.type PySem.W.SL.s9222952809800978799x4), none, (.seq #[] 2), #[]⟩ BT.nil BT.nil) BT.nil) (BT.node ⟨(.type PySem.W.SL.s2766695959194262286x5), none, (.seq #[(.int 0 919), (.int (-3) 922)] 0), #[]⟩ BT.nil BT.nil))) (BT.node ⟨(.type PySem.W.SL.s7174869446012820540x8), none, (.func { name := u246, qualname := u252, params := fP (inCls p 10 1), body := .stmts (fB (inCls p 10 1)), scope := fS (inCls p 10 1), globals := 3, closure := [], defaults := .none, kwdefaults := .none, doc := .none, pyModule := (.str u245 288), annotations := none, code := (.ref 99), closureTuple := .none, builtins := 0 }), #[]⟩ (BT.node ⟨.none, none, (.func { name := u179, qualname := u179, params := fP (fnAt p 13), body := .stmts (fB (fnAt p 13)), scope := fS (fnAt p 13), globals := 0, closure := [], defaults := .none, kwdefaults := .none, doc := .none, pyModule := .none, annotations := none, code := .none, closureTuple := .none, builtins := 0 }), #[]⟩ (BT.node ⟨(.type PySem.W.SL.s7174869446012820540x8), none, (.func { name := u285, qualname := u297, params := fP (inCls p 47 0), body := .stmts (fB (inCls p 47 0)), scope := fS (inCls p 47 0), globals := 3, closure := [], defaults := .none, kwdefaults := .none, doc := .none, pyModule := (.str u289 580), annotations := none, code := (.ref 291), closureTuple := .none, builtins := 0 }), #[]⟩ (BT.node ⟨(.type PySem.W.SL.s2766695959194262286x5), none, (.seq #[] 0), #[]⟩ BT.nil BT.nil) BT.nil) (BT.node ⟨(.type PySem.W.SL.s1438033511350832697x5), none, (.fields #[(.int 0 822), (.int 2 834), (.int 1 835)]), #[]⟩ BT.nil BT.nil)) (BT.node ⟨(.type PySem.W.SL.s11030030927630378310x26), none, (.fields #[(.builtin PySem.W.SL.s10062305145149207511x16), (.type PySem.W.SL.s17162191345867700912x4)]), #[]⟩ (BT.node ⟨(.type PySem.W.SL.s2766695959194262286x5), none, (.seq #[(.str u222 727), (.str u286 728), (.str u303 729), (.str u248 730), (.str u249 731), (.str u304 732)] 0), #[]⟩ BT.nil BT.nil) (BT.node ⟨(.type PySem.W.SL.s5991306692159431302x13), none, (.fields #[(.ref 483), .none, .none, .none, (.bool false), .none]), #[]⟩ BT.nil BT.nil)))) (BT.node ⟨(.type PySem.W.SL.s2766695959194262286x5), none, (.seq #[] 0), #[]⟩ (BT.node ⟨.none, none, (.fields #[(.int 29 0), (.int 4 0), (.ref 92), (.int 34 0), (.int 4 0), (.ref 99), (.int 37 0), (.int 4 0), (.ref 106)]), #[]⟩ (BT.node ⟨(.type PySem.W.SL.s17162191345867700912x4), none, (.cls { name := u177, bases := [(.type PySem.W.SL.s2742458400755230247x6)], mro := [(.ref 148), (.type PySem.W.SL.s2742458400755230247x6)], ns := 147, qualname := u177, hasDict := true, slotNames := [], subclasses := [], abstract := false, collection := none, hasDel := false }), #[none, none, (some (.str u177 342)), (some (.str u177 350)), (some (.builtin PySem.W.SL.s11443829558043349243x14)), (some (.bool true))]⟩ (BT.node ⟨(.type PySem.W.SL.s17162191345867700912x4), none, (.cls { name := u208, bases := [(.type PySem.W.SL.s2742458400755230247x6)], mro := [(.ref 276), (.type PySem.W.SL.s2742458400755230247x6)], ns := 275, qualname := u208, hasDict := true, slotNames := [], subclasses := [], abstract := false, collection := none, hasDel := false }), #[none, none, (some (.str u208 584)), (some (.str u208 592)), (some (.builtin PySem.W.SL.s11443829558043349243x14)), (some (.bool true))]⟩ (BT.node ⟨(.type PySem.W.SL.s1438033511350832697x5), none, (.fields #[(.int 2 1175), (.int 8 1184), (.int 1 1185)]), #[]⟩ BT.nil BT.nil) BT.nil) (BT.node ⟨(.type PySem.W.SL.s2766695959194262286x5), none, (.seq #[] 0), #[]⟩ BT.nil BT.nil)) (BT.node ⟨(.type PySem.W.SL.s2766695959194262286x5), none, (.seq #[(.str u267 514), (.str u268 515), (.str u269 516), (.str u270 517), (.str u281 518), (.str u271 519), (.str u272 520), (.str u282 521), (.str u283 522)] 0), #[]⟩ (BT.node ⟨(.type PySem.W.SL.s2766695959194262286x5), none, (.seq #[] 0), #[]⟩ (BT.node ⟨(.type PySem.W.SL.s5991306692159431302x13), none, (.fields #[(.ref 595), .none, .none, .none, (.bool false), .none]), #[]⟩ BT.nil BT.nil) BT.nil) (BT.node ⟨(.type PySem.W.SL.s9222952809800978799x4), none, (.seq #[] 2), #[]⟩ BT.nil BT.nil))) (BT.node ⟨(.type PySem.W.SL.s11030030927630378310x26), none, (.fields #[(.builtin PySem.W.SL.s10062305145149207511x16), (.type PySem.W.SL.s17162191345867700912x4)]), #[]⟩ (BT.node ⟨(.type PySem.W.SL.s5856160107412720595x4), none, (.fields #[(.str u182 423), (.str u182 424), (.str u164 425), (.int 69 0), (.int 2 0), (.int 0 0), (.int 0 0), (.int 3 0), (.ref 177), (.bool true), (.int 181 0), (.ref 178), .none, .none, .none, (.ref 179), (.int 426 0), (.int 69 0), (.str u164 427)]), #[]⟩ (BT.node ⟨(.type PySem.W.SL.s14755015743595814543x17), none, (.fields #[(.str u255 662), (.ref 307), (.builtin PySem.W.SL.s6511155373996960695x17), (.builtin PySem.W.SL.s12411053484034534018x21)]), #[]⟩ (BT.node ⟨(.type PySem.W.SL.s2766695959194262286x5), none, (.seq #[(.int 0 1299), (.int 5 1302)] 0), #[]⟩ BT.nil BT.nil) BT.nil) (BT.node ⟨(.type PySem.W.SL.s2766695959194262286x5), none, (.seq #[] 0), #[]⟩ BT.nil BT.nil)) (BT.node ⟨(.type PySem.W.SL.s2766695959194262286x5), none, (.seq #[] 0), #[]⟩ (BT.node ⟨.none, none, (.fields #[]), #[]⟩ BT.nil BT.nil) (BT.node ⟨(.type PySem.W.SL.s4096838299382398694x14), none, (.fields #[.none, (.int 2 0)]), #[]⟩ BT.nil BT.nil))))) (BT.node ⟨(.type PySem.W.SL.s7174869446012820540x8), none, (.func { name := u171, qualname := u171, params := fP (fnAt p 2), body := .stmts (fB (fnAt p 2)), scope := fS (fnAt p 2), globals := 3, closure := [], defaults := .none, kwdefaults := .none, doc := .none, pyModule := (.str u221 187), annotations := none, code := (.ref 27), closureTuple := .none, builtins := 0 }), #[]⟩ (BT.node ⟨(.type PySem.W.SL.s14018661285674007319x4), none, (.dict #[⟨PyData.keyHash P u232, (.str u232 223), (.str u233 214)⟩, ⟨PyData.keyHash P u235, (.str u235 227), (.int 11 226)⟩, ⟨PyData.keyHash P u236, (.str u236 235), (.ref 42)⟩, ⟨PyData.keyHash P u237, (.str u237 237), (.ref 43)⟩, ⟨PyData.keyHash P u241, (.str u241 239), (.ref 46)⟩, ⟨PyData.keyHash P u2, (.str u2 240), .none⟩] 3), #[]⟩ (BT.node ⟨(.type PySem.W.SL.s2766695959194262286x5), none, (.seq #[] 0), #[]⟩ (BT.node ⟨.none, none, (.fields #[]), #[]⟩ (BT.node ⟨(.type PySem.W.SL.s7174869446012820540x8), none, (.func { name := u285, qualname := u294, params := fP (inCls p 46 0), body := .stmts (fB (inCls p 46 0)), scope := fS (inCls p 46 0), globals := 3, closure := [], defaults := .none, kwdefaults := .none, doc := .none, pyModule := (.str u289 580), annotations := none, code := (.ref 267), closureTuple := .none, builtins := 0 }), #[]⟩ (BT.node ⟨(.type PySem.W.SL.s9222952809800978799x4), none, (.seq #[] 2), #[]⟩ BT.nil BT.nil) BT.nil) (BT.node ⟨(.type PySem.W.SL.s2766695959194262286x5), none, (.seq #[(.int 0 799), (.int (-7) 802)] 0), #[]⟩ BT.nil BT.nil)) (BT.node ⟨.none, none, (.fields #[]), #[]⟩ (BT.node ⟨(.type PySem.W.SL.s7174869446012820540x8), none, (.func { name := u212, qualname := u301, params := fP (inCls p 48 1), body := .stmts (fB (inCls p 48 1)), scope := fS (inCls p 48 1), globals := 3, closure := [], defaults := .none, kwdefaults := .none, doc := .none, pyModule := (.str u289 580), annotations := none, code := (.ref 331), closureTuple := .none, builtins := 0 }), #[]⟩ (BT.node ⟨(.type PySem.W.SL.s1438033511350832697x5), none, (.fields #[(.int 6 1335), (.int 8 1344), (.int 1 1345)]), #[]⟩ BT.nil BT.nil) BT.nil) (BT.node ⟨(.type PySem.W.SL.s2766695959194262286x5), none, (.seq #[] 0), #[]⟩ BT.nil BT.nil))) (BT.node ⟨(.type PySem.W.SL.s2766695959194262286x5), none, (.seq #[(.str u249 331), (.str u250 332), (.str u248 333)] 0), #[]⟩ (BT.node ⟨(.type PySem.W.SL.s2766695959194262286x5), none, (.seq #[] 0), #[]⟩ (BT.node ⟨(.type PySem.W.SL.s2766695959194262286x5), none, (.seq #[(.str u238 652), (.str u225 653), (.str u267 654), (.str u268 655), (.str u269 656), (.str u270 657)] 0), #[]⟩ (BT.node ⟨(.type PySem.W.SL.s4096838299382398694x14), none, (.fields #[.none, (.int 2 0)]), #[]⟩ BT.nil BT.nil) BT.nil) (BT.node ⟨(.type PySem.W.SL.s5991306692159431302x13), none, (.fields #[(.ref 427), .none, .none, .none, (.bool false), .none]), #[]⟩ BT.nil BT.nil)) (BT.node ⟨(.type PySem.W.SL.s2766695959194262286x5), none, (.seq #[(.str u238 553), (.str u225 554), (.str u280 555), (.str u246 556), (.str u286 557)] 0), #[]⟩ (BT.node ⟨(.type PySem.W.SL.s5856160107412720595x4), none, (.fields #[(.str u214 736), (.str u214 737), (.str u164 738), (.int 216 0), (.int 7 0), (.int 0 0), (.int 0 0), (.int 3 0), (.ref 361), (.bool true), (.int 181 0), (.ref 362), .none, .none, .none, (.ref 363), (.int 739 0), (.int 216 0), (.str u164 740)]), #[]⟩ BT.nil BT.nil) (BT.node ⟨(.type PySem.W.SL.s2766695959194262286x5), none, (.seq #[] 0), #[]⟩ BT.nil BT.nil)))) (BT.node ⟨(.type PySem.W.SL.s11030030927630378310x26), none, (.fields #[(.builtin PySem.W.SL.s4860613602091757760x24), (.ref 58)]), #[]⟩ (BT.node ⟨(.type PySem.W.SL.s5856160107412720595x4), none, (.fields #[(.str u236 302), (.str u251 303), (.str u164 304), (.int 29 0), (.int 4 0), (.int 0 0), (.int 0 0), (.int 3 0), (.ref 87), (.bool true), (.int 181 0), (.ref 88), .none, (.ref 89), (.ref 90), (.ref 91), (.int 309 0), (.int 29 0), (.str u164 310)]), #[]⟩ (BT.node ⟨(.type PySem.W.SL.s2766695959194262286x5), none, (.seq #[] 0), #[]⟩ (BT.node ⟨(.type PySem.W.SL.s2766695959194262286x5), none, (.seq #[] 0), #[]⟩ (BT.node ⟨(.type PySem.W.SL.s5991306692159431302x13), none, (.fields #[(.ref 539), .none, .none, .none, (.bool false), .none]), #[]⟩ BT.nil BT.nil) BT.nil) (BT.node ⟨(.type PySem.W.SL.s9222952809800978799x4), none, (.seq #[] 2), #[]⟩ BT.nil BT.nil)) (BT.node ⟨(.type PySem.W.SL.s5856160107412720595x4), none, (.fields #[(.str u204 526), (.str u204 527), (.str u164 528), (.int 110 0), (.int 4 0), (.int 0 0), (.int 0 0), (.int 3 0), (.ref 217), (.bool true), (.int 181 0), (.ref 218), .none, .none, .none, (.ref 219), (.int 529 0), (.int 110 0), (.str u164 530)]), #[]⟩ (BT.node ⟨.none, none, (.fields #[]), #[]⟩ (BT.node ⟨(.type PySem.W.SL.s2766695959194262286x5), none, (.seq #[] 0), #[]⟩ BT.nil BT.nil) BT.nil) (BT.node ⟨(.type PySem.W.SL.s1438033511350832697x5), none, (.fields #[(.int 0 962), (.int 6 974), (.int 1 975)]), #[]⟩ BT.nil BT.nil))) (BT.node ⟨(.type PySem.W.SL.s2766695959194262286x5), none, (.seq #[(.str u238 357), (.str u256 358), (.str u257 359), (.str u258 360)] 0), #[]⟩ (BT.node ⟨(.type PySem.W.SL.s7174869446012820540x8), none, (.func { name := u188, qualname := u188, params := fP (fnAt p 24), body := .stmts (fB (fnAt p 24)), scope := fS (fnAt p 24), globals := 3, closure := [], defaults := .none, kwdefaults := .none, doc := .none, pyModule := (.str u266 429), annotations := none, code := (.ref 187), closureTuple := .none, builtins := 0 }), #[]⟩ (BT.node ⟨.none, none, (.fields #[(.int 191 0), (.int 4 0), (.ref 324), (.int 194 0), (.int 4 0), (.ref 331)]), #[]⟩ (BT.node ⟨(.type PySem.W.SL.s2766695959194262286x5), none, (.seq #[] 0), #[]⟩ BT.nil BT.nil) BT.nil) (BT.node ⟨(.type PySem.W.SL.s4096838299382398694x14), none, (.fields #[.none, (.int 2 0)]), #[]⟩ BT.nil BT.nil)) (BT.node ⟨(.type PySem.W.SL.s14755015743595814543x17), none, (.fields #[(.str u241 575), (.ref 250), (.builtin PySem.W.SL.s10220274742760427390x26), .none]), #[]⟩ (BT.node ⟨(.type PySem.W.SL.s2766695959194262286x5), none, (.seq #[(.str u306 761), (.str u307 762), (.str u308 763), (.str u309 764), (.str u310 765), (.str u280 766), (.str u246 767), (.str u311 768), (.str u312 769)] 0), #[]⟩ BT.nil BT.nil) (BT.node ⟨(.type PySem.W.SL.s2766695959194262286x5), none, (.seq #[(.int 0 1119), (.int 1 1122)] 0), #[]⟩ BT.nil BT.nil))))))) (BT.node ⟨(.type PySem.W.SL.s14018661285674007319x4), none, (.dict #[] 0), #[]⟩ (BT.node ⟨(.type PySem.W.SL.s658472552662922059x5), none, .plain, #[(some (.ref 9)), (some (.ref 3)), (some (.ref 3)), none, (some (.str u160 164)), none, (some (.ref 0))]⟩ (BT.node ⟨(.type PySem.W.SL.s2766695959194262286x5), none, (.seq #[] 0), #[]⟩ (BT.node ⟨(.type PySem.W.SL.s5856160107412720595x4), none, (.fields #[(.str u172 218), (.str u172 219), (.str u164 220), (.int 11 0), (.int 0 0), (.int 0 0), (.int 0 0), (.int 0 0), (.ref 32), (.bool false), (.int 181 0), (.ref 33), .none, .none, .none, .none, (.int 221 0), (.int 11 0), (.str u164 222)]), #[]⟩ (BT.node ⟨(.type PySem.W.SL.s5856160107412720595x4), none, (.fields #[(.str u174 263), (.str u174 264), (.str u164 265), (.int 18 0), (.int 0 0), (.int 0 0), (.int 0 0), (.int 0 0), (.ref 64), (.bool false), (.int 181 0), (.ref 65), .none, .none, .none, .none, (.int 266 0), (.int 18 0), (.str u164 267)]), #[]⟩ (BT.node ⟨.none, none, (.fields #[]), #[]⟩ (BT.node ⟨(.type PySem.W.SL.s2766695959194262286x5), none, (.seq #[] 0), #[]⟩ (BT.node ⟨(.type PySem.W.SL.s4096838299382398694x14), none, (.fields #[.none, (.int 2 0)]), #[]⟩ BT.nil BT.nil) BT.nil) (BT.node ⟨.none, none, (.fields #[]), #[]⟩ BT.nil BT.nil)) (BT.node ⟨(.type PySem.W.SL.s5856160107412720595x4), none, (.fields #[(.str u189 449), (.str u189 450), (.str u164 451), (.int 79 0), (.int 4 0), (.int 0 0), (.int 0 0), (.int 3 0), (.ref 189), (.bool true), (.int 181 0), (.ref 190), .none, (.ref 191), (.ref 192), (.ref 193), (.int 459 0), (.int 79 0), (.str u164 460)]), #[]⟩ (BT.node ⟨(.type PySem.W.SL.s2766695959194262286x5), none, (.seq #[] 0), #[]⟩ (BT.node ⟨(.type PySem.W.SL.s2766695959194262286x5), none, (.seq #[(.int 0 1332), (.int 6 1335)] 0), #[]⟩ BT.nil BT.nil) BT.nil) (BT.node ⟨(.type PySem.W.SL.s2766695959194262286x5), none, (.seq #[] 0), #[]⟩ BT.nil BT.nil))) (BT.node ⟨.none, none, (.func { name := u246, qualname := u252, params := fP (inCls p 10 1), body := .stmts (fB (inCls p 10 1)), scope := fS (inCls p 10 1), globals := 0, closure := [], defaults := .none, kwdefaults := .none, doc := .none, pyModule := .none, annotations := none, code := .none, closureTuple := .none, builtins := 0 }), #[]⟩ (BT.node ⟨(.type PySem.W.SL.s2766695959194262286x5), none, (.seq #[(.str u257 405)] 0), #[]⟩ (BT.node ⟨.none, none, (.func { name := u285, qualname := u297, params := fP (inCls p 47 0), body := .stmts (fB (inCls p 47 0)), scope := fS (inCls p 47 0), globals := 0, closure := [], defaults := .none, kwdefaults := .none, doc := .none, pyModule := .none, annotations := none, code := .none, closureTuple := .none, builtins := 0 }), #[]⟩ (BT.node ⟨(.type PySem.W.SL.s1438033511350832697x5), none, (.fields #[(.int 7 1225), (.int 2 1231), (.int (-1) 1233)]), #[]⟩ BT.nil BT.nil) BT.nil) (BT.node ⟨(.type PySem.W.SL.s2766695959194262286x5), none, (.seq #[] 0), #[]⟩ BT.nil BT.nil)) (BT.node ⟨(.type PySem.W.SL.s7174869446012820540x8), none, (.func { name := u205, qualname := u205, params := fP (fnAt p 42), body := .stmts (fB (fnAt p 42)), scope := fS (fnAt p 42), globals := 3, closure := [], defaults := .none, kwdefaults := .none, doc := .none, pyModule := (.str u284 487), annotations := none, code := (.ref 225), closureTuple := .none, builtins := 0 }), #[]⟩ (BT.node ⟨(.type PySem.W.SL.s2766695959194262286x5), none, (.seq #[] 0), #[]⟩ BT.nil BT.nil) (BT.node ⟨(.type PySem.W.SL.s9222952809800978799x4), none, (.seq #[] 2), #[]⟩ BT.nil BT.nil)))) (BT.node ⟨(.type PySem.W.SL.s11030030927630378310x26), none, (.fields #[(.builtin PySem.W.SL.s10062305145149207511x16), (.type PySem.W.SL.s17162191345867700912x4)]), #[]⟩ (BT.node ⟨(.type PySem.W.SL.s14018661285674007319x4), none, (.dict #[⟨PyData.keyHash P u232, (.str u232 297), (.str u245 288)⟩, ⟨PyData.keyHash P u234, (.str u234 299), (.str u176 298)⟩, ⟨PyData.keyHash P u235, (.str u235 301), (.int 27 300)⟩, ⟨PyData.keyHash P u236, (.str u236 311), (.ref 93)⟩, ⟨PyData.keyHash P u246, (.str u246 320), (.ref 100)⟩, ⟨PyData.keyHash P u247, (.str u247 330), (.ref 107)⟩, ⟨PyData.keyHash P u237, (.str u237 334), (.ref 108)⟩] 7), #[]⟩ (BT.node ⟨(.type PySem.W.SL.s2766695959194262286x5), none, (.seq #[(.str u256 383), (.str u258 384), (.str u257 385)] 0), #[]⟩ (BT.node ⟨(.type PySem.W.SL.s2766695959194262286x5), none, (.seq #[] 0), #[]⟩ (BT.node ⟨(.type PySem.W.SL.s2766695959194262286x5), none, (.seq #[] 0), #[]⟩ BT.nil BT.nil) BT.nil) (BT.node ⟨(.type PySem.W.SL.s4096838299382398694x14), none, (.fields #[.none, (.int 2 0)]), #[]⟩ BT.nil BT.nil)) (BT.node ⟨(.type PySem.W.SL.s2766695959194262286x5), none, (.seq #[] 0), #[]⟩ (BT.node ⟨(.type PySem.W.SL.s4290257624100764138x5), none, (.fields #[(.ref 335), (.ref 335), (.ref 335)]), #[]⟩ (BT.node ⟨(.type PySem.W.SL.s9222952809800978799x4), none, (.seq #[] 2), #[]⟩ BT.nil BT.nil) BT.nil) (BT.node ⟨(.type PySem.W.SL.s2766695959194262286x5), none, (.seq #[(.int 0 962), (.int (-2) 965)] 0), #[]⟩ BT.nil BT.nil))) (BT.node ⟨(.type PySem.W.SL.s11030030927630378310x26), none, (.fields #[(.builtin PySem.W.SL.s4860613602091757760x24), (.ref 110)]), #[]⟩ (BT.node ⟨.none, none, (.fields #[]), #[]⟩ (BT.node ⟨(.type PySem.W.SL.s14018661285674007319x4), none, (.dict #[⟨PyData.keyHash P u232, (.str u232 632), (.str u289 580)⟩, ⟨PyData.keyHash P u235, (.str u235 636), (.int 178 635)⟩, ⟨PyData.keyHash P u285, (.str u285 642), (.ref 292)⟩, ⟨PyData.keyHash P u212, (.str u212 648), (.ref 297)⟩, ⟨PyData.keyHash P u296, (.str u296 660), (.ref 304)⟩, ⟨PyData.keyHash P u237, (.str u237 661), (.ref 305)⟩, ⟨PyData.keyHash P u255, (.str u255 663), (.ref 308)⟩, ⟨PyData.keyHash P u241, (.str u241 665), (.ref 309)⟩, ⟨PyData.keyHash P u2, (.str u2 666), .none⟩] 4), #[]⟩ (BT.node ⟨(.type PySem.W.SL.s2766695959194262286x5), none, (.seq #[] 0), #[]⟩ BT.nil BT.nil) BT.nil) (BT.node ⟨(.type PySem.W.SL.s1438033511350832697x5), none, (.fields #[(.int 2 847), (.int (-1) 861), (.int (-1) 863)]), #[]⟩ BT.nil BT.nil)) (BT.node ⟨.none, none, (.fields #[]), #[]⟩ (BT.node ⟨(.type PySem.W.SL.s7174869446012820540x8), none, (.func { name := u215, qualname := u215, params := fP (fnAt p 55), body := .stmts (fB (fnAt p 55)), scope := fS (fnAt p 55), globals := 3, closure := [], defaults := .none, kwdefaults := .none, doc := .none, pyModule := (.str u305 722), annotations := none, code := (.ref 369), closureTuple := .none, builtins := 0 }), #[]⟩ BT.nil BT.nil) (BT.node ⟨(.type PySem.W.SL.s5991306692159431302x13), none, (.fields #[(.ref 497), .none, .none, .none, (.bool false), .none]), #[]⟩ BT.nil BT.nil))))) (BT.node ⟨.none, none, (.func { name := u171, qualname := u171, params := fP (fnAt p 2), body := .stmts (fB (fnAt p 2)), scope := fS (fnAt p 2), globals := 0, closure := [], defaults := .none, kwdefaults := .none, doc := .none, pyModule := .none, annotations := none, code := .none, closureTuple := .none, builtins := 0 }), #[]⟩ (BT.node ⟨(.type PySem.W.SL.s7174869446012820540x8), none, (.func { name := u236, qualname := u240, params := fP (inCls p 4 0), body := .stmts (fB (inCls p 4 0)), scope := fS (inCls p 4 0), globals := 3, closure := [], defaults := .none, kwdefaults := .none, doc := .none, pyModule := (.str u233 214), annotations := none, code := (.ref 41), closureTuple := .none, builtins := 0 }), #[]⟩ (BT.node ⟨.none, none, (.fields #[]), #[]⟩ (BT.node ⟨(.type PySem.W.SL.s7174869446012820540x8), none, (.func { name := u249, qualname := u261, params := fP (inCls p 11 2), body := .stmts (fB (inCls p 11 2)), scope := fS (inCls p 11 2), globals := 3, closure := [], defaults := .none, kwdefaults := .none, doc := .none, pyModule := (.str u245 288), annotations := none, code := (.ref 137), closureTuple := .none, builtins := 0 }), #[]⟩ (BT.node ⟨.none, none, (.func { name := u285, qualname := u294, params := fP (inCls p 46 0), body := .stmts (fB (inCls p 46 0)), scope := fS (inCls p 46 0), globals := 0, closure := [], defaults := .none, kwdefaults := .none, doc := .none, pyModule := .none, annotations := none, code := .none, closureTuple := .none, builtins := 0 }), #[]⟩ (BT.node ⟨(.type PySem.W.SL.s2766695959194262286x5), none, (.seq #[(.int 0 1172), (.int 2 1175)] 0), #[]⟩ BT.nil BT.nil) BT.nil) (BT.node ⟨(.type PySem.W.SL.s1438033511350832697x5), none, (.fields #[(.int 0 795), (.int 15 794), (.int 1 796)]), #[]⟩ BT.nil BT.nil)) (BT.node ⟨(.type PySem.W.SL.s7174869446012820540x8), none, (.func { name := u190, qualname := u190, params := fP (fnAt p 26), body := .stmts (fB (fnAt p 26)), scope := fS (fnAt p 26), globals := 3, closure := [], defaults := .none, kwdefaults := .none, doc := .none, pyModule := (.str u266 429), annotations := none, code := (.ref 201), closureTuple := .none, builtins := 0 }), #[]⟩ (BT.node ⟨.none, none, (.func { name := u212, qualname := u301, params := fP (inCls p 48 1), body := .stmts (fB (inCls p 48 1)), scope := fS (inCls p 48 1), globals := 0, closure := [], defaults := .none, kwdefaults := .none, doc := .none, pyModule := .none, annotations := none, code := .none, closureTuple := .none, builtins := 0 }), #[]⟩ (BT.node ⟨(.type PySem.W.SL.s2766695959194262286x5), none, (.seq #[] 0), #[]⟩ BT.nil BT.nil) BT.nil) (BT.node ⟨(.type PySem.W.SL.s4096838299382398694x14), none, (.fields #[.none, (.int 2 0)]), #[]⟩ BT.nil BT.nil))) (BT.node ⟨(.type PySem.W.SL.s5856160107412720595x4), none, (.fields #[(.str u247 321), (.str u254 322), (.str u164 323), (.int 37 0), (.int 4 0), (.int 0 0), (.int 0 0), (.int 3 0), (.ref 101), (.bool true), (.int 181 0), (.ref 102), .none, (.ref 103), (.ref 104), (.ref 105), (.int 328 0), (.int 37 0), (.str u164 329)]), #[]⟩ (BT.node ⟨(.type PySem.W.SL.s5856160107412720595x4), none, (.fields #[(.str u180 409), (.str u180 410), (.str u164 411), (.int 61 0), (.int 3 0), (.int 0 0), (.int 0 0), (.int 3 0), (.ref 167), (.bool true), (.int 181 0), (.ref 168), .none, .none, .none, (.ref 169), (.int 412 0), (.int 61 0), (.str u164 413)]), #[]⟩ (BT.node ⟨(.type PySem.W.SL.s2766695959194262286x5), none, (.seq #[] 0), #[]⟩ (BT.node ⟨(.type PySem.W.SL.s5991306692159431302x13), none, (.fields #[(.ref 553), .none, .none, .none, (.bool false), .none]), #[]⟩ BT.nil BT.nil) BT.nil) (BT.node ⟨(.type PySem.W.SL.s9222952809800978799x4), none, (.seq #[] 2), #[]⟩ BT.nil BT.nil)) (BT.node ⟨(.type PySem.W.SL.s2766695959194262286x5), none, (.seq #[] 0), #[]⟩ (BT.node ⟨.none, none, (.fields #[]), #[]⟩ BT.nil BT.nil) (BT.node ⟨(.type PySem.W.SL.s1438033511350832697x5), none, (.fields #[(.int 6 1007), (.int (-1) 1021), (.int (-1) 1023)]), #[]⟩ BT.nil BT.nil)))) (BT.node ⟨(.type PySem.W.SL.s17162191345867700912x4), none, (.cls { name := u173, bases := [(.ref 45)], mro := [(.ref 58), (.ref 45), (.type PySem.W.SL.s5946037652744460706x9), (.type PySem.W.SL.s4278001404047624695x13), (.type PySem.W.SL.s2742458400755230247x6)], ns := 57, qualname := u173, hasDict := true, slotNames := [], subclasses := [], abstract := false, collection := none, hasDel := false }), #[(some (.ref 49)), none, (some (.str u173 245)), (some (.str u173 253)), (some (.builtin PySem.W.SL.s5160863994218179198x17)), (some (.bool true))]⟩ (BT.node ⟨(.type PySem.W.SL.s2766695959194262286x5), none, (.seq #[] 0), #[]⟩ (BT.node ⟨.none, none, (.fields #[]), #[]⟩ (BT.node ⟨(.type PySem.W.SL.s11030030927630378310x26), none, (.fields #[(.builtin PySem.W.SL.s10062305145149207511x16), (.type PySem.W.SL.s17162191345867700912x4)]), #[]⟩ (BT.node ⟨(.type PySem.W.SL.s9222952809800978799x4), none, (.seq #[] 2), #[]⟩ BT.nil BT.nil) BT.nil) (BT.node ⟨(.type PySem.W.SL.s2766695959194262286x5), none, (.seq #[(.int 0 822), (.int (-6) 825)] 0), #[]⟩ BT.nil BT.nil)) (BT.node ⟨.none, none, (.fields #[]), #[]⟩ (BT.node ⟨(.type PySem.W.SL.s7174869446012820540x8), none, (.func { name := u211, qualname := u211, params := fP (fnAt p 50), body := .stmts (fB (fnAt p 50)), scope := fS (fnAt p 50), globals := 3, closure := [], defaults := .none, kwdefaults := .none, doc := .none, pyModule := (.str u302 705), annotations := none, code := (.ref 345), closureTuple := .none, builtins := 0 }), #[]⟩ (BT.node ⟨(.type PySem.W.SL.s1438033511350832697x5), none, (.fields #[(.int 7 1365), (.int 6 1371), (.int (-1) 1373)]), #[]⟩ BT.nil BT.nil) BT.nil) (BT.node ⟨(.type PySem.W.SL.s2766695959194262286x5), none, (.seq #[] 0), #[]⟩ BT.nil BT.nil))) (BT.node ⟨(.type PySem.W.SL.s2766695959194262286x5), none, (.seq #[] 0), #[]⟩ (BT.node ⟨.none, none, (.func { name := u188, qualname := u188, params := fP (fnAt p 24), body := .stmts (fB (fnAt p 24)), scope := fS (fnAt p 24), globals := 0, closure := [], defaults := .none, kwdefaults := .none, doc := .none, pyModule := .none, annotations := none, code := .none, closureTuple := .none, builtins := 0 }), #[]⟩ (BT.node ⟨(.type PySem.W.SL.s14018661285674007319x4), none, (.dict #[⟨PyData.keyHash P u232, (.str u232 676), (.str u289 580)⟩, ⟨PyData.keyHash P u234, (.str u234 678), (.str u210 677)⟩, ⟨PyData.keyHash P u235, (.str u235 680), (.int 189 679)⟩, ⟨PyData.keyHash P u285, (.str u285 688), (.ref 325)⟩, ⟨PyData.keyHash P u212, (.str u212 696), (.ref 332)⟩, ⟨PyData.keyHash P u237, (.str u237 697), (.ref 333)⟩] 6), #[]⟩ (BT.node ⟨(.type PySem.W.SL.s4096838299382398694x14), none, (.fields #[.none, (.int 2 0)]), #[]⟩ BT.nil BT.nil) BT.nil) (BT.node ⟨(.type PySem.W.SL.s5991306692159431302x13), none, (.fields #[(.ref 441), .none, .none, .none, (.bool false), .none]), #[]⟩ BT.nil BT.nil)) (BT.node ⟨(.type PySem.W.SL.s17162191345867700912x4), none, (.cls { name := u206, bases := [(.type PySem.W.SL.s2742458400755230247x6)], mro := [(.ref 250), (.type PySem.W.SL.s2742458400755230247x6)], ns := 249, qualname := u206, hasDict := true, slotNames := [], subclasses := [], abstract := false, collection := none, hasDel := false }), #[none, none, (some (.str u206 538)), (some (.str u206 546)), (some (.builtin PySem.W.SL.s11443829558043349243x14)), (some (.bool true))]⟩ (BT.node ⟨(.type PySem.W.SL.s2766695959194262286x5), none, (.seq #[] 0), #[]⟩ BT.nil BT.nil) (BT.node ⟨(.type PySem.W.SL.s2766695959194262286x5), none, (.seq #[] 0), #[]⟩ BT.nil BT.nil)))))) (BT.node ⟨(.type PySem.W.SL.s658472552662922059x5), none, .plain, #[(some (.ref 13)), (some (.ref 3)), (some (.ref 3)), none, (some (.str u160 164)), none, (some (.ref 0))]⟩ (BT.node ⟨(.type PySem.W.SL.s2766695959194262286x5), none, (.seq #[] 0), #[]⟩ (BT.node ⟨(.type PySem.W.SL.s2766695959194262286x5), none, (.seq #[(.str u238 231), (.str u239 232)] 0), #[]⟩ (BT.node ⟨(.type PySem.W.SL.s17162191345867700912x4), none, (.cls { name := u174, bases := [(.ref 45)], mro := [(.ref 70), (.ref 45), (.type PySem.W.SL.s5946037652744460706x9), (.type PySem.W.SL.s4278001404047624695x13), (.type PySem.W.SL.s2742458400755230247x6)], ns := 69, qualname := u174, hasDict := true, slotNames := [], subclasses := [], abstract := false, collection := none, hasDel := false }), #[(some (.ref 61)), none, (some (.str u174 261)), (some (.str u174 269)), (some (.builtin PySem.W.SL.s5160863994218179198x17)), (some (.bool true))]⟩ (BT.node ⟨(.type PySem.W.SL.s2766695959194262286x5), none, (.seq #[] 0), #[]⟩ (BT.node ⟨(.type PySem.W.SL.s2766695959194262286x5), none, (.seq #[] 0), #[]⟩ (BT.node ⟨(.type PySem.W.SL.s1438033511350832697x5), none, (.fields #[(.int 7 1125), (.int 0 1131), (.int (-1) 1133)]), #[]⟩ BT.nil BT.nil) BT.nil) (BT.node ⟨(.type PySem.W.SL.s5856160107412720595x4), none, (.fields #[(.str u218 775), (.str u218 776), (.str u164 777), (.int 252 0), (.int 1 0), (.int 0 0), (.int 0 0), (.int 3 0), (.ref 385), (.bool true), (.int 181 0), (.ref 386), .none, (.ref 387), (.ref 388), (.ref 389), (.int 785 0), (.int 252 0), (.str u164 786)]), #[]⟩ BT.nil BT.nil)) (BT.node ⟨(.type PySem.W.SL.s2766695959194262286x5), none, (.seq #[(.str u274 465), (.str u275 466), (.str u276 467), (.str u277 468), (.str u273 469), (.str u271 470), (.str u272 471), (.str u278 472), (.str u279 473)] 0), #[]⟩ (BT.node ⟨(.type PySem.W.SL.s2766695959194262286x5), none, (.seq #[] 0), #[]⟩ (BT.node ⟨(.type PySem.W.SL.s5991306692159431302x13), none, (.fields #[(.ref 581), .none, .none, .none, (.bool false), .none]), #[]⟩ BT.nil BT.nil) BT.nil) (BT.node ⟨(.type PySem.W.SL.s9222952809800978799x4), none, (.seq #[] 2), #[]⟩ BT.nil BT.nil))) (BT.node ⟨.none, none, (.fields #[]), #[]⟩ (BT.node ⟨(.type PySem.W.SL.s7174869446012820540x8), none, (.func { name := u179, qualname := u179, params := fP (fnAt p 13), body := .stmts (fB (fnAt p 13)), scope := fS (fnAt p 13), globals := 3, closure := [], defaults := .none, kwdefaults := .none, doc := .none, pyModule := (.str u245 288), annotations := none, code := (.ref 165), closureTuple := .none, builtins := 0 }), #[]⟩ (BT.node ⟨.none, none, (.fields #[]), #[]⟩ (BT.node ⟨(.type PySem.W.SL.s2766695959194262286x5), none, (.seq #[(.int 0 1262), (.int 4 1265)] 0), #[]⟩ BT.nil BT.nil) BT.nil) (BT.node ⟨(.type PySem.W.SL.s2766695959194262286x5), none, (.seq #[] 0), #[]⟩ BT.nil BT.nil)) (BT.node ⟨(.type PySem.W.SL.s2766695959194262286x5), none, (.seq #[] 0), #[]⟩ (BT.node ⟨.none, none, (.func { name := u213, qualname := u213, params := fP (fnAt p 53), body := .stmts (fB (fnAt p 53)), scope := fS (fnAt p 53), globals := 0, closure := [], defaults := .none, kwdefaults := .none, doc := .none, pyModule := .none, annotations := none, code := .none, closureTuple := .none, builtins := 0 }), #[]⟩ BT.nil BT.nil) (BT.node ⟨(.type PySem.W.SL.s4096838299382398694x14), none, (.fields #[.none, (.int 2 0)]), #[]⟩ BT.nil BT.nil)))) (BT.node ⟨(.type PySem.W.SL.s5856160107412720595x4), none, (.fields #[(.str u173 247), (.str u173 248), (.str u164 249), (.int 16 0), (.int 0 0), (.int 0 0), (.int 0 0), (.int 0 0), (.ref 52), (.bool false), (.int 181 0), (.ref 53), .none, .none, .none, .none, (.int 250 0), (.int 16 0), (.str u164 251)]), #[]⟩ (BT.node ⟨(.type PySem.W.SL.s658472552662922059x5), none, .plain, #[(some (.ref 85)), (some (.ref 3)), (some (.ref 82)), none, (some (.str u245 288)), none, (some (.ref 0))]⟩ (BT.node ⟨(.type PySem.W.SL.s14755015743595814543x17), none, (.fields #[(.str u241 389), (.ref 148), (.builtin PySem.W.SL.s10220274742760427390x26), .none]), #[]⟩ (BT.node ⟨(.type PySem.W.SL.s14755015743595814543x17), none, (.fields #[(.str u241 620), (.ref 276), (.builtin PySem.W.SL.s10220274742760427390x26), .none]), #[]⟩ (BT.node ⟨(.type PySem.W.SL.s2766695959194262286x5), none, (.seq #[] 0), #[]⟩ BT.nil BT.nil) BT.nil) (BT.node ⟨(.type PySem.W.SL.s1438033511350832697x5), none, (.fields #[(.int 0 797), (.int (-1) 811), (.int (-1) 813)]), #[]⟩ BT.nil BT.nil)) (BT.node ⟨.none, none, (.func { name := u203, qualname := u203, params := fP (fnAt p 40), body := .stmts (fB (fnAt p 40)), scope := fS (fnAt p 40), globals := 0, closure := [], defaults := .none, kwdefaults := .none, doc := .none, pyModule := .none, annotations := none, code := .none, closureTuple := .none, builtins := 0 }), #[]⟩ (BT.node ⟨(.type PySem.W.SL.s2766695959194262286x5), none, (.seq #[(.str u226 710)] 0), #[]⟩ (BT.node ⟨(.type PySem.W.SL.s4096838299382398694x14), none, (.fields #[.none, (.int 2 0)]), #[]⟩ BT.nil BT.nil) BT.nil) (BT.node ⟨(.type PySem.W.SL.s5991306692159431302x13), none, (.fields #[(.ref 469), .none, .none, .none, (.bool false), .none]), #[]⟩ BT.nil BT.nil))) (BT.node ⟨(.type PySem.W.SL.s2766695959194262286x5), none, (.seq #[] 0), #[]⟩ (BT.node ⟨(.type PySem.W.SL.s2766695959194262286x5), none, (.seq #[] 0), #[]⟩ (BT.node ⟨(.type PySem.W.SL.s4290257624100764138x5), none, (.fields #[(.ref 307), (.ref 307), (.ref 307)]), #[]⟩ (BT.node ⟨(.type PySem.W.SL.s9222952809800978799x4), none, (.seq #[] 2), #[]⟩ BT.nil BT.nil) BT.nil) (BT.node ⟨(.type PySem.W.SL.s2766695959194262286x5), none, (.seq #[(.int 0 882), (.int (-4) 885)] 0), #[]⟩ BT.nil BT.nil)) (BT.node ⟨(.type PySem.W.SL.s5856160107412720595x4), none, (.fields #[(.str u212 561), (.str u288 562), (.str u164 563), (.int 138 0), (.int 2 0), (.int 0 0), (.int 0 0), (.int 3 0), (.ref 241), (.bool true), (.int 181 0), (.ref 242), .none, (.ref 243), (.ref 244), (.ref 245), (.int 569 0), (.int 138 0), (.str u164 570)]), #[]⟩ (BT.node ⟨(.type PySem.W.SL.s2766695959194262286x5), none, (.seq #[] 0), #[]⟩ BT.nil BT.nil) (BT.node ⟨(.type PySem.W.SL.s2766695959194262286x5), none, (.seq #[] 0), #[]⟩ BT.nil BT.nil))))) (BT.node ⟨(.type PySem.W.SL.s11030030927630378310x26), none, (.fields #[(.builtin PySem.W.SL.s10062305145149207511x16), (.type PySem.W.SL.s17162191345867700912x4)]), #[]⟩ (BT.node ⟨(.type PySem.W.SL.s14755015743595814543x17), none, (.fields #[(.str u241 238), (.ref 45), (.builtin PySem.W.SL.s10220274742760427390x26), .none]), #[]⟩ (BT.node ⟨(.type PySem.W.SL.s5856160107412720595x4), none, (.fields #[(.str u175 279), (.str u175 280), (.str u164 281), (.int 21 0), (.int 2 0), (.int 0 0), (.int 0 0), (.int 3 0), (.ref 73), (.bool true), (.int 181 0), (.ref 74), .none, (.ref 75), (.ref 76), (.ref 77), (.int 285 0), (.int 21 0), (.str u164 286)]), #[]⟩ (BT.node ⟨(.type PySem.W.SL.s2766695959194262286x5), none, (.seq #[] 0), #[]⟩ (BT.node ⟨.none, none, (.fields #[]), #[]⟩ (BT.node ⟨(.type PySem.W.SL.s5991306692159431302x13), none, (.fields #[(.ref 525), .none, .none, .none, (.bool false), .none]), #[]⟩ BT.nil BT.nil) BT.nil) (BT.node ⟨(.type PySem.W.SL.s9222952809800978799x4), none, (.seq #[] 2), #[]⟩ BT.nil BT.nil)) (BT.node ⟨(.type PySem.W.SL.s2766695959194262286x5), none, (.seq #[] 0), #[]⟩ (BT.node ⟨(.type PySem.W.SL.s14018661285674007319x4), none, (.dict #[⟨PyData.keyHash P u232, (.str u232 676), (.str u289 580)⟩, ⟨PyData.keyHash P u235, (.str u235 680), (.int 189 679)⟩, ⟨PyData.keyHash P u285, (.str u285 688), (.ref 325)⟩, ⟨PyData.keyHash P u212, (.str u212 696), (.ref 332)⟩, ⟨PyData.keyHash P u237, (.str u237 697), (.ref 333)⟩, ⟨PyData.keyHash P u255, (.str u255 699), (.ref 336)⟩, ⟨PyData.keyHash P u241, (.str u241 701), (.ref 337)⟩, ⟨PyData.keyHash P u2, (.str u2 702), .none⟩] 4), #[]⟩ (BT.node ⟨(.type PySem.W.SL.s2766695959194262286x5), none, (.seq #[] 0), #[]⟩ BT.nil BT.nil) BT.nil) (BT.node ⟨(.type PySem.W.SL.s1438033511350832697x5), none, (.fields #[(.int 4 917), (.int (-1) 931), (.int (-1) 933)]), #[]⟩ BT.nil BT.nil))) (BT.node ⟨(.type PySem.W.SL.s17162191345867700912x4), none, (.cls { name := u176, bases := [(.type PySem.W.SL.s2742458400755230247x6)], mro := [(.ref 110), (.type PySem.W.SL.s2742458400755230247x6)], ns := 109, qualname := u176, hasDict := true, slotNames := [], subclasses := [], abstract := false, collection := none, hasDel := false }), #[none, none, (some (.str u176 290)), (some (.str u176 298)), (some (.builtin PySem.W.SL.s11443829558043349243x14)), (some (.bool true))]⟩ (BT.node ⟨.none, none, (.func { name := u181, qualname := u181, params := fP (fnAt p 15), body := .stmts (fB (fnAt p 15)), scope := fS (fnAt p 15), globals := 0, closure := [], defaults := .none, kwdefaults := .none, doc := .none, pyModule := .none, annotations := none, code := .none, closureTuple := .none, builtins := 0 }), #[]⟩ (BT.node ⟨.none, none, (.func { name := u296, qualname := u299, params := fP (inCls p 47 2), body := .stmts (fB (inCls p 47 2)), scope := fS (inCls p 47 2), globals := 0, closure := [], defaults := .none, kwdefaults := .none, doc := .none, pyModule := .none, annotations := none, code := .none, closureTuple := .none, builtins := 0 }), #[]⟩ (BT.node ⟨(.type PySem.W.SL.s2766695959194262286x5), none, (.seq #[] 0), #[]⟩ BT.nil BT.nil) BT.nil) (BT.node ⟨(.type PySem.W.SL.s4096838299382398694x14), none, (.fields #[.none, (.int 2 0)]), #[]⟩ BT.nil BT.nil)) (BT.node ⟨.none, none, (.func { name := u285, qualname := u287, params := fP (inCls p 43 0), body := .stmts (fB (inCls p 43 0)), scope := fS (inCls p 43 0), globals := 0, closure := [], defaults := .none, kwdefaults := .none, doc := .none, pyModule := .none, annotations := none, code := .none, closureTuple := .none, builtins := 0 }), #[]⟩ (BT.node ⟨(.type PySem.W.SL.s2766695959194262286x5), none, (.seq #[] 0), #[]⟩ BT.nil BT.nil) (BT.node ⟨(.type PySem.W.SL.s2766695959194262286x5), none, (.seq #[(.int 0 1062), (.int 0 1065)] 0), #[]⟩ BT.nil BT.nil)))) (BT.node ⟨(.type PySem.W.SL.s11030030927630378310x26), none, (.fields #[(.builtin PySem.W.SL.s10062305145149207511x16), (.type PySem.W.SL.s17162191345867700912x4)]), #[]⟩ (BT.node ⟨(.type PySem.W.SL.s2766695959194262286x5), none, (.seq #[] 0), #[]⟩ (BT.node ⟨(.type PySem.W.SL.s5856160107412720595x4), none, (.fields #[(.str u178 394), (.str u178 395), (.str u164 396), (.int 55 0), (.int 2 0), (.int 0 0), (.int 0 0), (.int 3 0), (.ref 153), (.bool true), (.int 181 0), (.ref 154), .none, (.ref 155), (.ref 156), (.ref 157), (.int 399 0), (.int 55 0), (.str u164 400)]), #[]⟩ (BT.node ⟨(.type PySem.W.SL.s5856160107412720595x4), none, (.fields #[(.str u209 627), (.str u209 628), (.str u164 629), (.int 178 0), (.int 0 0), (.int 0 0), (.int 0 0), (.int 0 0), (.ref 284), (.bool false), (.int 181 0), (.ref 285), .none, .none, .none, .none, (.int 630 0), (.int 178 0), (.str u164 631)]), #[]⟩ (BT.node ⟨(.type PySem.W.SL.s4096838299382398694x14), none, (.fields #[.none, (.int 2 0)]), #[]⟩ BT.nil BT.nil) BT.nil) (BT.node ⟨(.type PySem.W.SL.s5991306692159431302x13), none, (.fields #[(.ref 413), .none, .none, .none, (.bool false), .none]), #[]⟩ BT.nil BT.nil)) (BT.node ⟨(.type PySem.W.SL.s2766695959194262286x5), none, (.seq #[] 0), #[]⟩ (BT.node ⟨(.type PySem.W.SL.s2766695959194262286x5), none, (.seq #[] 0), #[]⟩ (BT.node ⟨(.type PySem.W.SL.s2766695959194262286x5), none, (.seq #[] 0), #[]⟩ BT.nil BT.nil) BT.nil) (BT.node ⟨(.type PySem.W.SL.s2766695959194262286x5), none, (.seq #[] 0), #[]⟩ BT.nil BT.nil))) (BT.node ⟨.none, none, (.func { name := u236, qualname := u259, params := fP (inCls p 11 0), body := .stmts (fB (inCls p 11 0)), scope := fS (inCls p 11 0), globals := 0, closure := [], defaults := .none, kwdefaults := .none, doc := .none, pyModule := .none, annotations := none, code := .none, closureTuple := .none, builtins := 0 }), #[]⟩ (BT.node ⟨.none, none, (.fields #[]), #[]⟩ (BT.node ⟨(.type PySem.W.SL.s658472552662922059x5), none, .plain, #[(some (.ref 317)), (some (.ref 3)), (some (.ref 314)), none, (some (.str u289 580)), none, (some (.ref 0))]⟩ (BT.node ⟨(.type PySem.W.SL.s1438033511350832697x5), none, (.fields #[(.int 7 1305), (.int 4 1311), (.int (-1) 1313)]), #[]⟩ BT.nil BT.nil) BT.nil) (BT.node ⟨(.type PySem.W.SL.s2766695959194262286x5), none, (.seq #[] 0), #[]⟩ BT.nil BT.nil)) (BT.node ⟨(.type PySem.W.SL.s11030030927630378310x26), none, (.fields #[(.builtin PySem.W.SL.s4860613602091757760x24), (.ref 250)]), #[]⟩ (BT.node ⟨.none, none, (.func { name := u217, qualname := u217, params := fP (fnAt p 57), body := .stmts (fB (fnAt p 57)), scope := fS (fnAt p 57), globals := 0, closure := [], defaults := .none, kwdefaults := .none, doc := .none, pyModule := .none, annotations := none, code := .none, closureTuple := .none, builtins := 0 }), #[]⟩ BT.nil BT.nil) (BT.node ⟨(.type PySem.W.SL.s9222952809800978799x4), none, (.seq #[] 2), #[]⟩ BT.nil BT.nil)))))))))
noncomputable def env0 (p : Program) : Env := { scope := p.main.scope, locals := mainNs, globals := mainNs, cells := [], code := .ref 13, frame := some 14 }
noncomputable def cE (p : Program) : Code := .body (behindTheImports p) (env0 p)
noncomputable def pos0 : Pos := ⟨0, 0, 0, 0⟩
noncomputable def posA : Pos := ⟨252, 0, 260, 23⟩
noncomputable def posB : Pos := ⟨261, 0, 261, 7⟩
noncomputable abbrev Bf : List Frame := [topFrame pos0]
noncomputable def ann0 : Option Value := some (.ref 6)
noncomputable def sP (p : Program) (w : World) (os : OsState) : SharedT := ⟨tP p w.params, 15, {}, #[], {}, 187, os⟩
noncomputable def sA (p : Program) (w : World) (os : OsState) : SharedT := ⟨tA p w.params, 392, {}, #[], {}, 788, os⟩
noncomputable def sB (p : Program) (w : World) (os : OsState) : SharedT := ⟨tB p w.params, 610, {}, #[], {}, 1381, os⟩
noncomputable def l1 (p : Program) : List Stmt := (behindTheImports p).take 60
noncomputable def l2 (p : Program) : List Stmt := ((behindTheImports p).drop 60).take 1
noncomputable def l3 (p : Program) : List Stmt := (behindTheImports p).drop 61
noncomputable abbrev qw : Program := pw
-- part LP1
theorem pre_run (w : World) (os : OsState) : topGo treeTable pw w 11 (some (.ref 6)) 12 ⟨boot_heap w.params, #[], boot_drawn, boot_toks, os⟩ (topStub pw) = some ((sP pw w os).abs, ⟨denote treeTable (cE pw), cE pw, pos0, Bf⟩) := by
  kernel_rfl
theorem blk_t (w : World) (os : OsState) : segRunT treeTable pw w 11 (some (.ref 6)) 1 1 (sP pw w os) (blockOf (behindTheImports pw) (env0 pw) (cE pw) pos0 Bf) = some (.next, sP pw w os, cE pw, pos0) := by
  kernel_rfl
theorem p1_t (w : World) (os : OsState) : PySem.W.Fast.tw10110043849684766642 PySem.W.Fast.tw14364793385576792824 qw w 11 (some (.ref 6)) 1 3271 (sP qw w os) ⟨(PySem.W.Fast.tw12563942051412417395 (l1 qw) (env0 qw)).wrap doneF deadEnd id id, cE qw, pos0, Bf⟩ = some (.next, sA qw w os, cE qw, posA) := by
  kernel_rfl
theorem qw_eq : qw = pw := rfl
theorem p1 (w : World) (os : OsState) : segRun treeTable pw w 11 (some (.ref 6)) 1 3271 (sP pw w os).abs (piecesOf (l1 pw) (env0 pw) (cE pw) pos0 Bf) = some (.next, (sA pw w os).abs, cE pw, posA) := by
  apply segRun_of
  have h := p1_t w os
  rw [← PySem.W.Fast.te10110043849684766642, ← PySem.W.Fast.te14364793385576792824, ← PySem.W.Fast.te12563942051412417395, qw_eq] at h
  exact h
-- part LP2
theorem p2_f (w : World) (os : OsState) : PySem.W.Fast.tw10110043849684766642 PySem.W.Fast.tw14364793385576792824 qw (w.withFollow "special-get-raises" false) 11 (some (.ref 6)) 1 8708 (sA qw (w.withFollow "special-get-raises" false) os) ⟨(PySem.W.Fast.tw12563942051412417395 (l2 qw) (env0 qw)).wrap doneF deadEnd id id, cE qw, posA, Bf⟩ = some (.next, sB qw (w.withFollow "special-get-raises" false) os, cE qw, posB) := by
  kernel_rfl
theorem p2_t (w : World) (os : OsState) : PySem.W.Fast.tw10110043849684766642 PySem.W.Fast.tw14364793385576792824 qw (w.withFollow "special-get-raises" true) 11 (some (.ref 6)) 1 8708 (sA qw (w.withFollow "special-get-raises" true) os) ⟨(PySem.W.Fast.tw12563942051412417395 (l2 qw) (env0 qw)).wrap doneF deadEnd id id, cE qw, posA, Bf⟩ = some (.next, sB qw (w.withFollow "special-get-raises" true) os, cE qw, posB) := by
  kernel_rfl
theorem p2 (w : World) (os : OsState) : segRun treeTable pw w 11 (some (.ref 6)) 1 8708 (sA pw w os).abs (piecesOf (l2 pw) (env0 pw) (cE pw) posA Bf) = some (.next, (sB pw w os).abs, cE pw, posB) := by
  apply segRun_of
  have h := byRow2 "special-get-raises" (P := fun w => ∀ os, PySem.W.Fast.tw10110043849684766642 PySem.W.Fast.tw14364793385576792824 qw w 11 (some (.ref 6)) 1 8708 (sA qw w os) ⟨(PySem.W.Fast.tw12563942051412417395 (l2 qw) (env0 qw)).wrap doneF deadEnd id id, cE qw, posA, Bf⟩ = some (.next, sB qw w os, cE qw, posB)) p2_f p2_t w os
  rw [← PySem.W.Fast.te10110043849684766642, ← PySem.W.Fast.te14364793385576792824, ← PySem.W.Fast.te12563942051412417395, qw_eq] at h
  exact h
-- part LP3
noncomputable def v0 : PySem.Str := ⟨#[111, 114, 100, 101, 114]⟩
noncomputable def v1 : PySem.Str := ⟨#[116, 111, 95, 98, 108, 111, 99, 107]⟩
noncomputable def v2 : PySem.Str := ⟨#[115, 97, 109, 112, 108, 101, 95, 98, 108, 111, 99, 107]⟩
noncomputable def v3 : PySem.Str := ⟨#[112, 108, 97, 110, 101, 95, 111, 102]⟩
noncomputable def v4 : PySem.Str := ⟨#[107, 101, 112, 116, 95, 112, 105, 99, 116, 117, 114, 101]⟩
noncomputable def v5 : PySem.Str := ⟨#[112, 97, 114, 116, 115]⟩
noncomputable def v6 : PySem.Str := ⟨#[67, 111, 109, 112, 111, 110, 101, 110, 116]⟩
noncomputable def v7 : PySem.Str := ⟨#[70, 114, 97, 109, 101]⟩
noncomputable def v8 : PySem.Str := ⟨#[71, 114, 105, 100]⟩
noncomputable def v9 : PySem.Str := ⟨#[95, 108, 97, 119, 95, 112, 101, 110]⟩
noncomputable def v10 : PySem.Str := ⟨#[95, 108, 97, 119, 95, 100, 114, 97, 119]⟩
noncomputable def v11 : PySem.Str := ⟨#[95, 108, 97, 119, 95, 102, 114, 97, 109, 101]⟩
noncomputable def v12 : PySem.Str := ⟨#[95, 108, 97, 119, 95, 117, 112]⟩
noncomputable def v13 : PySem.Str := ⟨#[95, 108, 97, 119, 95, 98, 108, 111, 99, 107]⟩
noncomputable def v14 : PySem.Str := ⟨#[95, 108, 97, 119, 95, 102, 105, 108, 108, 101, 100]⟩
noncomputable def v15 : PySem.Str := ⟨#[95, 108, 97, 119, 95, 112, 108, 97, 110, 101]⟩
noncomputable def lsn : List PySem.Str := [u170, u171, u172, u173, u174, u175, u176, u177, u178, u179, u180, u181, u182, u183, u184, u185, u186, u187, u188, u189, u190, u191, u192, u193, u194, u195, u196, u197, u198, u199, u200, u201, u202, u203, u204, u205, u206, u207, u208, u209, u210, u211, u212, u213, u214, u215, u216, u217, u218, u315, v0, v1, v2, v3, v4, v5, v6, v7, v8, v9, v10, v11, v12, v13, v14, v15]
noncomputable def vw (p : Program) : Program := view p [81]
noncomputable def okF : Flow → Bool
  | .next => true
  | _ => false
noncomputable def getT (S : SharedT) (a : Addr) : Option Obj := match Nat.blt a S.n with
  | true => (match S.tree.get a with
    | some o => alive o
    | none => none)
  | false => none
noncomputable def topOk (p : Program) (w : World) (s : Shared) : Bool := staticsOk (importedModules p.main.body) (boot_heap w.params) s.heap && namesBound p s.heap && gensDone s && laidKept (boot_heap w.params) s.heap
theorem p3_t (w : World) (os : OsState) : (PySem.W.Fast.tw10110043849684766642 PySem.W.Fast.tw14364793385576792824 qw w 11 (some (.ref 6)) 1 1442 (sB qw w os) ⟨(PySem.W.Fast.tw12563942051412417395 (l3 qw) (env0 qw)).wrap doneF deadEnd id id, cE qw, posB, Bf⟩).map
    (fun r => (okF r.1, topOk qw w r.2.1.abs, PySem.W.Fast.tw4187177175401517315 (vw qw) lsn (importedModules qw.main.body) (fun _ => true) true r.2.1.abs, Kas.map (getT r.2.1), r.2.2.1)) =
    some (true, true, openGood (vw qw) lsn, (Kf qw w.params).map (fun x => some x.2), cE qw) := by
  kernel_rfl
theorem p3 (w : World) (os : OsState) : ∃ (S : SharedT) (q : Pos), segRun treeTable pw w 11 (some (.ref 6)) 1 1442 (sB pw w os).abs (piecesOf (l3 pw) (env0 pw) (cE pw) posB Bf) = some (.next, S.abs, cE pw, q) ∧
    topOk pw w S.abs = true ∧ openSeen (vw pw) lsn (importedModules pw.main.body) (fun _ => true) true S.abs = openGood (vw pw) lsn ∧ Kas.map (getT S) = (Kf pw w.params).map (fun x => some x.2) := by
  have h := p3_t w os
  rw [← PySem.W.Fast.te10110043849684766642, ← PySem.W.Fast.te14364793385576792824, ← PySem.W.Fast.te12563942051412417395, ← PySem.W.Fast.te4187177175401517315, qw_eq] at h
  obtain ⟨⟨f, S, c, q⟩, e, h2⟩ := Option.map_eq_some_iff.mp h
  simp only [Prod.mk.injEq] at h2
  obtain ⟨h3, h4, h5, h6, h7⟩ := h2
  have hf : f = .next := by
    cases f <;> first | rfl | cases h3
  subst hf
  subst h7
  exact ⟨S, q, segRun_of e, h4, h5, h6⟩
theorem fin_run {w : World} {s : Shared} {q : Pos} : topRun treeTable pw w 11 (some (.ref 6)) 2 s (restOf [] (env0 pw) (cE pw) q Bf) = some s := by
  refine piece_nil ?_
  have e1 : through ⟨doneF .next, cE pw, q, Bf⟩ = false := rfl
  have e2 : stepOk 11 (some (.ref 6)) ⟨doneF .next, cE pw, q, Bf⟩ = true := by rfl
  unfold topRun
  rw [e1, e2]
  obtain ⟨hp, g, d, t, o⟩ := s
  rfl
theorem split3 (L : List Stmt) : L = L.take 60 ++ ((L.drop 60).take 1 ++ (L.drop 61 ++ [])) := by
  rw [List.append_nil, show (61 : Nat) = 60 + 1 from rfl, ← List.drop_drop, List.take_append_drop, List.take_append_drop]
theorem top_run (w : World) (os : OsState) : ∃ S : SharedT, topRun treeTable pw w 11 (some (.ref 6)) (12 + (1 + (3271 + (8708 + (1442 + 2))))) ⟨boot_heap w.params, #[], boot_drawn, boot_toks, os⟩ (topStub pw) = some S.abs ∧
    topOk pw w S.abs = true ∧ openSeen (vw pw) lsn (importedModules pw.main.body) (fun _ => true) true S.abs = openGood (vw pw) lsn ∧ Kas.map (getT S) = (Kf pw w.params).map (fun x => some x.2) := by
  obtain ⟨S, q, e, h4, h5, h6⟩ := p3 w os
  refine ⟨S, ?_, h4, h5, h6⟩
  refine go_top (pre_run w os) ?_
  refine piece_block (env := env0 pw) (b := behindTheImports pw) (segRun_of (blk_t w os)) ?_
  have hb : behindTheImports pw = l1 pw ++ (l2 pw ++ (l3 pw ++ [])) := split3 _
  rw [hb]
  refine piece_app (p1 w os) ?_
  refine piece_app (p2 w os) ?_
  refine piece_app e ?_
  exact fin_run
-- part LTop
theorem boot_looks (P : Params) : ((boot_heap P).isNs mainGlobals, (boot_heap P).objs.size, (boot_heap P).nsMap mainGlobals "__annotations__") = (true, 11, some (.ref 6)) := by kernel_rfl
theorem get_of_getT {S : SharedT} {a : Addr} {o : Obj} (h : getT S a = some o) : S.abs.heap.get? a = some o := by
  unfold getT at h
  cases q : Nat.blt a S.n with
  | false => rw [q] at h; cases h
  | true =>
    rw [q] at h
    have lt : a < S.n := Nat.le_of_ble_eq_true q
    cases g : S.tree.get a with
    | none => simp only [g] at h; cases h
    | some o' =>
      simp only [g] at h
      exact (abs_get lt g).trans h
theorem gets_of {S : SharedT} : ∀ {l : List Addr} {k : List (Addr × Obj)}, l.map (getT S) = k.map (fun x => some x.2) → l.map S.abs.heap.get? = k.map (fun x => some x.2)
  | [], [], _ => rfl
  | [], _ :: _, h => nomatch h
  | _ :: _, [], h => nomatch h
  | a :: l, x :: k, h => by
    simp only [List.map_cons, List.cons.injEq] at h ⊢
    exact ⟨get_of_getT h.1, gets_of h.2⟩
theorem opening_is : opening pw = plainProg pw.main.scope.names := by kernel_rfl
theorem fence_is (s : Shared) : fenceModules? pw s = some s := by kernel_rfl
theorem ends_of {tb : String → Option Builtin} {p : Program} {w : World} {N : Nat} {a b : Shared} (e : fencedOpening tb p w N = some a) (t : topFrom tb p w N a = some b) : openEnds tb p w N = some b := by
  unfold openEnds; rw [e]; exact t
theorem map_of {α β : Type} {o : Option α} {a : α} {f : α → β} {b : β} (e : o = some a) (h : f a = b) : o.map f = some b := by
  subst e; subst h; rfl
theorem left : LeftO pw (vw pw) lsn (fun _ => true) (fun s => Kas.map s.heap.get?) (fun w => (Kf pw w.params).map fun x => some x.2) 14000 true := fun w => by
  obtain ⟨⟨h, gs, d, k, os⟩, e, e'⟩ := Option.map_eq_some_iff.mp (boot_open (p := pw) (N := 14000) opening_is (by decide) fence_is w)
  obtain ⟨rfl, rfl, rfl, rfl⟩ : h = boot_heap w.params ∧ gs = Array.mk [] ∧ d = boot_drawn ∧ k = boot_toks := by simpa using e'
  obtain ⟨S, r, h4, h5, h6⟩ := top_run w os
  have z := boot_looks w.params
  simp only [Prod.mk.injEq] at z
  obtain ⟨z1, z2, z3⟩ := z
  have r' := topRun_mono (14000 - (12 + (1 + (3271 + (8708 + (1442 + 2)))))) _ _ _ _ r
  have t : topFrom treeTable pw w 14000 ⟨boot_heap w.params, Array.mk [], boot_drawn, boot_toks, os⟩ = some S.abs := by
    unfold topFrom
    dsimp only
    have e1 : topRun treeTable pw w 11 (some (.ref 6)) 14000 ⟨boot_heap w.params, Array.mk [], boot_drawn, boot_toks, os⟩ (topStub pw) = some S.abs := r'
    rw [z1, z2, z3, e1]
    show (match topOk pw w S.abs with | true => some S.abs | false => none) = _
    rw [h4]
  exact map_of (ends_of e t) (congr (congrArg Prod.mk h5) (gets_of h6))
-- part LWs
noncomputable abbrev rp : Program := PySem.Challenge.rw_ok0152_01.row.prog
theorem ws1 : namesResolve rp = true := by kernel_rfl
theorem ws2 : noRoadLSs { strict := !(importedModules rp.main.body).all cThrough.contains, foot := none, bare := (["vars", "dir", "locals"] : List PySem.Str).filter (readsOut rp rp.main.body) } rp.main.body = true := by kernel_rfl
theorem ws3 : namesMeet rp rp.main.body (fun _ n => attrL n) = true := by kernel_rfl
theorem ws4 : looksOpen rp = true := by
  delta looksOpen
  with_reducible exact look_both (look_both (look_both (look_both (by kernel_rfl) ws1) (by kernel_rfl)) ws2) ws3
theorem ws5 : PySem.Challenge.rw_ok0152_01.row.partSaid = true := by
  delta OpenRow.partSaid
  repeat' with_reducible refine look_both ?_ ?_
  all_goals first | with_reducible exact ws4 | kernel_rfl
theorem wsA : PySem.Challenge.rw_ok0152_01.row.wellSaid = true := by
  delta OpenRow.wellSaid
  with_reducible exact look_both (look_both ws5 (by kernel_rfl)) (by kernel_rfl)
theorem wsB (h : PySem.Challenge.rw_ok0152_01.row.wellSaid = true) : PySem.Challenge.rw_ok0152_01.wellSaid = true := by
  unfold OpenLaw.wellSaid
  rw [h, Bool.true_and]
  kernel_rfl
end Mine
end
section
open PySem.Calls
namespace Mine
-- part LB
inductive Ex1 {α0 : Type} (P : α0 → Prop) : Prop
  | mk (x0 : α0) (h : P x0) : Ex1 P
inductive Ex2 {α0 α1 : Type} (P : α0 → α1 → Prop) : Prop
  | mk (x0 : α0) (x1 : α1) (h : P x0 x1) : Ex2 P
inductive Ex3 {α0 α1 α2 : Type} (P : α0 → α1 → α2 → Prop) : Prop
  | mk (x0 : α0) (x1 : α1) (x2 : α2) (h : P x0 x1 x2) : Ex3 P
inductive Ex4 {α0 α1 α2 α3 : Type} (P : α0 → α1 → α2 → α3 → Prop) : Prop
  | mk (x0 : α0) (x1 : α1) (x2 : α2) (x3 : α3) (h : P x0 x1 x2 x3) : Ex4 P
inductive Ex5 {α0 α1 α2 α3 α4 : Type} (P : α0 → α1 → α2 → α3 → α4 → Prop) : Prop
  | mk (x0 : α0) (x1 : α1) (x2 : α2) (x3 : α3) (x4 : α4) (h : P x0 x1 x2 x3 x4) : Ex5 P
inductive Ex6 {α0 α1 α2 α3 α4 α5 : Type} (P : α0 → α1 → α2 → α3 → α4 → α5 → Prop) : Prop
  | mk (x0 : α0) (x1 : α1) (x2 : α2) (x3 : α3) (x4 : α4) (x5 : α5) (h : P x0 x1 x2 x3 x4 x5) : Ex6 P
inductive Ex7 {α0 α1 α2 α3 α4 α5 α6 : Type} (P : α0 → α1 → α2 → α3 → α4 → α5 → α6 → Prop) : Prop
  | mk (x0 : α0) (x1 : α1) (x2 : α2) (x3 : α3) (x4 : α4) (x5 : α5) (x6 : α6) (h : P x0 x1 x2 x3 x4 x5 x6) : Ex7 P
inductive Ex8 {α0 α1 α2 α3 α4 α5 α6 α7 : Type} (P : α0 → α1 → α2 → α3 → α4 → α5 → α6 → α7 → Prop) : Prop
  | mk (x0 : α0) (x1 : α1) (x2 : α2) (x3 : α3) (x4 : α4) (x5 : α5) (x6 : α6) (x7 : α7) (h : P x0 x1 x2 x3 x4 x5 x6 x7) : Ex8 P
inductive Ex9 {α0 α1 α2 α3 α4 α5 α6 α7 α8 : Type} (P : α0 → α1 → α2 → α3 → α4 → α5 → α6 → α7 → α8 → Prop) : Prop
  | mk (x0 : α0) (x1 : α1) (x2 : α2) (x3 : α3) (x4 : α4) (x5 : α5) (x6 : α6) (x7 : α7) (x8 : α8) (h : P x0 x1 x2 x3 x4 x5 x6 x7 x8) : Ex9 P
inductive Ex10 {α0 α1 α2 α3 α4 α5 α6 α7 α8 α9 : Type} (P : α0 → α1 → α2 → α3 → α4 → α5 → α6 → α7 → α8 → α9 → Prop) : Prop
  | mk (x0 : α0) (x1 : α1) (x2 : α2) (x3 : α3) (x4 : α4) (x5 : α5) (x6 : α6) (x7 : α7) (x8 : α8) (x9 : α9) (h : P x0 x1 x2 x3 x4 x5 x6 x7 x8 x9) : Ex10 P
inductive Ex11 {α0 α1 α2 α3 α4 α5 α6 α7 α8 α9 α10 : Type} (P : α0 → α1 → α2 → α3 → α4 → α5 → α6 → α7 → α8 → α9 → α10 → Prop) : Prop
  | mk (x0 : α0) (x1 : α1) (x2 : α2) (x3 : α3) (x4 : α4) (x5 : α5) (x6 : α6) (x7 : α7) (x8 : α8) (x9 : α9) (x10 : α10) (h : P x0 x1 x2 x3 x4 x5 x6 x7 x8 x9 x10) : Ex11 P
inductive Ex12 {α0 α1 α2 α3 α4 α5 α6 α7 α8 α9 α10 α11 : Type} (P : α0 → α1 → α2 → α3 → α4 → α5 → α6 → α7 → α8 → α9 → α10 → α11 → Prop) : Prop
  | mk (x0 : α0) (x1 : α1) (x2 : α2) (x3 : α3) (x4 : α4) (x5 : α5) (x6 : α6) (x7 : α7) (x8 : α8) (x9 : α9) (x10 : α10) (x11 : α11) (h : P x0 x1 x2 x3 x4 x5 x6 x7 x8 x9 x10 x11) : Ex12 P
inductive An2 (p0 p1 : Prop) : Prop
  | mk (h0 : p0) (h1 : p1) : An2 p0 p1
inductive An3 (p0 p1 p2 : Prop) : Prop
  | mk (h0 : p0) (h1 : p1) (h2 : p2) : An3 p0 p1 p2
inductive An4 (p0 p1 p2 p3 : Prop) : Prop
  | mk (h0 : p0) (h1 : p1) (h2 : p2) (h3 : p3) : An4 p0 p1 p2 p3
inductive An5 (p0 p1 p2 p3 p4 : Prop) : Prop
  | mk (h0 : p0) (h1 : p1) (h2 : p2) (h3 : p3) (h4 : p4) : An5 p0 p1 p2 p3 p4
inductive An6 (p0 p1 p2 p3 p4 p5 : Prop) : Prop
  | mk (h0 : p0) (h1 : p1) (h2 : p2) (h3 : p3) (h4 : p4) (h5 : p5) : An6 p0 p1 p2 p3 p4 p5
inductive An7 (p0 p1 p2 p3 p4 p5 p6 : Prop) : Prop
  | mk (h0 : p0) (h1 : p1) (h2 : p2) (h3 : p3) (h4 : p4) (h5 : p5) (h6 : p6) : An7 p0 p1 p2 p3 p4 p5 p6
inductive An8 (p0 p1 p2 p3 p4 p5 p6 p7 : Prop) : Prop
  | mk (h0 : p0) (h1 : p1) (h2 : p2) (h3 : p3) (h4 : p4) (h5 : p5) (h6 : p6) (h7 : p7) : An8 p0 p1 p2 p3 p4 p5 p6 p7
inductive An9 (p0 p1 p2 p3 p4 p5 p6 p7 p8 : Prop) : Prop
  | mk (h0 : p0) (h1 : p1) (h2 : p2) (h3 : p3) (h4 : p4) (h5 : p5) (h6 : p6) (h7 : p7) (h8 : p8) : An9 p0 p1 p2 p3 p4 p5 p6 p7 p8
inductive An10 (p0 p1 p2 p3 p4 p5 p6 p7 p8 p9 : Prop) : Prop
  | mk (h0 : p0) (h1 : p1) (h2 : p2) (h3 : p3) (h4 : p4) (h5 : p5) (h6 : p6) (h7 : p7) (h8 : p8) (h9 : p9) : An10 p0 p1 p2 p3 p4 p5 p6 p7 p8 p9
inductive An11 (p0 p1 p2 p3 p4 p5 p6 p7 p8 p9 p10 : Prop) : Prop
  | mk (h0 : p0) (h1 : p1) (h2 : p2) (h3 : p3) (h4 : p4) (h5 : p5) (h6 : p6) (h7 : p7) (h8 : p8) (h9 : p9) (h10 : p10) : An11 p0 p1 p2 p3 p4 p5 p6 p7 p8 p9 p10
inductive An12 (p0 p1 p2 p3 p4 p5 p6 p7 p8 p9 p10 p11 : Prop) : Prop
  | mk (h0 : p0) (h1 : p1) (h2 : p2) (h3 : p3) (h4 : p4) (h5 : p5) (h6 : p6) (h7 : p7) (h8 : p8) (h9 : p9) (h10 : p10) (h11 : p11) : An12 p0 p1 p2 p3 p4 p5 p6 p7 p8 p9 p10 p11
noncomputable abbrev VV := PySem.Value
noncomputable abbrev SS := PySem.Str
noncomputable abbrev Rel := Addr → Obj → Prop
noncomputable abbrev Led := List (Addr × Obj)
noncomputable abbrev Loc := List (SS × Option VV)
noncomputable abbrev Ev := PySem.Expr

/-- what the top left: the written part, the two namespaces -/
structure Gr (w : World) (G : Heap) : Prop where
  k : (Kf pw w.params).In G
  top : ∃ mg mb, G.Ns mainGlobals mg ∧ G.Ns builtinsNs mb ∧ G.NoLimit ∧ ∀ x : SS, x ≠ "__name__" → mb x = bootBuiltins x

/-- frozen knowledge B, the ledger led -/
structure HS (G : Heap) (B : Rel) (led : Led) (h : Heap) : Prop where
  gb : ∀ a o, G.get? a = some o → B a o
  base : ∀ a o, B a o → h.get? a = some o
  mem : ∀ p ∈ led, h.get? p.1 = some p.2
  nd : (led.map (·.1)).Nodup
  off : ∀ p ∈ led, ∀ o, ¬ B p.1 o

theorem HS.sub {G : Heap} {B : Rel} {led : Led} {h : Heap} (H : HS G B led h) : ∀ b o, G.get? b = some o → h.get? b = some o := fun b o e => H.base b o (H.gb b o e)
theorem HS.alloc {G : Heap} {B : Rel} {led : Led} {h : Heap} (H : HS G B led h) {o : Obj} (hf : o.isFreed = false := by rfl) : HS G B ((h.objs.size, o) :: led) (h.push o) := by
  refine ⟨H.gb, fun a o' e => Heap.get?_push_of_some _ (H.base a o' e), fun p hp => ?_, ?_, fun p hp o' e => ?_⟩
  · rcases List.mem_cons.mp hp with rfl | hp
    · exact Heap.get?_push_size _ hf
    · exact Heap.get?_push_of_some _ (H.mem p hp)
  · rw [List.map_cons, List.nodup_cons]
    refine ⟨fun hm => ?_, H.nd⟩
    obtain ⟨q, hq, e⟩ := List.mem_map.mp hm
    have := Heap.lt_size (H.mem q hq)
    rw [e] at this
    exact Nat.lt_irrefl _ this
  · rcases List.mem_cons.mp hp with rfl | hp
    · exact Nat.lt_irrefl _ (Heap.lt_size (H.base _ _ e))
    · exact H.off p hp o' e
theorem HS.keeps {G : Heap} {B : Rel} {led : Led} {h h' : Heap} (H : HS G B led h) (k : ∀ b o, h.get? b = some o → h'.get? b = some o) : HS G B led h' :=
  ⟨H.gb, fun a o e => k _ _ (H.base a o e), fun p hp => k _ _ (H.mem p hp), H.nd, H.off⟩
theorem HS.perm {G : Heap} {B : Rel} {led led' : Led} {h : Heap} (H : HS G B led h) (p : led.Perm led') : HS G B led' h :=
  ⟨H.gb, H.base, fun q hq => H.mem q (p.mem_iff.mpr hq), (p.map _).nodup_iff.mp H.nd, fun q hq => H.off q (p.mem_iff.mpr hq)⟩
theorem HS.sublist {G : Heap} {B : Rel} {led led' : Led} {h : Heap} (H : HS G B led h) (p : led'.Sublist led) : HS G B led' h :=
  ⟨H.gb, H.base, fun q hq => H.mem q (p.subset hq), H.nd.sublist (p.map _), fun q hq => H.off q (p.subset hq)⟩
theorem HS.drop {G : Heap} {B : Rel} {x : Addr × Obj} {led : Led} {h : Heap} (H : HS G B (x :: led) h) : HS G B led h := H.sublist (List.sublist_cons_self _ _)
noncomputable def Badd (B : Rel) (a : Addr) (o : Obj) : Rel := fun b ob => B b ob ∨ (b = a ∧ ob = o)
theorem Badd.inc {B : Rel} {a : Addr} {o : Obj} : ∀ b ob, B b ob → Badd B a o b ob := fun _ _ e => .inl e
theorem Badd.new {B : Rel} {a : Addr} {o : Obj} : Badd B a o a o := .inr ⟨rfl, rfl⟩
theorem HS.freeze {G : Heap} {B : Rel} {a : Addr} {o : Obj} {led : Led} {h : Heap} (H : HS G B ((a, o) :: led) h) : HS G (Badd B a o) led h := by
  refine ⟨fun b ob e => .inl (H.gb b ob e), fun b ob e => ?_, fun p hp => H.mem p (.tail _ hp), ?_, fun p hp ob e => ?_⟩
  · rcases e with e | ⟨rfl, rfl⟩
    · exact H.base b ob e
    · exact H.mem _ (.head _)
  · have := H.nd; rw [List.map_cons, List.nodup_cons] at this; exact this.2
  · rcases e with e | ⟨e, _⟩
    · exact H.off p (.tail _ hp) ob e
    · have := H.nd; rw [List.map_cons, List.nodup_cons] at this
      exact this.1 (List.mem_map.mpr ⟨p, hp, e⟩)
theorem HS.upd {G : Heap} {B : Rel} {pre post : Led} {a : Addr} {o o' : Obj} {h h' : Heap} (H : HS G B (pre ++ (a, o) :: post) h) (sb : Heap.SameBut a h h') (e : h'.get? a = some o') : HS G B (pre ++ (a, o') :: post) h' := by
  have hm : (a, o) ∈ pre ++ (a, o) :: post := List.mem_append_right _ (.head _)
  have nd := H.nd
  rw [List.map_append, List.map_cons] at nd
  have nd' := List.nodup_append.mp nd
  have hpost : a ∉ post.map (·.1) := (List.nodup_cons.mp nd'.2.1).1
  have hpre : a ∉ pre.map (·.1) := fun q => nd'.2.2 a q a (.head _) rfl
  refine ⟨H.gb, fun b ob q => ?_, fun p hp => ?_, by rw [List.map_append, List.map_cons]; exact nd, fun p hp ob q => ?_⟩
  · have : b ≠ a := by rintro rfl; exact H.off _ hm ob q
    rw [sb.2 b this]; exact H.base b ob q
  · rcases List.mem_append.mp hp with hp | hp
    · rw [sb.2 p.1 (fun q => hpre (q ▸ List.mem_map_of_mem hp))]; exact H.mem p (List.mem_append_left _ hp)
    · rcases List.mem_cons.mp hp with rfl | hp
      · exact e
      · rw [sb.2 p.1 (fun q => hpost (q ▸ List.mem_map_of_mem hp))]; exact H.mem p (List.mem_append_right _ (.tail _ hp))
  · rcases List.mem_append.mp hp with hp | hp
    · exact H.off p (List.mem_append_left _ hp) ob q
    · rcases List.mem_cons.mp hp with rfl | hp
      · exact H.off _ hm ob q
      · exact H.off p (List.mem_append_right _ (.tail _ hp)) ob q

/-- the namespace object says l on the local names; the cells say l on the cells; the cells around say l on the free names -/
structure Own (env : Env) (l : Loc) (oL : Obj) (cs pv : Led) : Prop where
  ns : ∃ es ep, ∃ m : SS → Option VV, oL.data = .dict es ep ∧ StrKeys es ∧ (∀ n, nsFind es n = m n) ∧ ∀ x o, (x, o) ∈ l → env.kindOf x = some .local → m x = o
  cell : ∀ x o, (x, o) ∈ l → env.kindOf x = some .cell → ∃ c ob, env.cells.lookup x = some c ∧ ((c, ob) ∈ cs ∨ (env.func = none ∧ (c, ob) ∈ pv)) ∧ ob.data = .cell o
  free : ∀ x o, (x, o) ∈ l → env.kindOf x = some .free → ∃ c ob, env.cells.lookup x = some c ∧ (c, ob) ∈ pv ∧ ob.data = .cell o
  inj : env.func.isSome = true → ∀ x y c, env.kindOf x = some .cell → env.kindOf y = some .cell → env.cells.lookup x = some c → env.cells.lookup y = some c → x = y
  nd : (l.map (·.1)).Nodup
  fn : env.scope.kind = .function
  gl : env.globals = mainGlobals
  bl : env.builtins = builtinsNs

/-- l' is l with x set -/
inductive Put (x : SS) (v : VV) : Loc → Loc → Prop
  | head {u : Option VV} {r : Loc} : Put x v ((x, u) :: r) ((x, some v) :: r)
  | tail {p : SS × Option VV} {r r' : Loc} : Put x v r r' → Put x v (p :: r) (p :: r')
theorem Put.keys {x : SS} {v : VV} {l l' : Loc} (h : Put x v l l') : l'.map (·.1) = l.map (·.1) := by
  induction h with
  | head => rfl
  | tail _ ih => rw [List.map_cons, List.map_cons, ih]
theorem Put.has {x : SS} {v : VV} {l l' : Loc} (h : Put x v l l') : ∃ u, (x, u) ∈ l := by
  induction h with
  | head => exact ⟨_, .head _⟩
  | tail _ ih => obtain ⟨u, hu⟩ := ih; exact ⟨u, .tail _ hu⟩
theorem Put.mem {x : SS} {v : VV} {l l' : Loc} (h : Put x v l l') (nd : (l.map (·.1)).Nodup) : ∀ y o, (y, o) ∈ l' → (y = x ∧ o = some v) ∨ (y ≠ x ∧ (y, o) ∈ l) := by
  induction h with
  | head =>
    intro y o hm
    rw [List.map_cons, List.nodup_cons] at nd
    rcases List.mem_cons.mp hm with e | hm
    · cases e; exact .inl ⟨rfl, rfl⟩
    · exact .inr ⟨fun e => nd.1 (e ▸ List.mem_map.mpr ⟨_, hm, rfl⟩), .tail _ hm⟩
  | @tail p r r' hp ih =>
    intro y o hm
    rw [List.map_cons, List.nodup_cons] at nd
    rcases List.mem_cons.mp hm with e | hm
    · refine .inr ⟨fun q => nd.1 ?_, e ▸ .head _⟩
      obtain ⟨u, hu⟩ := hp.has
      have : p.1 = x := by rw [← e]; exact q
      rw [this]
      exact List.mem_map.mpr ⟨_, hu, rfl⟩
    · rcases ih nd.2 y o hm with q | q
      · exact .inl q
      · exact .inr ⟨q.1, .tail _ q.2⟩

noncomputable def FS (G : Heap) (B : Rel) (led : Led) (env : Env) (pv : Led) (l : Loc) (h : Heap) : Prop :=
  ∃ oL cs, Own env l oL cs pv ∧ HS G B ((env.locals, oL) :: (cs ++ (pv ++ led))) h

noncomputable abbrev at_ (s : Shared) (h : Heap) (t : Nat) : Shared := ⟨h, s.gens, s.drawn, t, s.os⟩

section
variable {G : Heap} {B : Rel} {led : Led} {env : Env} {pv : Led} {l : Loc} {h : Heap}
theorem FS.pub (F : FS G B led env pv l h) : HS G B led h := by
  obtain ⟨oL, cs, _, H⟩ := F
  exact H.sublist ((List.sublist_append_right pv led).trans ((List.sublist_append_right cs _).trans (List.sublist_cons_self _ _)))
theorem FS.base (F : FS G B led env pv l h) : ∀ a o, B a o → h.get? a = some o := F.pub.base
theorem FS.sub (F : FS G B led env pv l h) : ∀ b o, G.get? b = some o → h.get? b = some o := F.pub.sub
theorem FS.mem (F : FS G B led env pv l h) {a : Addr} {o : Obj} (hm : (a, o) ∈ led) : h.get? a = some o := F.pub.mem _ hm
theorem FS.keeps {h' : Heap} (F : FS G B led env pv l h) (k : ∀ b o, h.get? b = some o → h'.get? b = some o) : FS G B led env pv l h' := by
  obtain ⟨oL, cs, O, H⟩ := F
  exact ⟨oL, cs, O, H.keeps k⟩
theorem mid_perm {α : Type} (a b c d : List α) (x : α) : (x :: (a ++ (b ++ (c ++ d)))).Perm (c ++ (x :: (a ++ (b ++ d)))) := by
  have h1 : (x :: (a ++ (b ++ (c ++ d)))) = (x :: (a ++ b)) ++ (c ++ d) := by simp
  have h2 : c ++ (x :: (a ++ (b ++ d))) = c ++ ((x :: (a ++ b)) ++ d) := by simp
  rw [h1, h2, ← List.append_assoc, ← List.append_assoc]
  exact List.Perm.append_right d List.perm_append_comm
/-- a frame state hands the used part and takes it back -/
theorem FS.lend {used rest : Led} (F : FS G B (used ++ rest) env pv l h) : ∃ Fr, HS G B (used ++ Fr) h ∧ ∀ (B' : Rel) (used' : Led) (h' : Heap), HS G B' (used' ++ Fr) h' → FS G B' (used' ++ rest) env pv l h' := by
  obtain ⟨oL, cs, O, H⟩ := F
  exact ⟨_, H.perm (mid_perm cs pv used rest _), fun B' used' h' H' => ⟨oL, cs, O, H'.perm (mid_perm cs pv used' rest _).symm⟩⟩
theorem FS.alloc (F : FS G B led env pv l h) {o : Obj} (hf : o.isFreed = false := by rfl) : FS G B ((h.objs.size, o) :: led) env pv l (h.push o) := by
  obtain ⟨Fr, H, back⟩ := FS.lend (used := []) (rest := led) F
  exact back B [(h.objs.size, o)] _ (H.alloc hf)
theorem FS.freeze {a : Addr} {o : Obj} (F : FS G B ((a, o) :: led) env pv l h) : FS G (Badd B a o) led env pv l h := by
  obtain ⟨Fr, H, back⟩ := FS.lend (used := [(a, o)]) (rest := led) F
  exact back _ [] _ H.freeze
theorem FS.upd {pre post : Led} {a : Addr} {o o' : Obj} {h' : Heap} (F : FS G B (pre ++ (a, o) :: post) env pv l h) (sb : Heap.SameBut a h h') (e : h'.get? a = some o') : FS G B (pre ++ (a, o') :: post) env pv l h' := by
  have F1 : FS G B ((pre ++ [(a, o)]) ++ post) env pv l h := by rw [List.append_assoc]; exact F
  obtain ⟨Fr, H, back⟩ := F1.lend
  have H1 : HS G B (pre ++ (a, o) :: Fr) h := by rw [List.append_assoc] at H; exact H
  have F2 := back B (pre ++ [(a, o')]) h' (by rw [List.append_assoc]; exact H1.upd sb e)
  rw [List.append_assoc] at F2; exact F2
theorem FS.sublist {led' : Led} (F : FS G B led env pv l h) (p : led'.Sublist led) : FS G B led' env pv l h := by
  obtain ⟨oL, cs, O, H⟩ := F
  exact ⟨oL, cs, O, H.sublist (((p.append_left pv).append_left cs).cons_cons _)⟩
theorem FS.perm {led' : Led} (F : FS G B led env pv l h) (p : led.Perm led') : FS G B led' env pv l h := by
  obtain ⟨oL, cs, O, H⟩ := F
  exact ⟨oL, cs, O, H.perm (List.Perm.cons _ (List.Perm.append_left _ (List.Perm.append_left _ p)))⟩
theorem FS.drop {x : Addr × Obj} (F : FS G B (x :: led) env pv l h) : FS G B led env pv l h := F.sublist (List.sublist_cons_self _ _)
end
-- part LR
theorem bindL_eq (k : SS → Option NameKind) (x : SS) : ∀ (binds : List (SS × VV)) (m : SS → Option VV), bindL k binds m x = if k x = some .local then (binds.reverse.lookup x).or (m x) else m x
  | [], m => by simp [bindL]
  | (n, v) :: r, m => by
    rw [bindL, bindL_eq k x r, List.reverse_cons, List.lookup_append]
    by_cases hx : k x = some .local
    · simp only [hx, if_true]
      cases hr : r.reverse.lookup x with
      | some u => simp
      | none =>
        simp only [Option.none_or]
        by_cases e : x = n
        · subst e; simp [hx]
        · have : (x == n) = false := beq_eq_false_iff_ne.mpr e
          by_cases hn : k n = some .local <;> simp [hn, e, List.lookup, this]
    · simp only [if_neg hx]
      by_cases e : x = n
      · subst e; simp [hx]
      · by_cases hn : k n = some .local <;> simp [hn, e]
theorem bindC_eq (k : SS → Option NameKind) (x : SS) (hx : k x ≠ some .local) : ∀ (binds : List (SS × VV)) (m : SS → Option VV), bindC k binds m x = (binds.reverse.lookup x).or (m x)
  | [], m => by simp [bindC]
  | (n, v) :: r, m => by
    rw [bindC, bindC_eq k x hx r, List.reverse_cons, List.lookup_append]
    cases hr : r.reverse.lookup x with
    | some u => simp
    | none =>
      simp only [Option.none_or]
      by_cases e : x = n
      · subst e; simp [hx]
      · have : (x == n) = false := beq_eq_false_iff_ne.mpr e
        by_cases hn : k n = some .local <;> simp [hn, e, List.lookup, this]

section
variable {M : Model} {w : World} {A : Around} {E : VV → Shared → Prop} {s : Shared} {t : Nat} {G : Heap} {B : Rel} {led : Led} {env : Env} {pv : Led} {l : Loc} {h : Heap} {x : SS} {v : VV} {pos : Pos}

theorem r_store {Q : Unit → Shared → Prop} {l' : Loc} (F : FS G B led env pv l h) (hp : Put x v l l') (hk : env.kindOf x = some .local ∨ env.kindOf x = some .cell ∧ env.func.isSome = true)
    (k : ∀ h' t', FS G B led env pv l' h' → Q () (at_ s h' t')) : wpAny M A (storeName env x v) Q E (at_ s h t) := by
  obtain ⟨oL, cs, O, H⟩ := F
  have pm := hp.mem O.nd
  have nd' : (l'.map (·.1)).Nodup := hp.keys ▸ O.nd
  have fr : ∀ y u, (y, u) ∈ l' → env.kindOf y = some .free → ∃ c o, env.cells.lookup y = some c ∧ (c, o) ∈ pv ∧ o.data = .cell u := by
    intro y u hu hy
    rcases pm y u hu with ⟨rfl, _⟩ | ⟨_, q⟩
    · rcases hk with hk | ⟨hk, _⟩ <;> rw [hk] at hy <;> cases hy
    · exact O.free y u q hy
  obtain ⟨es, ep, m, h1, h2, h3, h4⟩ := O.ns
  rcases hk with hk | ⟨hk, hfn⟩
  · refine wpAny_storeName_local (s := at_ s h t) hk ⟨oL, es, ep, H.mem _ (.head _), h1, h2, h3⟩ (fun h' hn hs => k h' _ ?_) (by rw [O.fn]; rfl)
    obtain ⟨oL', es', ep', g1, g2, g3, g4⟩ := hn
    refine ⟨oL', cs, ⟨⟨es', ep', _, g2, g3, g4, fun y u hu hy => ?_⟩, fun y u hu hy => ?_, fr, O.inj, nd', O.fn, O.gl, O.bl⟩, HS.upd (pre := []) H hs g1⟩
    · rcases pm y u hu with ⟨rfl, rfl⟩ | ⟨q1, q⟩
      · exact if_pos rfl
      · exact (if_neg q1).trans (h4 y u q hy)
    · rcases pm y u hu with ⟨rfl, _⟩ | ⟨_, q⟩
      · rw [hk] at hy; cases hy
      · exact O.cell y u q hy
  · obtain ⟨u0, hu0⟩ := hp.has
    obtain ⟨c, o, e1, e2, e3⟩ := O.cell x u0 hu0 hk
    have hno : ¬ env.func = none := fun q => by rw [q] at hfn; cases hfn
    have e2 : (c, o) ∈ cs := e2.elim id fun q => absurd q.1 hno
    obtain ⟨pre, post, rfl⟩ := List.append_of_mem e2
    have hm : (c, o) ∈ (env.locals, oL) :: ((pre ++ (c, o) :: post) ++ (pv ++ led)) := .tail _ (List.mem_append_left _ e2)
    refine wpAny_storeName_cell (s := at_ s h t) O.fn hk e1 ⟨o, H.mem _ hm, e3⟩ fun h' hv hs => k h' _ ?_
    obtain ⟨o', g1, g2⟩ := hv
    have H0 : HS G B (((env.locals, oL) :: pre) ++ (c, o) :: (post ++ (pv ++ led))) h := by
      have e : ((env.locals, oL) :: pre) ++ (c, o) :: (post ++ (pv ++ led)) = (env.locals, oL) :: ((pre ++ (c, o) :: post) ++ (pv ++ led)) := by simp
      rw [e]; exact H
    have H1 := H0.upd hs g1
    have H2 : HS G B ((env.locals, oL) :: ((pre ++ (c, o') :: post) ++ (pv ++ led))) h' := by
      have e : ((env.locals, oL) :: pre) ++ (c, o') :: (post ++ (pv ++ led)) = (env.locals, oL) :: ((pre ++ (c, o') :: post) ++ (pv ++ led)) := by simp
      rw [← e]; exact H1
    refine ⟨oL, pre ++ (c, o') :: post, ⟨⟨es, ep, m, h1, h2, h3, fun y u hu hy => ?_⟩, fun y u hu hy => ?_, fr, O.inj, nd', O.fn, O.gl, O.bl⟩, H2⟩
    · rcases pm y u hu with ⟨rfl, _⟩ | ⟨_, q⟩
      · rw [hk] at hy; cases hy
      · exact h4 y u q hy
    · rcases pm y u hu with ⟨rfl, rfl⟩ | ⟨q1, q⟩
      · exact ⟨c, o', e1, .inl (List.mem_append_right _ (.head _)), g2⟩
      · obtain ⟨c2, o2, f1, f2, f3⟩ := O.cell y u q hy
        have : c2 ≠ c := fun q2 => q1 (O.inj hfn y x c hy hk (q2 ▸ f1) e1)
        have f2 := f2.elim id fun q => absurd q.1 hno
        refine ⟨c2, o2, f1, .inl ?_, f3⟩
        rcases List.mem_append.mp f2 with f2 | f2
        · exact List.mem_append_left _ f2
        · rcases List.mem_cons.mp f2 with f2 | f2
          · exact absurd (congrArg Prod.fst f2) this
          · exact List.mem_append_right _ (.tail _ f2)

noncomputable def stOk (env : Env) (x : SS) : Bool := match env.kindOf x with
  | some .local => true
  | some .cell => env.func.isSome
  | _ => false
theorem stOk_or {env : Env} {x : SS} (h : stOk env x = true) : env.kindOf x = some .local ∨ env.kindOf x = some .cell ∧ env.func.isSome = true := by
  unfold stOk at h
  split at h
  · rename_i e; exact .inl e
  · rename_i e; exact .inr ⟨e, h⟩
  · cases h
theorem r_storeB {Q : Unit → Shared → Prop} {l' : Loc} (F : FS G B led env pv l h) (hp : Put x v l l') (hk : stOk env x = true)
    (k : ∀ h' t', FS G B led env pv l' h' → Q () (at_ s h' t')) : wpAny M A (storeName env x v) Q E (at_ s h t) := r_store F hp (stOk_or hk) k
noncomputable def kOk : Option NameKind → Bool
  | some .local | some .cell | some .free => true
  | _ => false
theorem r_load {Q : VV → Shared → Prop} (F : FS G B led env pv l h) (hv : (x, some v) ∈ l) (hk : kOk (env.kindOf x) = true) (q : Q v (at_ s h t)) (hn : (x == ("__classdict__" : SS)) = false) :
    wpAny M A (loadName env x) Q E (at_ s h t) := by
  obtain ⟨oL, cs, O, H⟩ := F
  cases e : env.kindOf x with
  | none => rw [e] at hk; cases hk
  | some kd =>
    cases kd with
    | «local» =>
      obtain ⟨es, ep, m, h1, h2, h3, h4⟩ := O.ns
      exact wpAny_loadName_local (s := at_ s h t) O.fn e ⟨oL, es, ep, H.mem _ (.head _), h1, h2, h3⟩ (h4 x _ hv e) q
    | cell =>
      obtain ⟨c, o, e1, e2, e3⟩ := O.cell x _ hv e
      refine wpAny_loadName_cell (s := at_ s h t) O.fn e e1 ⟨o, ?_, e3⟩ q
      rcases e2 with e2 | ⟨_, e2⟩
      · exact H.mem _ (.tail _ (List.mem_append_left _ e2))
      · exact H.mem _ (.tail _ (List.mem_append_right _ (List.mem_append_left _ e2)))
    | free =>
      obtain ⟨c, o, e1, e2, e3⟩ := O.free x _ hv e
      exact wpAny_loadName_free (s := at_ s h t) O.fn e e1 ⟨o, H.mem _ (.tail _ (List.mem_append_right _ (List.mem_append_left _ e2))), e3⟩ q hn
    | globalExplicit => rw [e] at hk; cases hk
    | globalImplicit => rw [e] at hk; cases hk
theorem r_name {Q : VV → Shared → Prop} (F : FS G B led env pv l h) (hv : (x, some v) ∈ l) (hk : kOk (env.kindOf x) = true) (hd : ((x == ("__debug__" : SS)) || (x == ("__classdict__" : SS))) = false) (q : Q v (at_ s h t)) :
    wpAny M A (eval (.Name x pos) env) Q E (at_ s h t) := by
  rw [Bool.or_eq_false_iff] at hd
  exact wpAny_Name (r_load F hv hk q hd.2) hd.1
theorem FS.env_ok (F : FS G B led env pv l h) : env.scope.kind = .function ∧ env.globals = mainGlobals ∧ env.builtins = builtinsNs := by
  obtain ⟨oL, cs, O, H⟩ := F; exact ⟨O.fn, O.gl, O.bl⟩
theorem r_glob {Q : VV → Shared → Prop} (g : Gr w G) (F : FS G B led env pv l h) (e : nsIn (Kf pw w.params) mainGlobals x = some (some v)) (hk : env.kindOf x = some .globalImplicit) (hd : (x == ("__debug__" : SS)) = false) (q : Q v (at_ s h t)) :
    wpAny M A (eval (.Name x pos) env) Q E (at_ s h t) := by
  obtain ⟨mg, mb, T1, T2, T3, T4⟩ := g.top
  obtain ⟨o1, o2, o3⟩ := F.env_ok
  exact Name_function_global o1 hk (loadGlobal_global (env := env) (by rw [o2]; exact T1.keeps F.sub) (mg_of g.k T1 e) q) hd
theorem r_bltn {Q : VV → Shared → Prop} (g : Gr w G) (F : FS G B led env pv l h) (e : nsIn (Kf pw w.params) mainGlobals x = some none) (hb : bootBuiltins x = some v) (hn : x ≠ "__name__") (hk : env.kindOf x = some .globalImplicit) (hd : (x == ("__debug__" : SS)) = false) (q : Q v (at_ s h t)) :
    wpAny M A (eval (.Name x pos) env) Q E (at_ s h t) := by
  obtain ⟨mg, mb, T1, T2, T3, T4⟩ := g.top
  obtain ⟨o1, o2, o3⟩ := F.env_ok
  exact Name_function_global o1 hk (loadGlobal_builtin (env := env) (by rw [o2]; exact T1.keeps F.sub) (mg_none_of g.k T1 e) (by rw [o3]; exact T2.keeps F.sub) ((T4 x hn).trans hb) q) hd
end

theorem lookup_of_mem_nd {α : Type} : ∀ {cs : List (SS × α)} {n : SS} {c : α}, (cs.map (·.1)).Nodup → (n, c) ∈ cs → cs.lookup n = some c
  | [], _, _, _, h => nomatch h
  | (m, d) :: r, n, c, hn, h => by
    rw [List.map_cons, List.nodup_cons] at hn
    rcases List.mem_cons.mp h with e | h
    · cases e; simp [List.lookup]
    · have : (n == m) = false := beq_eq_false_iff_ne.mpr fun e => hn.1 (e ▸ List.mem_map.mpr ⟨_, h, rfl⟩)
      simp only [List.lookup, this]
      exact lookup_of_mem_nd hn.2 h
theorem fst_eq_of_snd : ∀ {cl : List (SS × Addr)} {y z : SS} {c : Addr}, (cl.map (·.2)).Nodup → (y, c) ∈ cl → (z, c) ∈ cl → y = z
  | [], _, _, _, _, h, _ => nomatch h
  | (n, d) :: r, y, z, c, hn, h1, h2 => by
    rw [List.map_cons, List.nodup_cons] at hn
    rcases List.mem_cons.mp h1 with e1 | h1 <;> rcases List.mem_cons.mp h2 with e2 | h2
    · cases e1; cases e2; rfl
    · cases e1; exact absurd (List.mem_map.mpr ⟨_, h2, rfl⟩) hn.1
    · cases e2; exact absurd (List.mem_map.mpr ⟨_, h1, rfl⟩) hn.1
    · exact fst_eq_of_snd hn.2 h1 h2
section
variable {w : World} {A : Around} {R : Result → Shared → Prop} {s : Shared} {t : Nat} {G : Heap} {B : Rel} {led : Led} {h : Heap}
  {name qual : SS} {params : Arguments} {body : List Stmt} {scope : Scope} {pm cdv oc : VV} {od : Option Addr} {osl : Array (Option VV)} {f : Addr} {args : List VV} {binds : List (SS × VV)} {l : Loc}
theorem enter (g : Gr w G) (H : HS G B led h) (hf : (Kf pw w.params).lookup f = some ⟨oc, od, .func (fnOf name qual params body scope .none .none .none pm none cdv .none), osl⟩) (hcd : codeIn (Kf pw w.params) cdv qual = true)
    (hroom : A.depth < recursionLimit) (hbind : bindArgs (fnOf name qual params body scope .none .none .none pm none cdv .none) ⟨args, []⟩ = pure binds)
    (hkind : (binds.all fun y => scope.names.lookup y.1 == some .local || scope.names.lookup y.1 == some .cell) = true) (hnd : ((cellsFrom 0 scope.names []).map (·.1)).Nodup)
    (hall : (scope.names.all fun y => y.2 != .cell || ((cellsFrom 0 scope.names []).lookup y.1).isSome) = true) (hnames : (scope.names.map (·.1)).Nodup)
    (hl : ((scope.names.filter fun y => y.2 == .local || y.2 == .cell).map fun y => (y.1, binds.reverse.lookup y.1)) = l)
    (hco : scope.isCoroutine = false) (hgen : scope.isGenerator = false) (hk : scope.kind = .function)
    (k : ∀ L h₁ t₁, FS G B led (envOfC qual scope L f cdv) [] l h₁ →
      wpAny (model pw w) (A.deeper (envOfC qual scope L f cdv)) (execs body (envOfC qual scope L f cdv)) (fun fl s' => R (.ok (.ret (match fl with | .ret v => v | _ => .none))) s') (fun _ _ => False) (at_ s h₁ t₁)) :
    codeAny (model pw w) A (.call (.ref f) ⟨args, []⟩) R (at_ s h t) := by
  have X : (Kf pw w.params).In h := g.k.keeps H.sub
  obtain ⟨mg, mb, T1, T2, T3, T4⟩ := g.top
  have hlim : h.NoLimit := T3.keeps H.sub
  refine codeAny_call_function (s := at_ s h t) hroom (X _ _ hf) rfl hco hgen rfl (codeRec_of X hcd) ?_
  rw [hbind]
  refine wpAny_pure (wpAny_newFunctionEnv_cells (s := at_ s h t) hk (kindsX hkind _) fun env' he s' x => ?_)
  have he' : env' = envOfC qual scope h.objs.size f cdv := he
  subst he'
  refine ⟨hlim.keeps x.toInCall.keep, codeAny_func ?_⟩
  obtain ⟨h₁, tk, rfl, kp⟩ := x.done
  refine wpAny_mono (k h.objs.size h₁ tk ?_) (fun _ _ q => q) (fun _ _ q => q.elim)
  -- the frame state
  obtain ⟨oL, es, ep, n1, n2, n3, n4⟩ := x.toInCall.ns
  have x1 : ∀ n c, (cellsFrom (h.objs.size + 1) scope.names []).lookup n = some c → h₁.IsCell c (bindC (envOfC qual scope h.objs.size f cdv).kindOf binds (fun _ => none) n) := x.cell
  have x2 := x.apart
  have x3 : ∀ n c, (n, c) ∈ cellsFrom (h.objs.size + 1) scope.names [] → h.objs.size < c := x.above
  have hkeys : (cellsFrom (h.objs.size + 1) scope.names []).map (·.1) = (cellsFrom 0 scope.names []).map (·.1) := cellsFrom_names _ _ _ _ _ rfl
  -- the cells as a ledger
  have key : ∀ cl : List (SS × Addr), (∀ n c, (n, c) ∈ cl → ∃ o, h₁.get? c = some o ∧ o.data = .cell (bindC (envOfC qual scope h.objs.size f cdv).kindOf binds (fun _ => none) n)) →
      ∃ cs : Led, cs.map (·.1) = cl.map (·.2) ∧ (∀ p ∈ cs, h₁.get? p.1 = some p.2) ∧ ∀ n c, (n, c) ∈ cl → ∃ o, (c, o) ∈ cs ∧ o.data = .cell (bindC (envOfC qual scope h.objs.size f cdv).kindOf binds (fun _ => none) n) := by
    intro cl
    induction cl with
    | nil => intro _; exact ⟨[], rfl, fun _ hp => (nomatch hp), fun _ _ hm => (nomatch hm)⟩
    | cons y r ih =>
      intro hy
      obtain ⟨cs, a1, a2, a3⟩ := ih fun n c hm => hy n c (.tail _ hm)
      obtain ⟨o, b1, b2⟩ := hy y.1 y.2 (.head _)
      refine ⟨(y.2, o) :: cs, by rw [List.map_cons, List.map_cons, a1], fun p hp => ?_, fun n c hm => ?_⟩
      · rcases List.mem_cons.mp hp with rfl | hp
        · exact b1
        · exact a2 p hp
      · rcases List.mem_cons.mp hm with e | hm
        · cases e; exact ⟨o, .head _, b2⟩
        · obtain ⟨o', c1, c2⟩ := a3 n c hm
          exact ⟨o', .tail _ c1, c2⟩
  have mem_lookup : ∀ (cl : List (SS × Addr)), (cl.map (·.1)).Nodup → ∀ n c, (n, c) ∈ cl → cl.lookup n = some c := by
    intro cl hn n c hm
    exact lookup_of_mem_nodup hn hm
  obtain ⟨cs, a1, a2, a3⟩ := key _ fun n c hm => x1 n c (mem_lookup _ (hkeys ▸ hnd) n c hm)
  have hc2 : ((cellsFrom (h.objs.size + 1) scope.names []).map (·.2)).Nodup := by
    rw [List.nodup_iff_pairwise_ne, List.pairwise_map]; exact x2
  have inL : ∀ y u, (y, u) ∈ l → u = binds.reverse.lookup y ∧ (scope.names.lookup y = some .local ∨ scope.names.lookup y = some .cell) := by
    intro y u hu
    rw [← hl] at hu
    obtain ⟨⟨z, kd⟩, hz, e⟩ := List.mem_map.mp hu
    cases e
    obtain ⟨hz1, hz2⟩ := List.mem_filter.mp hz
    refine ⟨rfl, ?_⟩
    have := lookup_of_mem_nd hnames hz1
    simp only [Bool.or_eq_true, beq_iff_eq] at hz2
    rcases hz2 with rfl | rfl
    · exact .inl this
    · exact .inr this
  refine ⟨oL, cs, ⟨⟨es, ep, _, n2, n3, n4, fun y u hu hy => ?_⟩, fun y u hu hy => ?_, fun y u hu hy => ?_, fun _ y z c hy hz ey ez => ?_, ?_, hk, rfl, rfl⟩, ?_⟩
  · rw [bindL_eq, if_pos hy, (inL y u hu).1]; simp
  · have hy' : scope.names.lookup y = some .cell := hy
    have hm : (y, NameKind.cell) ∈ scope.names := mem_of_lookup hy'
    have h2 := List.all_eq_true.mp hall _ hm
    simp only [Bool.or_eq_true, bne_self_eq_false, Bool.false_eq_true, false_or] at h2
    obtain ⟨c0, hc0⟩ := Option.isSome_iff_exists.mp h2
    have hmem : y ∈ (cellsFrom (h.objs.size + 1) scope.names []).map (·.1) := by
      rw [hkeys]; exact List.mem_map_of_mem (mem_of_lookup hc0)
    obtain ⟨⟨n, c⟩, hnc, e⟩ := List.mem_map.mp hmem
    have e' : n = y := e
    subst e'
    obtain ⟨o, d1, d2⟩ := a3 n c hnc
    refine ⟨c, o, mem_lookup _ (hkeys ▸ hnd) n c hnc, .inl d1, ?_⟩
    rw [d2, bindC_eq _ _ (by rw [hy]; intro q; cases q), (inL n u hu).1]; simp
  · have hy' : scope.names.lookup y = some .free := hy
    rcases (inL y u hu).2 with q | q <;> rw [q] at hy' <;> cases hy'
  · have ey' := mem_of_lookup (show (cellsFrom (h.objs.size + 1) scope.names []).lookup y = some c from ey)
    have ez' := mem_of_lookup (show (cellsFrom (h.objs.size + 1) scope.names []).lookup z = some c from ez)
    exact fst_eq_of_snd hc2 ey' ez'
  · rw [← hl, List.map_map]
    exact hnames.sublist (List.filter_sublist.map _)
  · refine ⟨H.gb, fun a o e => kp _ _ (H.base a o e), fun p hp => ?_, ?_, fun p hp o e => ?_⟩
    · rcases List.mem_cons.mp hp with rfl | hp
      · exact n1
      · rcases List.mem_append.mp hp with hp | hp
        · exact a2 p hp
        · exact kp _ _ (H.mem p hp)
    · have old : ∀ p ∈ led, p.1 < h.objs.size := fun p hp => Heap.lt_size (H.mem p hp)
      have newc : ∀ a ∈ cs.map (·.1), h.objs.size < a := by
        intro a ha
        rw [a1] at ha
        obtain ⟨⟨n, c⟩, hm, rfl⟩ := List.mem_map.mp ha
        exact x3 n c hm
      rw [List.map_cons, List.nodup_cons, List.map_append]
      refine ⟨fun hm => ?_, List.nodup_append.mpr ⟨by rw [a1]; exact hc2, H.nd, fun a ha b hb e => ?_⟩⟩
      · rcases List.mem_append.mp hm with hm | hm
        · exact Nat.lt_irrefl _ (newc _ hm)
        · obtain ⟨p, hp, e⟩ := List.mem_map.mp hm
          have := old p hp
          rw [e] at this
          exact Nat.lt_irrefl _ this
      · obtain ⟨p, hp, e2⟩ := List.mem_map.mp hb
        have h3 := old p hp
        have h4 := newc a ha
        rw [show p.1 = b from e2, ← e] at h3
        exact Nat.lt_irrefl _ (Nat.lt_trans h3 h4)
    · rcases List.mem_cons.mp hp with rfl | hp
      · exact Nat.lt_irrefl _ (Heap.lt_size (H.base _ _ e))
      · rcases List.mem_append.mp hp with hp | hp
        · have h5 : p.1 ∈ cs.map (·.1) := List.mem_map_of_mem hp
          rw [a1] at h5
          obtain ⟨⟨n, c⟩, hm, e2⟩ := List.mem_map.mp h5
          have h6 := x3 n c hm
          have h7 := Heap.lt_size (H.base _ _ e)
          rw [← show c = p.1 from e2] at h7
          exact Nat.lt_irrefl _ (Nat.lt_trans h6 h7)
        · exact H.off p hp o e
end
-- part LE
structure Rm (n : Nat) (A : Around) : Prop where
  hd : A.handled = none
  depth : A.depth + n < recursionLimit
  units : A.units + 20 * n < cLine
theorem Rm.deeper {n : Nat} {A : Around} (R : Rm (n + 1) A) (env : Env) : Rm n (A.deeper env) := by
  refine ⟨R.hd, ?_, ?_⟩
  · have := R.depth; show A.depth + 1 + n < _; omega
  · have := R.units; show A.units + 3 + 20 * n < _; omega
theorem Rm.room {n : Nat} {A : Around} (R : Rm n A) : A.depth < recursionLimit := by have := R.depth; omega
theorem Rm.less {n m : Nat} {A : Around} (R : Rm n A) (h : m ≤ n) : Rm m A := ⟨R.hd, by have := R.depth; omega, by have := R.units; omega⟩
theorem Rm.unit {n : Nat} {A : Around} (R : Rm (n + 1) A) : A.units + 8 < cLine := by have := R.units; omega

/-- what a call of a def gives: it hands back v; the used part of the ledger is turned to used'; the frozen part grew to B' -/
noncomputable def Back (G : Heap) (B : Rel) (s : Shared) (Fr : Led) (Post : VV → Rel → Led → Prop) (r : Result) (s' : Shared) : Prop :=
  Ex5 fun v B' used' h' t' => An5 (r = .ok (.ret v)) (s' = at_ s h' t') (∀ a o, B a o → B' a o) (HS G B' (used' ++ Fr) h') (Post v B' used')
noncomputable def Spec (w : World) (G : Heap) (A : Around) (c : Code) (B : Rel) (used : Led) (Post : VV → Rel → Led → Prop) : Prop :=
  ∀ (s : Shared) (h : Heap) (t : Nat) (Fr : Led), HS G B (used ++ Fr) h → codeAny (model pw w) A c (Back G B s Fr Post) (at_ s h t)
noncomputable abbrev cal (f : Addr) (args : List VV) : Code := .call (.ref f) ⟨args, []⟩

section
variable {w : World} {A : Around} {E : VV → Shared → Prop} {s : Shared} {t : Nat} {G : Heap} {B : Rel} {led used rest : Led} {env : Env} {pv : Led} {l : Loc} {h : Heap} {x : SS} {v : VV} {pos : Pos}
theorem r_call {f : Addr} {args : List VV} {Post : VV → Rel → Led → Prop} {Q : VV → Shared → Prop} (F : FS G B (used ++ rest) env pv l h) (S : Spec w G A (cal f args) B used Post)
    (k : ∀ K : VV → Shared → Prop, (∀ v s', Q v s' → K v s') → ∀ v B' used' h' t', (∀ a o, B a o → B' a o) → Post v B' used' → FS G B' (used' ++ rest) env pv l h' → K v (at_ s h' t')) : wpAny (model pw w) A (call (.ref f) args) Q E (at_ s h t) := by
  obtain ⟨Fr, H, back⟩ := F.lend
  refine wpAny_call (codeAny_mono (S s h t Fr H) fun r s' q => ?_)
  obtain ⟨v, B', used', h', t', rfl, rfl, i, H', p⟩ := q
  exact k Q (fun _ _ h => h) v B' used' h' t' i p (back _ _ _ H')
/-- the end of a def's body -/
theorem back_of {Post : VV → Rel → Led → Prop} {B₀ : Rel} {Fr used' : Led} {h' : Heap} {t' : Nat} (H : HS G B (used' ++ Fr) h') (i : ∀ a o, B₀ a o → B a o) (p : Post v B used') : Back G B₀ s Fr Post (.ok (.ret v)) (at_ s h' t') :=
  ⟨v, B, used', h', t', rfl, rfl, i, H, p⟩

theorem r_int {i : Int} {k : Nat} {Q : VV → Shared → Prop} (q : ∀ u t', Q (.int i u) (at_ s h t')) : wpAny (model pw w) A (eval (.Constant (.int i) k pos) env) Q E (at_ s h t) := wpAny_Constant_int (q _ _)
theorem r_str {i : SS} {k : Nat} {Q : VV → Shared → Prop} (q : ∀ u t', Q (.str i u) (at_ s h t')) : wpAny (model pw w) A (eval (.Constant (.str i) k pos) env) Q E (at_ s h t) := Calls.Constant_str (q _ _)
theorem r_none {k : Nat} {Q : VV → Shared → Prop} (q : Q .none (at_ s h t)) : wpAny (model pw w) A (eval (.Constant .none k pos) env) Q E (at_ s h t) := fun _ _ _ => q
theorem r_bool {k : Nat} {b : Bool} {Q : VV → Shared → Prop} (q : Q (.bool b) (at_ s h t)) : wpAny (model pw w) A (eval (.Constant (.bool b) k pos) env) Q E (at_ s h t) := fun _ _ _ => q
variable {a b : Int} {ta tb : Tok} {Q : VV → Shared → Prop}
theorem r_add (q : ∀ u t', Q (.int (a + b) u) (at_ s h t')) : wpAny (model pw w) A (binaryOp .Add (.int a ta) (.int b tb)) Q E (at_ s h t) := add_int (q _ _)
theorem r_sub (q : ∀ u t', Q (.int (a - b) u) (at_ s h t')) : wpAny (model pw w) A (binaryOp .Sub (.int a ta) (.int b tb)) Q E (at_ s h t) := sub_int (q _ _)
theorem r_mul (hm : IntMulOk a b) (q : ∀ u t', Q (.int (a * b) u) (at_ s h t')) : wpAny (model pw w) A (binaryOp .Mult (.int a ta) (.int b tb)) Q E (at_ s h t) := PyProof.Rows.mul_int (q _ _) hm
theorem r_div (hb : b ≠ 0) (hp : Builtin.divisionGoesByPylong a b = false) (q : ∀ u t', Q (.int (a.fdiv b) u) (at_ s h t')) : wpAny (model pw w) A (binaryOp .FloorDiv (.int a ta) (.int b tb)) Q E (at_ s h t) := PyProof.Rows.floordiv_int hb (q _ _) (.inl hp)
theorem r_iadd (q : ∀ u t', Q (.int (a + b) u) (at_ s h t')) : wpAny (model pw w) A (inplaceOp .Add (.int a ta) (.int b tb)) Q E (at_ s h t) := iadd_int (q _ _)
theorem r_lt (q : Q (.bool (decide (a < b))) (at_ s h t)) : wpAny (model pw w) A (compareOp .Lt (.int a ta) (.int b tb)) Q E (at_ s h t) := lt_int q
theorem r_gt (q : Q (.bool (decide (b < a))) (at_ s h t)) : wpAny (model pw w) A (compareOp .Gt (.int a ta) (.int b tb)) Q E (at_ s h t) := gt_int q
theorem r_eq (q : Q (.bool (a == b)) (at_ s h t)) : wpAny (model pw w) A (compareOp .Eq (.int a ta) (.int b tb)) Q E (at_ s h t) := eq_int q
theorem r_ne (q : Q (.bool (a != b)) (at_ s h t)) : wpAny (model pw w) A (compareOp .NotEq (.int a ta) (.int b tb)) Q E (at_ s h t) := ne_int q
theorem r_truth {b : Bool} {Q : Bool → Shared → Prop} (q : Q b (at_ s h t)) : wpAny (model pw w) A (truthy (.bool b)) Q E (at_ s h t) := wpAny_truthy_bool q
end
-- part LF0
theorem ite_dec {p : Prop} [Decidable p] {a b : Prop} (h1 : p → a) (h2 : ¬ p → b) : if decide p = true then a else b := by
  by_cases h : p
  · rw [if_pos (decide_eq_true h)]; exact h1 h
  · rw [if_neg (by simp [h])]; exact h2 h
theorem ite_beq {x y : Int} {a b : Prop} (h1 : x = y → a) (h2 : ¬ x = y → b) : if (x == y) = true then a else b := by
  by_cases h : x = y
  · rw [if_pos (by simp [h])]; exact h1 h
  · rw [if_neg (by simp [h])]; exact h2 h
theorem ite_bne {x y : Int} {a b : Prop} (h1 : ¬ x = y → a) (h2 : x = y → b) : if (x != y) = true then a else b := by
  by_cases h : x = y
  · rw [if_neg (by simp [h])]; exact h2 h
  · rw [if_pos (by simp [h])]; exact h1 h
section
variable {w : World} {A : Around} {E : VV → Shared → Prop} {s : Shared} {t : Nat} {h : Heap} {a b : Int} {ta tb : Tok} {Q : VV → Shared → Prop}
theorem r_mod (hb : b ≠ 0) (q : ∀ u t', Q (.int (a.fmod b) u) (at_ s h t')) : wpAny (model pw w) A (binaryOp .Mod (.int a ta) (.int b tb)) Q E (at_ s h t) := mod_int' hb (q _ _)
theorem r_le (q : Q (.bool (decide (a ≤ b))) (at_ s h t)) : wpAny (model pw w) A (compareOp .LtE (.int a ta) (.int b tb)) Q E (at_ s h t) := PyProof.Rows.le_int q
theorem r_ge (q : Q (.bool (decide (b ≤ a))) (at_ s h t)) : wpAny (model pw w) A (compareOp .GtE (.int a ta) (.int b tb)) Q E (at_ s h t) := PyProof.Rows.ge_int q
end
section
variable {P : Params}
noncomputable abbrev glbs : List (SS × VV) := [("clamped", .ref 21), ("put_block", .ref 28), ("factors", .ref 79), ("kept_in", .ref 159), ("blank", .ref 171), ("dequantise", .ref 181), ("descaled", .ref 188), ("picked", .ref 346), ("inverse", .ref 353), ("grown", .ref 360), ("repeated", .ref 365), ("zigzag_places", .ref 391), ("order", .ref 616), ("to_block", .ref 623), ("sample_block", .ref 630), ("plane_of", .ref 637), ("kept_picture", .ref 644), ("parts", .ref 651), ("_law_pen", .ref 778), ("_law_draw", .ref 785), ("_law_frame", .ref 790), ("_law_up", .ref 797), ("_law_block", .ref 802), ("_law_filled", .ref 807), ("_law_plane", .ref 814), ("Plane", .ref 110), ("Picture", .ref 148), ("TwoDct", .ref 307), ("OneDct", .ref 335), ("Component", .ref 668), ("Frame", .ref 734), ("Grid", .ref 767)]
theorem glb_all : glbs.map (fun p => nsIn (Kf pw P) mainGlobals p.1) = glbs.map (fun p => some (some p.2)) := by kernel_rfl
theorem glb {a : SS} {v : VV} (h : (a, v) ∈ glbs) : nsIn (Kf pw P) mainGlobals a = some (some v) := List.map_inj_left.mp glb_all _ h
end
noncomputable abbrev blts : List (SS × VV) := [("len", .builtin "len"), ("range", .type "range"), ("max", .builtin "max"), ("min", .builtin "min"), ("int", .type "int"), ("list", .type "list"), ("tuple", .type "tuple")]
theorem blt {a : SS} {v : VV} (h : (a, v) ∈ blts) : bootBuiltins a = some v := by
  have e : blts.map (fun p => bootBuiltins p.1) = blts.map (fun p => some p.2) := by kernel_rfl
  exact List.map_inj_left.mp e _ h
section
variable {w : World} {A : Around} {E : VV → Shared → Prop} {s : Shared} {Q : VV → Shared → Prop}
end
-- part LX1
/-- the shape of a list object, of a tuple object -/
noncomputable def LO (vs : List VV) (o : Obj) : Prop := o.cls = .type "list" ∧ ∃ n, o.data = .seq vs.toArray n
noncomputable def TO (vs : List VV) (o : Obj) : Prop := o.cls = .type "tuple" ∧ ∃ n, o.data = .seq vs.toArray n
noncomputable abbrev lst (vs : List VV) (n : Nat := 0) : Obj := ⟨.type "list", none, .seq vs.toArray n, #[]⟩
noncomputable abbrev tup (vs : List VV) (n : Nat := 0) : Obj := ⟨.type "tuple", none, .seq vs.toArray n, #[]⟩
theorem LO.of {vs : List VV} {n : Nat} : LO vs (lst vs n) := ⟨rfl, n, rfl⟩
theorem TO.of {vs : List VV} {n : Nat} : TO vs (tup vs n) := ⟨rfl, n, rfl⟩
noncomputable abbrev Inc (B B' : Rel) : Prop := ∀ a o, B a o → B' a o
noncomputable def LB (B : Rel) (a : Addr) (vs : List VV) : Prop := ∃ o, B a o ∧ LO vs o
noncomputable def TB (B : Rel) (a : Addr) (vs : List VV) : Prop := ∃ o, B a o ∧ TO vs o
theorem LB.up {B B' : Rel} {a : Addr} {vs : List VV} (x : LB B a vs) (i : Inc B B') : LB B' a vs := let ⟨o, b, c⟩ := x; ⟨o, i _ _ b, c⟩
theorem TB.up {B B' : Rel} {a : Addr} {vs : List VV} (x : TB B a vs) (i : Inc B B') : TB B' a vs := let ⟨o, b, c⟩ := x; ⟨o, i _ _ b, c⟩
theorem LB.up2 {B B' : Rel} {a : Addr} {vs : List VV} (i : Inc B B') (x : LB B a vs) : LB B' a vs := x.up i
theorem TB.up2 {B B' : Rel} {a : Addr} {vs : List VV} (i : Inc B B') (x : TB B a vs) : TB B' a vs := x.up i
/-- known, frozen or in the ledger -/
noncomputable def Has (B : Rel) (led : Led) (a : Addr) (P : Obj → Prop) : Prop := ∃ o, P o ∧ (B a o ∨ (a, o) ∈ led)
theorem Has.m {B : Rel} {led : Led} {a : Addr} {o : Obj} {P : Obj → Prop} (p : P o) (m : (a, o) ∈ led) : Has B led a P := ⟨o, p, .inr m⟩
theorem Has.lb {B : Rel} {led : Led} {a : Addr} {vs : List VV} (x : LB B a vs) : Has B led a (LO vs) := let ⟨o, b, c⟩ := x; ⟨o, c, .inl b⟩
theorem Has.tb {B : Rel} {led : Led} {a : Addr} {vs : List VV} (x : TB B a vs) : Has B led a (TO vs) := let ⟨o, b, c⟩ := x; ⟨o, c, .inl b⟩
inductive Take (a : Addr) (o : Obj) : Led → Led → Prop
  | head {r : Led} : Take a o ((a, o) :: r) r
  | tail {p : Addr × Obj} {r r' : Led} : Take a o r r' → Take a o (p :: r) (p :: r')
theorem Take.perm {a : Addr} {o : Obj} {l l' : Led} (t : Take a o l l') : l.Perm ((a, o) :: l') := by
  induction t with
  | head => exact .refl _
  | tail _ ih => exact (ih.cons _).trans (.swap _ _ _)
inductive Swap (a : Addr) (o o' : Obj) : Led → Led → Prop
  | head {r : Led} : Swap a o o' ((a, o) :: r) ((a, o') :: r)
  | tail {p : Addr × Obj} {r r' : Led} : Swap a o o' r r' → Swap a o o' (p :: r) (p :: r')
theorem Swap.guard {a : Addr} {o o' : Obj} {p : Addr × Obj} {l l' : Led} (h : Swap a o o' (p :: l) l') : Swap a o o' (p :: l) l' := h
theorem Take.guard {a : Addr} {o : Obj} {p : Addr × Obj} {l l' : Led} (h : Take a o (p :: l) l') : Take a o (p :: l) l' := h
theorem Swap.split {a : Addr} {o o' : Obj} {l l' : Led} (t : Swap a o o' l l') : ∃ pre post, l = pre ++ (a, o) :: post ∧ l' = pre ++ (a, o') :: post := by
  induction t with
  | head => exact ⟨[], _, rfl, rfl⟩
  | @tail p r r' _ ih => obtain ⟨x, y, rfl, rfl⟩ := ih; exact ⟨p :: x, y, rfl, rfl⟩
theorem Swap.of_mem {a : Addr} {o : Obj} (o' : Obj) : ∀ {l : Led}, (a, o) ∈ l → ∃ l', Swap a o o' l l'
  | p :: r, h => by
    rcases List.mem_cons.mp h with e | h
    · subst e; exact ⟨_, .head⟩
    · obtain ⟨l', x⟩ := Swap.of_mem o' h; exact ⟨_, .tail x⟩
theorem Swap.other {a b : Addr} {o o' ob : Obj} {l l' : Led} (t : Swap a o o' l l') (hb : b ≠ a) (hm : (b, ob) ∈ l) : (b, ob) ∈ l' := by
  induction t with
  | head =>
    rcases List.mem_cons.mp hm with e | hm
    · cases e; exact absurd rfl hb
    · exact .tail _ hm
  | tail _ ih =>
    rcases List.mem_cons.mp hm with e | hm
    · exact e ▸ .head _
    · exact .tail _ (ih hm)
theorem Swap.self {a : Addr} {o o' : Obj} {l l' : Led} (t : Swap a o o' l l') : (a, o') ∈ l' := by
  induction t with
  | head => exact .head _
  | tail _ ih => exact .tail _ ih
section
variable {G : Heap} {B : Rel} {led led' : Led} {env : Env} {pv : Led} {l : Loc} {h h' : Heap} {a : Addr} {o o' : Obj}
theorem FS.take (F : FS G B led env pv l h) (t : Take a o led led') : FS G B ((a, o) :: led') env pv l h := F.perm t.perm
theorem FS.frz (F : FS G B led env pv l h) (t : Take a o led led') : FS G (Badd B a o) led' env pv l h := (F.take t).freeze
theorem FS.swap (F : FS G B led env pv l h) (t : Swap a o o' led led') (sb : Heap.SameBut a h h') (e : h'.get? a = some o') : FS G B led' env pv l h' := by
  obtain ⟨pre, post, rfl, rfl⟩ := t.split
  exact F.upd sb e
theorem FS.has {P : Obj → Prop} (F : FS G B led env pv l h) (x : Has B led a P) : ∃ o, h.get? a = some o ∧ P o := by
  obtain ⟨o, p, b | m⟩ := x
  · exact ⟨o, F.base _ _ b, p⟩
  · exact ⟨o, F.mem m, p⟩
theorem FS.isL {vs : List VV} (F : FS G B led env pv l h) (x : Has B led a (LO vs)) : h.IsList a vs.toArray := let ⟨o, e, c, d⟩ := F.has x; ⟨o, e, c, d⟩
theorem FS.isT {vs : List VV} (F : FS G B led env pv l h) (x : Has B led a (TO vs)) : h.IsTuple a vs.toArray := let ⟨o, e, c, d⟩ := F.has x; ⟨o, e, c, d⟩
theorem FS.isTup {vs : List VV} (F : FS G B led env pv l h) (x : Has B led a (TO vs)) : IsTup h a vs.toArray := let ⟨o, e, c, d⟩ := F.has x; ⟨o, e, c, d⟩
end
theorem bits_small {a : Int} (h : a.natAbs < 2 ^ 64) : Builtin.Int.intBits a ≤ 64 := by
  unfold Builtin.Int.intBits
  by_cases h0 : a.natAbs = 0
  · have : a = 0 := Int.natAbs_eq_zero.mp h0
    subst this; decide
  · have : a.natAbs.log2 < 64 := (Nat.log2_lt h0).mpr h
    split <;> (first | lia | omega)
theorem mulok_r {a b : Int} (h : b.natAbs < 2 ^ 64) : IntMulOk a b := by
  have := bits_small h
  unfold IntMulOk shortFactorBits
  have e : decide (Builtin.Int.intBits b > 64) = false := by simp; (first | lia | omega)
  rw [e]; simp
theorem mulok_l {a b : Int} (h : a.natAbs < 2 ^ 64) : IntMulOk a b := by
  have := bits_small h
  unfold IntMulOk shortFactorBits
  have e : decide (Builtin.Int.intBits a > 64) = false := by simp; (first | lia | omega)
  rw [e]; simp
section
variable {w : World} {A : Around} {E : VV → Shared → Prop} {s : Shared} {t : Nat} {G : Heap} {B : Rel} {led led' : Led} {env : Env} {pv : Led} {l : Loc} {h : Heap} {a : Addr} {vs : List VV} {k : Int} {u : Tok} {x : VV} {pos : Pos} {Q : VV → Shared → Prop}
theorem r_newlist (F : FS G B led env pv l h) (hz : vs.length ≤ sizeLine) (q : ∀ a h', FS G B ((a, lst vs) :: led) env pv l h' → Q (.ref a) (at_ s h' t)) : wpAny (model pw w) A (newList vs) Q E (at_ s h t) :=
  wpAny_newObj_type (q _ _ F.alloc) (by show vs.toArray.size ≤ sizeLine; rw [List.size_toArray]; exact hz)
theorem r_newtuple (F : FS G B led env pv l h) (hz : vs.length ≤ sizeLine) (q : ∀ a h', FS G B ((a, tup vs) :: led) env pv l h' → Q (.ref a) (at_ s h' t)) : wpAny (model pw w) A (newTuple vs) Q E (at_ s h t) :=
  wpAny_newObj_type (q _ _ F.alloc) (by show vs.toArray.size ≤ sizeLine; rw [List.size_toArray]; exact hz)
theorem r_item {value slice : Ev} (F : FS G B led env pv l h) (hl : Has B led a (LO vs)) (h0 : 0 ≤ k) (h1 : k < 2 ^ 63) (hx : vs[k.toNat]? = some x) (q : Q x (at_ s h t)) (hs : subscripted slice false (.ref a) (.int k u) = operate [.ref a, .int k u] (getItem (.ref a) (.int k u)) := by with_unfolding_all rfl) :
    wpAny (model pw w) A (subscriptTail value slice (.ref a) (.int k u)) Q E (at_ s h t) :=
  tail_any (T := "list") (F.isL hl).typeIs slot_list_getitem.lookup (wpAny_getItem_list (F.isL hl) h0 h1 (by simpa using hx) q) hs
theorem r_itemT {value slice : Ev} (F : FS G B led env pv l h) (hl : Has B led a (TO vs)) (h0 : 0 ≤ k) (h1 : k < 2 ^ 63) (hx : vs[k.toNat]? = some x) (q : Q x (at_ s h t)) (hs : subscripted slice false (.ref a) (.int k u) = operate [.ref a, .int k u] (getItem (.ref a) (.int k u)) := by with_unfolding_all rfl) :
    wpAny (model pw w) A (subscriptTail value slice (.ref a) (.int k u)) Q E (at_ s h t) := by
  have hlt : k.toNat < vs.length := by
    rcases Nat.lt_or_ge k.toNat vs.length with c | c
    · exact c
    · rw [List.getElem?_eq_none c] at hx; cases hx
  exact item_tupleT (F.isTup hl) (by (first | lia | omega)) h1 (j := k.toNat) (by simp only [seqIndex?, if_neg (show ¬ k < 0 by (first | lia | omega))]; rw [if_pos]; simp; (first | lia | omega)) hx q hs
theorem r_setitem {o : Obj} {Q : Unit → Shared → Prop} (F : FS G B led env pv l h) (hm : (a, o) ∈ led) (hl : LO vs o) (h0 : 0 ≤ k) (h1 : k < 2 ^ 63) (h2 : k < vs.length)
    (q : ∀ o' led' h', LO (vs.set k.toNat x) o' → Swap a o o' led led' → FS G B led' env pv l h' → Q () (at_ s h' t)) : wpAny (model pw w) A (setItem (.ref a) (.int k u) x) Q E (at_ s h t) := by
  refine wpAny_setItem_list (s := at_ s h t) (F.isL ⟨o, hl, .inr hm⟩) h0 h1 (by simpa using h2) fun h' hl' sb => ?_
  obtain ⟨o', e, c, d⟩ := hl'
  obtain ⟨led', sw⟩ := Swap.of_mem o' hm
  exact q o' led' h' ⟨c, by simpa using d⟩ sw (F.swap sw sb e)
theorem r_setitemS {o : Obj} {led' : Obj → Led} {Q : Unit → Shared → Prop} (F : FS G B led env pv l h) (hl : LO vs o) (hsw : ∀ o', Swap a o o' led (led' o')) (h0 : 0 ≤ k) (h1 : k < 2 ^ 63) (h2 : k < vs.length)
    (q : ∀ o' h', LO (vs.set k.toNat x) o' → FS G B (led' o') env pv l h' → Q () (at_ s h' t)) : wpAny (model pw w) A (setItem (.ref a) (.int k u) x) Q E (at_ s h t) := by
  have hm : (a, o) ∈ led := by obtain ⟨x, y, e, _⟩ := (hsw o).split; rw [e]; simp
  refine wpAny_setItem_list (s := at_ s h t) (F.isL ⟨o, hl, .inr hm⟩) h0 h1 (by simpa using h2) fun h' hl' sb => ?_
  obtain ⟨o', e, c, d⟩ := hl'
  exact q o' h' ⟨c, by simpa using d⟩ (F.swap (hsw o') sb e)
theorem r_len (F : FS G B led env pv l h) (hl : Has B led a (LO vs)) (hz : vs.length < 2 ^ 63) (q : ∀ u t', Q (.int vs.length u) (at_ s h t')) : wpAny (model pw w) A (call (.builtin "len") [.ref a]) Q E (at_ s h t) :=
  PyProof.Rows.len_list (F.isL hl) (by simp; (first | lia | omega)) (by simpa using q _ _)
theorem r_append {n : Nat} (F : FS G B led env pv l h) (hz : vs.length ≤ sizeLine) (hm : (a, lst vs n) ∈ led) (q : ∀ led' h', Swap a (lst vs n) (lst (vs ++ [x]) (n + 1)) led led' → FS G B led' env pv l h' → Q .none (at_ s h' t)) :
    wpAny (model pw w) A (call (.builtin "list.append") [.ref a, x]) Q E (at_ s h t) := by
  refine append_at (s := at_ s h t) (F.mem hm) (fun h' sb e => ?_) (by simpa using hz)
  obtain ⟨led', sw⟩ := Swap.of_mem (lst (vs ++ [x]) (n + 1)) hm
  have e' : h'.get? a = some (lst (vs ++ [x]) (n + 1)) := by rw [e]; simp [lst]
  exact q led' h' sw (F.swap sw sb e')
theorem r_appendS {n : Nat} (F : FS G B led env pv l h) (hz : vs.length ≤ sizeLine) (sw : Swap a (lst vs n) (lst (vs ++ [x]) (n + 1)) led led') (q : ∀ h', FS G B led' env pv l h' → Q .none (at_ s h' t)) :
    wpAny (model pw w) A (call (.builtin "list.append") ([.ref a] ++ [x])) Q E (at_ s h t) := by
  have hm : (a, lst vs n) ∈ led := by obtain ⟨x, y, e, _⟩ := sw.split; rw [e]; simp
  refine append_at (s := at_ s h t) (F.mem hm) (fun h' sb e => ?_) (by simpa using hz)
  have e' : h'.get? a = some (lst (vs ++ [x]) (n + 1)) := by rw [e]; simp [lst]
  exact q h' (F.swap sw sb e')
theorem r_getappend {n : Nat} {pl : Sem Bool} {Q : VV × List VV → Shared → Prop} (F : FS G B led env pv l h) (hm : (a, lst vs n) ∈ led) (q : Q (.builtin "list.append", [.ref a]) (at_ s h t)) :
    wpAny (model pw w) A (getMethod (.ref a) "append" pl) Q E (at_ s h t) := getMethod_list_append (F.mem hm) rfl rfl q
theorem r_max2 {i j : Int} {ti tj : Tok} (hh : A.handled = none) (F : FS G B led env pv l h) (q : ∀ u h' t', FS G B led env pv l h' → Q (.int (if j > i then j else i) u) (at_ s h' t')) : wpAny (model pw w) A (call (.builtin "max") [.int i ti, .int j tj]) Q E (at_ s h t) :=
  max_two_ints hh fun h' tk k => by
    have := q (if j > i then tj else ti) h' tk (F.keeps k)
    by_cases c : j > i
    · rw [if_pos c]; rw [if_pos c, if_pos c] at this; exact this
    · rw [if_neg c]; rw [if_neg c, if_neg c] at this; exact this
theorem r_min2 {i j : Int} {ti tj : Tok} (hh : A.handled = none) (F : FS G B led env pv l h) (q : ∀ u h' t', FS G B led env pv l h' → Q (.int (if j < i then j else i) u) (at_ s h' t')) : wpAny (model pw w) A (call (.builtin "min") [.int i ti, .int j tj]) Q E (at_ s h t) :=
  min_two_ints hh fun h' tk k => by
    have := q (if j < i then tj else ti) h' tk (F.keeps k)
    by_cases c : j < i
    · rw [if_pos c]; rw [if_pos c, if_pos c] at this; exact this
    · rw [if_neg c]; rw [if_neg c, if_neg c] at this; exact this
theorem r_intbool {b : Bool} (q : ∀ u t', Q (.int (if b = true then 1 else 0) u) (at_ s h t')) : wpAny (model pw w) A (call (.type "int") [.bool b]) Q E (at_ s h t) := PySem.call_int_bool (q _ _)
theorem r_shl {a n : Int} {ta tn : Tok} (h0 : 0 ≤ n) (h1 : n ≤ 1000000) (h2 : a.natAbs < 2 ^ 64) (q : ∀ u t', Q (.int (a * 2 ^ n.toNat) u) (at_ s h t')) : wpAny (model pw w) A (binaryOp .LShift (.int a ta) (.int n tn)) Q E (at_ s h t) := lshift_int_small h0 h1 h2 (q _ _)
theorem r_shr {a n : Int} {ta tn : Tok} (h0 : 0 ≤ n) (q : ∀ u t', Q (.int (a.fdiv (2 ^ n.toNat)) u) (at_ s h t')) : wpAny (model pw w) A (binaryOp .RShift (.int a ta) (.int n tn)) Q E (at_ s h t) := rshift_int h0 (q _ _)
noncomputable abbrev rng (a b c : Int) (t u v : Tok) : Obj := ⟨.type "range", none, .fields #[.int a t, .int b u, .int c v], #[]⟩
theorem r_range1 {n : Int} {tn : Tok} (F : FS G B led env pv l h) (q : ∀ a h' t' ta tc, FS G B ((a, rng 0 n 1 ta tn tc) :: led) env pv l h' → Q (.ref a) (at_ s h' t')) : wpAny (model pw w) A (call (.type "range") [.int n tn]) Q E (at_ s h t) :=
  call_range_1 (q _ _ _ _ _ F.alloc)
theorem r_range2 {i n : Int} {ti tn : Tok} (F : FS G B led env pv l h) (q : ∀ a h' t' tc, FS G B ((a, rng i n 1 ti tn tc) :: led) env pv l h' → Q (.ref a) (at_ s h' t')) : wpAny (model pw w) A (call (.type "range") [.int i ti, .int n tn]) Q E (at_ s h t) :=
  call_range_2 (q _ _ _ _ F.alloc)
theorem r_range3 {i n c : Int} {ti tn tc : Tok} (F : FS G B led env pv l h) (hc : c ≠ 0) (hc' : c.natAbs < 1073741824) (q : ∀ a h' t', FS G B ((a, rng i n c ti tn tc) :: led) env pv l h' → Q (.ref a) (at_ s h' t')) : wpAny (model pw w) A (call (.type "range") [.int i ti, .int n tn, .int c tc]) Q E (at_ s h t) :=
  call_range_3 hc (q _ _ _ F.alloc) (.inl (PyProof.noPylong_small hc'))
end
-- part LX2
noncomputable def NoCell (o : Obj) : Prop := ∀ c, o.data ≠ .cell c
theorem HS.upd2 {G : Heap} {B : Rel} {pre post : Led} {a : Addr} {o o' : Obj} {h h' : Heap} (H : HS G B (pre ++ (a, o) :: post) h) (k : ∀ b ob, b ≠ a → h.get? b = some ob → h'.get? b = some ob) (e : h'.get? a = some o') : HS G B (pre ++ (a, o') :: post) h' := by
  have hm : (a, o) ∈ pre ++ (a, o) :: post := List.mem_append_right _ (.head _)
  have nd := H.nd
  rw [List.map_append, List.map_cons] at nd
  have nd' := List.nodup_append.mp nd
  have hpost : a ∉ post.map (·.1) := (List.nodup_cons.mp nd'.2.1).1
  have hpre : a ∉ pre.map (·.1) := fun q => nd'.2.2 a q a (.head _) rfl
  refine ⟨H.gb, fun b ob q => ?_, fun p hp => ?_, by rw [List.map_append, List.map_cons]; exact nd, fun p hp ob q => ?_⟩
  · have : b ≠ a := by rintro rfl; exact H.off _ hm ob q
    exact k b ob this (H.base b ob q)
  · rcases List.mem_append.mp hp with hp | hp
    · exact k p.1 _ (fun q => hpre (q ▸ List.mem_map_of_mem hp)) (H.mem p (List.mem_append_left _ hp))
    · rcases List.mem_cons.mp hp with rfl | hp
      · exact e
      · exact k p.1 _ (fun q => hpost (q ▸ List.mem_map_of_mem hp)) (H.mem p (List.mem_append_right _ (.tail _ hp)))
  · rcases List.mem_append.mp hp with hp | hp
    · exact H.off p (List.mem_append_left _ hp) ob q
    · rcases List.mem_cons.mp hp with rfl | hp
      · exact H.off _ hm ob q
      · exact H.off p (List.mem_append_right _ (.tail _ hp)) ob q
theorem HS.dropBut {G : Heap} {B : Rel} {a : Addr} {o : Obj} {led : Led} {h h' : Heap} (H : HS G B ((a, o) :: led) h) (k : ∀ b ob, b ≠ a → h.get? b = some ob → h'.get? b = some ob) : HS G B led h' := by
  have nd := H.nd
  rw [List.map_cons, List.nodup_cons] at nd
  refine ⟨H.gb, fun b ob q => k b ob ?_ (H.base b ob q), fun p hp => k _ _ ?_ (H.mem p (.tail _ hp)), nd.2, fun p hp => H.off p (.tail _ hp)⟩
  · rintro rfl; exact H.off _ (.head _) ob q
  · rintro rfl; exact nd.1 (List.mem_map.mpr ⟨p, hp, rfl⟩)
theorem Own.pvUp {env : Env} {l : Loc} {oL : Obj} {cs pv pv' : Led} (O : Own env l oL cs pv) (i : ∀ c ob, (c, ob) ∈ pv → (∃ v, ob.data = .cell v) → (c, ob) ∈ pv') : Own env l oL cs pv' :=
  ⟨O.ns, fun x o hx hk => by
    obtain ⟨c, ob, e1, e2, e3⟩ := O.cell x o hx hk
    exact ⟨c, ob, e1, e2.imp id (fun q => ⟨q.1, i _ _ q.2 ⟨_, e3⟩⟩), e3⟩,
  fun x o hx hk => by
    obtain ⟨c, ob, e1, e2, e3⟩ := O.free x o hx hk
    exact ⟨c, ob, e1, i _ _ e2 ⟨_, e3⟩, e3⟩, O.inj, O.nd, O.fn, O.gl, O.bl⟩
section
variable {G : Heap} {B : Rel} {led led' : Led} {env : Env} {pv : Led} {l : Loc} {h h' : Heap} {a : Addr} {o o' : Obj}
theorem perm_h1 {α : Type} (x y : α) (a b c : List α) : (x :: (a ++ (b ++ (y :: c)))).Perm (x :: (a ++ (y :: (b ++ c)))) := by
  refine List.Perm.cons _ (List.Perm.append_left _ ?_)
  exact List.perm_middle
theorem FS.hide (F : FS G B ((a, o) :: led) env pv l h) : FS G B led env ((a, o) :: pv) l h := by
  obtain ⟨oL, cs, O, H⟩ := F
  exact ⟨oL, cs, O.pvUp fun _ _ m _ => .tail _ m, H.perm (perm_h1 _ _ _ _ _)⟩
theorem FS.show (nc : NoCell o) (F : FS G B led env ((a, o) :: pv) l h) : FS G B ((a, o) :: led) env pv l h := by
  obtain ⟨oL, cs, O, H⟩ := F
  exact ⟨oL, cs, O.pvUp fun c ob m ⟨v, e⟩ => (List.mem_cons.mp m).elim (fun q => absurd e (by cases q; exact nc v)) id, H.perm (perm_h1 _ _ _ _ _).symm⟩
theorem FS.mono2 (F : FS G B ((a, o) :: led) env pv l h) (k : ∀ b ob, b ≠ a → h.get? b = some ob → h'.get? b = some ob) (e : h'.get? a = some o') : FS G B ((a, o') :: led) env pv l h' := by
  obtain ⟨oL, cs, O, H⟩ := F
  have e1 : ∀ x : Addr × Obj, ((env.locals, oL) :: (cs ++ (pv ++ x :: led))) = (((env.locals, oL) :: cs) ++ pv) ++ x :: led := by intro x; simp
  refine ⟨oL, cs, O, ?_⟩
  rw [e1] at H ⊢
  exact H.upd2 k e
theorem FS.dropBut (F : FS G B ((a, o) :: led) env pv l h) (k : ∀ b ob, b ≠ a → h.get? b = some ob → h'.get? b = some ob) : FS G B led env pv l h' := by
  obtain ⟨oL, cs, O, H⟩ := F
  refine ⟨oL, cs, O, HS.dropBut (a := a) (o := o) (h := h) (H.perm ?_) k⟩
  have := (@List.perm_middle _ (a, o) (((env.locals, oL) :: cs) ++ pv) led)
  simpa using this
end
/-- the walked thing's state survives what the body does -/
theorem walks_keep {w : World} {A : Around} {I : Addr} {fp : List Addr} {n : Nat} {P : Nat → VV → Prop} {St : Nat → Heap → Prop} (W : Walks pw w A I fp [I] n P St) {B B' : Rel} (hfp : ∀ b ∈ fp, b ≠ I → ∃ o, B b o) {G : Heap} {env : Env} {pv : Led} {l l' : Loc} {led led' : Led} {h h' : Heap} {o : Obj}
    (i : Nat) (F : FS G B led env ((I, o) :: pv) l h) (F' : FS G B' led' env ((I, o) :: pv) l' h') (inc : Inc B B') (st : St i h) : St i h' := by
  refine W.frame i h h' st fun b hb ob e => ?_
  have mI : ∀ {B led l h}, FS G B led env ((I, o) :: pv) l h → h.get? I = some o := by
    intro B led l h F
    obtain ⟨oL, cs, O, H⟩ := F
    exact H.mem (I, o) (.tail _ (List.mem_append_right _ (List.mem_append_left _ (.head _))))
  by_cases hI : b = I
  · subst hI
    rw [mI F] at e; cases e
    exact mI F'
  · obtain ⟨o', ho'⟩ := hfp b hb hI
    rw [F.base _ _ ho'] at e; cases e
    exact F'.base _ _ (inc _ _ ho')
noncomputable def NoE : VV → Shared → Prop := fun _ _ => False
/-- what the end of a loop's body owes -/
noncomputable abbrev TurnEnd (s : Shared) (G : Heap) (env : Env) (N : Rel → Led → Loc → Prop) (B₁ : Rel) (pv' : Led) : Flow → Shared → Prop := fun f s₃ => match f with
  | .next => Ex5 fun B₂ led₂ l₂ h₂ t₂ => An4 (s₃ = at_ s h₂ t₂) (Inc B₁ B₂) (N B₂ led₂ l₂) (FS G B₂ led₂ env pv' l₂ h₂)
  | .cont => False | .brk => False | .ret _ => False
/-- one turn of a loop with a name as its target -/
noncomputable def Turn (w : World) (A : Around) (s : Shared) (G : Heap) (env : Env) (x : SS) (body : List Stmt) (N : Rel → Led → Loc → Prop) (B₁ : Rel) (pv' : Led) (v : VV) (h₁ : Heap) (t₁ : Nat) : Prop :=
  wpAny (model pw w) A (storeName env x v) (fun _ s₂ => wpAny (model pw w) A (execs body env) (TurnEnd s G env N B₁ pv') NoE s₂) NoE (at_ s h₁ t₁)
section
variable {w : World} {A : Around} {E : VV → Shared → Prop} {s : Shared} {t : Nat} {G : Heap} {B : Rel} {led led' : Led} {env : Env} {pv : Led} {l : Loc} {h : Heap}
theorem for_loop {I : Addr} {oI : Obj} {fp : List Addr} {n : Nat} {P : Nat → VV → Prop} {St : Nat → Heap → Prop} (W : Walks pw w A I fp [I] n P St) (hfp : ∀ b ∈ fp, b ≠ I → ∃ o, B b o) (hst : ∀ i h, St i h → ∃ o, h.get? I = some o ∧ NoCell o)
    (F : FS G B ((I, oI) :: led) env pv l h) (h0 : St 0 h) {target : Ev} {body : List Stmt} {R : Result → Shared → Prop}
    (Inv : Nat → Rel → Led → Loc → Prop) (i0 : Inv 0 B led l)
    (step : ∀ i B₁ led₁ l₁ h₁ t₁ pv' v, i < n → Inc B B₁ → Inv i B₁ led₁ l₁ → P i v → FS G B₁ led₁ env pv' l₁ h₁ →
      wpAny (model pw w) A (assign target env v) (fun _ s₂ => wpAny (model pw w) A (execs body env) (TurnEnd s G env (Inv (i+1)) B₁ pv') NoE s₂) NoE (at_ s h₁ t₁))
    (fin : ∀ B₁ led₁ l₁ h₁ t₁, Inc B B₁ → Inv n B₁ led₁ l₁ → FS G B₁ led₁ env pv l₁ h₁ → R (.ok .next) (at_ s h₁ t₁))
    (hgo : ∀ v, letOwnedTupleGo target (.ref I) v = pure () := by intro _; rfl) :
    codeAny (model pw w) A (.forLoop target (.ref I) body [] env) R (at_ s h t) := by
  refine codeAny_forLoop (s := at_ s h t) (fun d s' => ∃ i B₁ led₁ l₁ h₁ t₁ o, i ≤ n ∧ d = n - i ∧ s' = at_ s h₁ t₁ ∧ Inc B B₁ ∧ Inv i B₁ led₁ l₁ ∧ FS G B₁ ((I, o) :: led₁) env pv l₁ h₁ ∧ St i h₁) ?_ n ⟨0, B, led, l, h, t, oI, Nat.zero_le _, rfl, rfl, fun _ _ e => e, i0, F, h0⟩ hgo
  rintro d s' ⟨i, B₁, led₁, l₁, h₁, t₁, o, hi, rfl, rfl, inc, iv, F₁, st⟩
  rcases Nat.lt_or_ge i n with hlt | hge
  · refine W.item i (at_ s h₁ t₁) _ _ hlt st fun v h₂ tk pv₀ st₂ k => ?_
    obtain ⟨o₂, eo, nc⟩ := hst _ _ st₂
    have F₂ := (F₁.mono2 (fun b ob hb e => k b ob (by simp [hb]) e) eo).hide
    refine wpAny_mono (step i B₁ led₁ l₁ h₂ tk _ v hlt inc iv pv₀ F₂) (fun _ s₂ q => ?_) fun _ _ q => q.elim
    refine wpAny_mono q (fun f s₃ q => ?_) fun _ _ q => q.elim
    cases f with
    | next =>
      obtain ⟨B₃, led₃, l₃, h₃, t₃, rfl, inc₃, iv₃, F₃⟩ := q
      exact ⟨n - (i + 1), by (first | lia | omega), i + 1, B₃, led₃, l₃, h₃, t₃, o₂, by (first | lia | omega), rfl, rfl, fun a ob e => inc₃ _ _ (inc _ _ e), iv₃, F₃.show nc, walks_keep W (fun b hb hne => (hfp b hb hne).imp fun _ e => inc _ _ e) (i + 1) F₂ F₃ inc₃ st₂⟩
    | cont => exact q.elim
    | brk => exact q.elim
    | ret _ => exact q.elim
  · have : i = n := by (first | lia | omega)
    subst this
    refine W.done (at_ s h₁ t₁) _ _ st fun h₂ tk k => ?_
    exact wpAny_execs_nil (fin B₁ led₁ l₁ h₂ tk inc iv (F₁.dropBut fun b ob hb e => k b ob (by simp [hb]) e))
end
-- part LX3
theorem letGo_of {w : World} {A : Around} {E : VV → Shared → Prop} {s : Shared} {elts : List Ev} {k : Nat} {pos : Pos} {I : Addr} {v : VV} {Q : Unit → Shared → Prop} {o : Obj} {nm : String} (ho : s.heap.get? I = some o) (hc : o.cls = .type nm)
    (hn : (["enumerate", "zip", "dict_itemiterator", "dict_reverseitemiterator", "odict_iterator", "itertools.zip_longest", "itertools.pairwise"].contains nm) = false) (q : Q () s) : wpAny (model pw w) A (letOwnedTupleGo (.Tuple elts k pos) (.ref I) v) Q E s := by
  cases v with
  | ref a =>
    unfold letOwnedTupleGo
    refine wpAny_bind (wpAny_load ho ?_)
    rw [hc]
    cases hd : o.data with
    | fields vs =>
      show wpAny _ A (if (["enumerate", "zip", "dict_itemiterator", "dict_reverseitemiterator", "odict_iterator", "itertools.zip_longest", "itertools.pairwise"].contains nm && vs[0]? == some (rawInt a)) = true then _ else _) Q E s
      rw [hn, Bool.false_and, if_neg (by decide)]
      exact wpAny_pure q
    | _ => exact wpAny_pure q
  | _ => exact wpAny_pure q
/-- an iterator at its start -/
structure Itr (w : World) (A : Around) (B : Rel) (I : Addr) (n : Nat) (P : Nat → VV → Prop) (h : Heap) : Prop where
  ex : ∃ fp St, Walks pw w A I fp [I] n P St ∧ (∀ b ∈ fp, b ≠ I → ∃ o, B b o) ∧ (∀ i h, St i h → ∃ o nm, h.get? I = some o ∧ NoCell o ∧ o.cls = .type nm ∧
    (["enumerate", "zip", "dict_itemiterator", "dict_reverseitemiterator", "odict_iterator", "itertools.zip_longest", "itertools.pairwise"].contains nm) = false) ∧ St 0 h
noncomputable abbrev atL (vs : List VV) : Nat → VV → Prop := fun i v => vs[i]? = some v
noncomputable abbrev atR (a c : Int) : Nat → VV → Prop := fun i v => ∃ t, v = .int (a + i * c) t
section
variable {w : World} {A : Around} {E : VV → Shared → Prop} {s : Shared} {t : Nat} {G : Heap} {B : Rel} {led led' : Led} {env : Env} {pv : Led} {l : Loc} {h : Heap} {a : Addr} {vs : List VV} {Q : VV → Shared → Prop}
theorem small_of {a b c : Int} (ha : -2 ^ 31 ≤ a) (ha' : a < 2 ^ 31) (hb : -2 ^ 31 ≤ b) (hb' : b < 2 ^ 31) (hc : c = 1 ∨ c = -1) : Builtin.Range.small a b c = true := by
  have e1 := rangeSize_nat a b
  have e2 := rangeSize_downNat a b
  unfold Builtin.Range.small
  rcases hc with rfl | rfl
  · rw [e1]; simp [Builtin.Range.rangeFitsLong]; (first | lia | omega)
  · rw [e2]; simp [Builtin.Range.rangeFitsLong]; (first | lia | omega)
theorem r_iter_range {i j c : Int} {ti tj tc : Tok} (hh : A.handled = none) (F : FS G B led env pv l h) (hm : h.get? a = some (rng i j c ti tj tc)) (hi : -2 ^ 31 ≤ i ∧ i < 2 ^ 31) (hj : -2 ^ 31 ≤ j ∧ j < 2 ^ 31) (hc : c = 1 ∨ c = -1)
    {n : Nat} (hn : (Builtin.Range.rangeSize i j c) = (n : Int))
    (q : ∀ I o h', Itr w A B I n (atR i c) h' → FS G B ((I, o) :: led) env pv l h' → Q (.ref I) (at_ s h' t)) : wpAny (model pw w) A (pyIter (.ref a)) Q E (at_ s h t) := by
  refine wpAny_pyIter_range (s := at_ s h t) hm (small_of hi.1 hi.2 hj.1 hj.2 hc) (q _ _ _ ⟨_, _, Walks.range hh _ i c n, ?_, ?_, ?_⟩ F.alloc)
  · intro b hb hne; simp at hb; exact absurd hb hne
  · intro k h hk
    refine ⟨_, "range_iterator", hk, ?_, rfl, by decide⟩
    intro x q; cases q
  · show Heap.get? _ _ = _
    rw [Heap.get?_push_size _ rfl, hn]; simp
theorem r_iter_list (hh : A.handled = none) (F : FS G B led env pv l h) (hl : LB B a vs) (q : ∀ I o h', Itr w A B I vs.length (atL vs) h' → FS G B ((I, o) :: led) env pv l h' → Q (.ref I) (at_ s h' t)) : wpAny (model pw w) A (pyIter (.ref a)) Q E (at_ s h t) := by
  have hL := F.isL (Has.lb hl)
  have hne : a ≠ h.objs.size := by obtain ⟨o, e, _⟩ := hL; exact Nat.ne_of_lt (Heap.lt_size e)
  refine wpAny_pyIter_list (s := at_ s h t) hL (q _ _ _ ?_ F.alloc)
  have W := Walks.list (prog := pw) (w := w) (A := A) hh h.objs.size a hne vs.toArray
  simp only [List.getElem?_toArray, List.size_toArray] at W
  refine ⟨_, _, W, ?_, ?_, ?_⟩
  · intro b hb hne
    simp only [List.mem_cons, List.not_mem_nil, or_false] at hb
    rcases hb with e | e
    · exact absurd e hne
    · subst e; obtain ⟨o, b, _⟩ := hl; exact ⟨o, b⟩
  · rintro k h ⟨⟨o, e, c, d⟩, _⟩
    have nc : NoCell o := by intro x q; rw [d] at q; cases q
    exact ⟨o, _, e, nc, c, by decide⟩
  · exact ⟨⟨_, Heap.get?_push_size _ rfl, rfl, rfl⟩, hL.push _⟩
theorem r_iter_tuple (hh : A.handled = none) (F : FS G B led env pv l h) (hl : TB B a vs) (q : ∀ I o h', Itr w A B I vs.length (atL vs) h' → FS G B ((I, o) :: led) env pv l h' → Q (.ref I) (at_ s h' t)) : wpAny (model pw w) A (pyIter (.ref a)) Q E (at_ s h t) := by
  have hL := F.isT (Has.tb hl)
  have hne : a ≠ h.objs.size := by obtain ⟨o, e, _⟩ := hL; exact Nat.ne_of_lt (Heap.lt_size e)
  refine wpAny_pyIter_tuple (s := at_ s h t) hL (q _ _ _ ?_ F.alloc)
  have W := Walks.tuple (prog := pw) (w := w) (A := A) hh h.objs.size a hne vs.toArray
  simp only [List.getElem?_toArray, List.size_toArray] at W
  refine ⟨_, _, W, ?_, ?_, ?_⟩
  · intro b hb hne
    simp only [List.mem_cons, List.not_mem_nil, or_false] at hb
    rcases hb with e | e
    · exact absurd e hne
    · subst e; obtain ⟨o, b, _⟩ := hl; exact ⟨o, b⟩
  · rintro k h ⟨⟨o, e, c, d⟩, _⟩
    have nc : NoCell o := by intro x q; rw [d] at q; cases q
    exact ⟨o, _, e, nc, c, by decide⟩
  · exact ⟨⟨_, Heap.get?_push_size _ rfl, rfl, rfl⟩, hL.push _⟩
theorem r_for {I : Addr} {oI : Obj} {n : Nat} {P : Nat → VV → Prop} {x : SS} {xp : Pos} {body : List Stmt} {R : Result → Shared → Prop} (T : Itr w A B I n P h) (F : FS G B ((I, oI) :: led) env pv l h)
    (Inv : Nat → Rel → Led → Loc → Prop) (i0 : Inv 0 B led l)
    (step : ∀ i B₁ led₁ l₁ h₁ t₁ pv' v, i < n → Inc B B₁ → Inv i B₁ led₁ l₁ → P i v → FS G B₁ led₁ env pv' l₁ h₁ →
      Turn w A s G env x body (Inv (i+1)) B₁ pv' v h₁ t₁)
    (fin : ∀ K : Result → Shared → Prop, (∀ r s', R r s' → K r s') → ∀ B₁ led₁ l₁ h₁ t₁, Inc B B₁ → Inv n B₁ led₁ l₁ → FS G B₁ led₁ env pv l₁ h₁ → K (.ok .next) (at_ s h₁ t₁)) :
    codeAny (model pw w) A (.forLoop (.Name x xp) (.ref I) body [] env) R (at_ s h t) := by
  obtain ⟨fp, St, W, hfp, hst, h0⟩ := T
  exact for_loop W hfp (fun i h q => let ⟨o, _, a, b, _⟩ := hst i h q; ⟨o, a, b⟩) F h0 Inv i0 (fun i B₁ led₁ l₁ h₁ t₁ pv' v a b c d e => wpAny_assign_Name (step i B₁ led₁ l₁ h₁ t₁ pv' v a b c d e)) (fin R fun _ _ h => h)
end
-- part LX4
theorem lookup_relabel_free {env : Env} (he : env.scope.kind = .function) : ∀ {names : List (SS × NameKind)} {x : SS}, names.lookup x = some .free → env.kindOf x = some .cell →
    (names.map fun (n, k) => if (k == NameKind.free && env.scope.kind == .function && env.kindOf n == some .cell) then (n, NameKind.cell) else (n, k)).lookup x = some .cell
  | [], _, h, _ => by simp at h
  | (n, k) :: r, x, h, hc => by
    have ih := @lookup_relabel_free env he r x
    show List.lookup x ((if (k == NameKind.free && env.scope.kind == .function && env.kindOf n == some .cell) = true then (n, NameKind.cell) else (n, k)) :: _) = _
    cases hx : x == n with
    | true =>
      simp only [List.lookup_cons, hx] at h
      cases h
      have : x = n := by simpa using hx
      subst this
      simp [List.lookup_cons, he, hc]
    | false =>
      simp only [List.lookup_cons, hx] at h
      by_cases q : (k == NameKind.free && env.scope.kind == .function && env.kindOf n == some .cell) = true
      · rw [if_pos q]; simp only [List.lookup_cons, hx]; exact ih h hc
      · rw [if_neg q]; simp only [List.lookup_cons, hx]; exact ih h hc
/-- what a comprehension's frame may know -/
noncomputable def LcOk (scope : Scope) (env : Env) (cl : List (SS × Addr)) (l : Loc) (p : SS × Option VV) : Prop :=
  (scope.names.lookup p.1 = some .local ∧ p.2 = none) ∨ (scope.names.lookup p.1 = some .free ∧ p ∈ l ∧ env.kindOf p.1 = some .cell ∧ cl.lookup p.1 = env.cells.lookup p.1)
theorem Own.comp {env : Env} {l lc : Loc} {oL oC : Obj} {cs pv pv' : Led} {scope : Scope} {cl : List (SS × Addr)} {C : Addr} (O : Own env l oL cs pv) (hlc : ∀ p ∈ lc, LcOk scope env cl l p) (hnd : (lc.map (·.1)).Nodup) (hk : scope.kind = .function)
    (hns : ∃ es ep, oC.data = .dict es ep ∧ StrKeys es ∧ ∀ n, nsFind es n = none) (i : ∀ q, q ∈ cs ++ pv → q ∈ pv') : Own (compEnvC scope cl C env) lc oC [] pv' := by
  obtain ⟨es, ep, n1, n2, n3⟩ := hns
  have kloc : ∀ x, scope.names.lookup x = some .local → (compEnvC scope cl C env).kindOf x = some .local := fun x hx => lookup_relabel_local hx
  have kfree : ∀ x, scope.names.lookup x = some .free → env.kindOf x = some .cell → (compEnvC scope cl C env).kindOf x = some .cell := fun x hx hc => lookup_relabel_free O.fn hx hc
  refine ⟨⟨es, ep, _, n1, n2, n3, fun x o hx hy => ?_⟩, fun x o hx hy => ?_, fun x o hx hy => ?_, fun q => (by cases q), hnd, hk, O.gl, O.bl⟩
  · rcases hlc _ hx with ⟨_, e⟩ | ⟨a, _, b, _⟩
    · exact e.symm
    · rw [kfree x a b] at hy; cases hy
  · rcases hlc _ hx with ⟨a, _⟩ | ⟨a, b, c, d⟩
    · rw [kloc x a] at hy; cases hy
    · obtain ⟨ce, ob, e1, e2, e3⟩ := O.cell x o b c
      refine ⟨ce, ob, d.trans e1, .inr ⟨rfl, i _ ?_⟩, e3⟩
      rcases e2 with e2 | ⟨_, e2⟩
      · exact List.mem_append_left _ e2
      · exact List.mem_append_right _ e2
  · rcases hlc _ hx with ⟨a, _⟩ | ⟨a, b, c, d⟩
    · rw [kloc x a] at hy; cases hy
    · rw [kfree x a c] at hy; cases hy
section
variable {G : Heap} {B : Rel} {led led' : Led} {env : Env} {pv pre post : Led} {l : Loc} {h h' : Heap} {a : Addr} {o o' : Obj}
theorem FS.updPv (F : FS G B led env (pre ++ (a, o) :: post) l h) (nc : NoCell o) (k : ∀ b ob, b ≠ a → h.get? b = some ob → h'.get? b = some ob) (e : h'.get? a = some o') : FS G B led env (pre ++ (a, o') :: post) l h' := by
  obtain ⟨oL, cs, O, H⟩ := F
  have e1 : ∀ x : Addr × Obj, ((env.locals, oL) :: (cs ++ ((pre ++ x :: post) ++ led))) = (((env.locals, oL) :: cs) ++ pre) ++ x :: (post ++ led) := by intro x; simp
  refine ⟨oL, cs, O.pvUp fun c ob m ⟨v, ev⟩ => ?_, ?_⟩
  · rcases List.mem_append.mp m with m | m
    · exact List.mem_append_left _ m
    · rcases List.mem_cons.mp m with q | m
      · cases q; exact absurd ev (nc v)
      · exact List.mem_append_right _ (.tail _ m)
  · rw [e1] at H ⊢
    exact H.upd2 k e
theorem FS.dropPv (F : FS G B led env ((a, o) :: pv) l h) (nc : NoCell o) (k : ∀ b ob, b ≠ a → h.get? b = some ob → h'.get? b = some ob) : FS G B led env pv l h' := (F.show nc).dropBut k
theorem FS.pvAt (F : FS G B led env pv l h) (m : (a, o) ∈ pv) : h.get? a = some o := by
  obtain ⟨oL, cs, O, H⟩ := F
  exact H.mem (a, o) (.tail _ (List.mem_append_right _ (List.mem_append_left _ m)))
end
theorem comp_perm {α : Type} (C D I L : α) (cs pv led : List α) : (L :: (cs ++ (pv ++ C :: D :: I :: led))).Perm (C :: ([] ++ ((I :: D :: L :: (cs ++ pv)) ++ led))) := by
  classical
  rw [List.perm_iff_count]; intro x
  simp only [List.count_append, List.count_cons, List.nil_append]; (first | lia | omega)
theorem comp_perm' {α : Type} (C D L : α) (cs' cs pv led : List α) : (C :: (cs' ++ ((D :: L :: (cs ++ pv)) ++ led))).Perm (cs' ++ (L :: (cs ++ (pv ++ C :: D :: led)))) := by
  classical
  rw [List.perm_iff_count]; intro x
  simp only [List.count_append, List.count_cons]; (first | lia | omega)
noncomputable abbrev TurnEndC (s : Shared) (G : Heap) (env : Env) (N : Rel → Led → Loc → List VV → Prop) (B₁ : Rel) (pv' : Led) (vs : List VV) : VV → Shared → Prop := fun y s₃ =>
  Ex5 fun B₂ led₂ l₂ h₂ t₂ => An4 (s₃ = at_ s h₂ t₂) (Inc B₁ B₂) (N B₂ led₂ l₂ (vs ++ [y])) (FS G B₂ led₂ env pv' l₂ h₂)
noncomputable def TurnC (w : World) (A : Around) (s : Shared) (G : Heap) (env : Env) (target elt : Ev) (N : Rel → Led → Loc → List VV → Prop) (B₁ : Rel) (pv' : Led) (vs : List VV) (v : VV) (h₁ : Heap) (t₁ : Nat) : Prop :=
  wpAny (model pw w) A (assign target env v) (fun _ s₂ => wpAny (model pw w) A (eval elt env) (TurnEndC s G env N B₁ pv' vs) NoE s₂) NoE (at_ s h₁ t₁)
noncomputable def CompTail (w : World) (A : Around) (E : VV → Shared → Prop) (env : Env) (e : Ev) (scope : Scope) (cl : List (SS × Addr)) (RR : VV → Addr → Result → Shared → Prop) (it : VV) (s : Shared) : Prop :=
  wpAny (model pw w) A (newList []) (fun acc s₃ => wpAny (model pw w) A (newFunctionEnv scope env.globals cl [] env.qual none .none (some env)) (fun cenv s₄ =>
      codeAny (model pw w) A (.compStart e 0 it acc { cenv with scope := relabel scope env }) (RR acc cenv.locals) s₄) E s₃) E s
section
variable {w : World} {A : Around} {E : VV → Shared → Prop} {s : Shared} {t : Nat} {G : Heap} {B : Rel} {led led' : Led} {env : Env} {pv : Led} {l : Loc} {h : Heap}
theorem comp_core {I : Addr} {oI : Obj} {n : Nat} {P : Nat → VV → Prop} {target elt iter : Ev} {scope : Scope} {pos : Pos} {cl : List (SS × Addr)} {RR : VV → Addr → Result → Shared → Prop} (T : Itr w A B I n P h) (F : FS G B ((I, oI) :: led) env pv l h)
    (hk : scope.kind = .function) (hcell : ∀ y ∈ scope.names, y.2 ≠ .cell) (hn : n ≤ sizeLine) (hgo : (∃ x p, target = .Name x p) ∨ ∃ es k p, target = .Tuple es k p)
    (lc : Loc) (hlc : ∀ p ∈ lc, LcOk scope env cl l p) (hnd : (lc.map (·.1)).Nodup) (Inv : Nat → Rel → Led → Loc → List VV → Prop) (i0 : Inv 0 B led lc [])
    (step : ∀ C i B₁ led₁ l₁ vs h₁ t₁ pv' v, i < n → Inc B B₁ → Inv i B₁ led₁ l₁ vs → vs.length = i → P i v → FS G B₁ led₁ (compEnvC scope cl C env) pv' l₁ h₁ →
      TurnC w A s G (compEnvC scope cl C env) target elt (Inv (i+1)) B₁ pv' vs v h₁ t₁)
    (fin : ∀ D C oC B₁ led₁ l₁ vs h₁ t₁, Inc B B₁ → Inv n B₁ led₁ l₁ vs → vs.length = n → (∃ es ep, oC.data = .dict es ep ∧ StrKeys es) → FS G B₁ ((C, oC) :: (D, lst vs n) :: led₁) env pv l h₁ → RR (.ref D) C (.ok .next) (at_ s h₁ t₁)) :
    CompTail w A E env (.ListComp elt [⟨target, iter, [], 0⟩] scope pos) scope cl RR (.ref I) (at_ s h t) := by
  obtain ⟨fp, St, W, hfp, hst, h0⟩ := T
  have hhI : ∀ o h, FS G B ((I, o) :: led) env pv l h → h.get? I = some o := fun o h F => F.mem (.head _)
  have ncI : NoCell oI := by obtain ⟨o, _, e, nc, _⟩ := hst 0 _ h0; rw [hhI _ _ F] at e; cases e; exact nc
  refine wpAny_newObj_type (wpAny_newFunctionEnv hcell (by intro y hy; simp at hy) (fun h₂ hns sb => ?_) hk)
  have F1 := F.alloc (o := lst []) rfl
  have F2 := F1.alloc (o := ⟨.type (if (some env).isSome = true then "dict" else "frame"), none, .dict #[] 0, #[]⟩) rfl
  obtain ⟨oC, es, ep, c1, c2, c3, c4⟩ := hns
  have F3 := F2.mono2 (fun b ob hb e => (sb.2 b hb).trans e) c1
  have keep02 : ∀ b ∈ fp, ∀ o, h.get? b = some o → h₂.get? b = some o := by
    intro b hb o e
    by_cases hI : b = I
    · subst hI
      rw [hhI _ _ F] at e; cases e
      exact F3.mem (.tail _ (.tail _ (.head _)))
    · obtain ⟨o', ho'⟩ := hfp b hb hI
      rw [F.base _ _ ho'] at e; cases e
      exact F3.base _ _ ho'
  have st2 : St 0 h₂ := W.frame 0 _ _ h0 keep02
  obtain ⟨oL, cs, O, H⟩ := F3
  generalize hC : (h.push (lst [])).objs.size = C at *
  have Oc := O.comp (oC := oC) (C := C) (pv' := (I, oI) :: (h.objs.size, lst [] 0) :: (env.locals, oL) :: (cs ++ pv)) hlc hnd hk ⟨es, ep, c2, c3, c4⟩ (fun q m => .tail _ (.tail _ (.tail _ m)))
  have Fc : FS G B led (compEnvC scope cl C env) ((I, oI) :: (h.objs.size, lst [] 0) :: (env.locals, oL) :: (cs ++ pv)) lc h₂ := ⟨oC, [], Oc, H.perm (comp_perm _ _ _ _ _ _ _)⟩
  have loop : ∀ t₀, codeAny (model pw w) A (.compLoop (.ListComp elt [⟨target, iter, [], 0⟩] scope pos) 0 (.ref I) (.ref h.objs.size) (compEnvC scope cl C env)) (RR (.ref h.objs.size) C) (at_ s h₂ t₀) := by
    intro t₀
    refine kcp_loop (s := at_ s h₂ t₀) (fun d s' => ∃ i B₁ led₁ l₁ vs h₁ t₁ o, i ≤ n ∧ d = n - i ∧ s' = at_ s h₁ t₁ ∧ Inc B B₁ ∧ Inv i B₁ led₁ l₁ vs ∧ vs.length = i ∧ NoCell o ∧
      FS G B₁ led₁ (compEnvC scope cl C env) ((I, o) :: (h.objs.size, lst vs i) :: (env.locals, oL) :: (cs ++ pv)) l₁ h₁ ∧ St i h₁) ?_ n
      ⟨0, B, led, lc, [], h₂, t₀, oI, Nat.zero_le _, rfl, rfl, fun _ _ e => e, i0, rfl, ncI, Fc, st2⟩
    rintro d s' ⟨i, B₁, led₁, l₁, vs, h₁, t₁, o, hi, rfl, rfl, inc, iv, hlen, nc, F₁, st⟩
    rcases Nat.lt_or_ge i n with hlt | hge
    · refine W.item i (at_ s h₁ t₁) _ _ hlt st fun v h₃ tk pv₀ st₃ k => ?_
      obtain ⟨o₂, nm, eo, nc₂, hcl, hnm⟩ := hst _ _ st₃
      have F₂ := FS.updPv (pre := []) F₁ nc (fun b ob hb e => k b ob (by simp [hb]) e) eo
      have go : wpAny (model pw w) A (assign target (compEnvC scope cl C env) v) _ _ (at_ s h₃ tk) := step C i B₁ led₁ l₁ vs h₃ tk _ v hlt inc iv hlen pv₀ F₂
      have tail : ∀ {E'}, wpAny (model pw w) A (assign target (compEnvC scope cl C env) v) (fun _ s₂ => wpAny (model pw w) A (eval elt (compEnvC scope cl C env)) (fun x s₄ => wpAny (model pw w) A (call (.builtin "list.append") [.ref h.objs.size, x])
          (fun _ s₅ => ∃ m, m < n - i ∧ ∃ i B₁ led₁ l₁ vs h₁ t₁ o, i ≤ n ∧ m = n - i ∧ s₅ = at_ s h₁ t₁ ∧ Inc B B₁ ∧ Inv i B₁ led₁ l₁ vs ∧ vs.length = i ∧ NoCell o ∧
            FS G B₁ led₁ (compEnvC scope cl C env) ((I, o) :: (h.objs.size, lst vs i) :: (env.locals, oL) :: (cs ++ pv)) l₁ h₁ ∧ St i h₁) E' s₄) E' s₂) E' (at_ s h₃ tk) := by
        intro E'
        refine wpAny_mono go (fun _ s₂ q => wpAny_mono q (fun y s₃ q => ?_) fun _ _ q => q.elim) fun _ _ q => q.elim
        obtain ⟨B₄, led₄, l₄, h₄, t₄, rfl, inc₄, iv₄, F₄⟩ := q
        refine append_at (s := at_ s h₄ t₄) (F₄.pvAt (.tail _ (.head _))) (fun h₅ sb₅ e₅ => ?_) (by simp; (first | lia | omega))
        have e₅' : h₅.get? h.objs.size = some (lst (vs ++ [y]) (i + 1)) := by rw [e₅]; simp [lst]
        have F₅ := FS.updPv (pre := [(I, o₂)]) F₄ (by intro c q; cases q) (fun b ob hb e => (sb₅.2 b hb).trans e) e₅'
        have st₅ : St (i + 1) h₅ := by
          refine W.frame _ _ _ st₃ fun b hb ob e => ?_
          by_cases hI : b = I
          · subst hI
            rw [F₂.pvAt (.head _)] at e; cases e
            exact F₅.pvAt (.head _)
          · obtain ⟨o', ho'⟩ := hfp b hb hI
            rw [F₂.base _ _ (inc _ _ ho')] at e; cases e
            exact F₅.base _ _ (inc₄ _ _ (inc _ _ ho'))
        exact ⟨n - (i + 1), by (first | lia | omega), i + 1, B₄, led₄, l₄, _, h₅, t₄, o₂, by (first | lia | omega), rfl, rfl, fun a ob e => inc₄ _ _ (inc _ _ e), iv₄, by simp [hlen], nc₂, F₅, st₅⟩
      rcases hgo with ⟨x, p, rfl⟩ | ⟨es, kk, p, rfl⟩
      · exact wpAny_pure tail
      · exact letGo_of (s := at_ s h₃ tk) eo hcl hnm tail
    · have : i = n := by (first | lia | omega)
      subst this
      refine W.done (at_ s h₁ t₁) _ _ st fun h₃ tk k => ?_
      have F₂ := F₁.dropPv nc (fun b ob hb e => k b ob (by simp [hb]) e)
      obtain ⟨oC', cs', O', H'⟩ := F₂
      obtain ⟨es', ep', m', g1, g2, g3, _⟩ := O'.ns
      exact fin _ C oC' B₁ led₁ l₁ vs h₃ tk inc iv hlen ⟨es', ep', g1, g2⟩ ⟨oL, cs, O, (H'.perm (comp_perm' _ _ _ _ _ _ _)).sublist (List.sublist_append_right cs' _)⟩
  exact codeAny_compStart_list (loop _) (W.self 0 (at_ s h₂ _) _ _ st2 (loop _))
end
-- part LX5
section
variable {w : World} {A : Around} {E : VV → Shared → Prop} {s : Shared} {t : Nat} {G : Heap} {B : Rel} {led led' : Led} {env : Env} {pv : Led} {l : Loc} {h : Heap}
theorem r_ListComp {target elt iter : Ev} {scope : Scope} {pos : Pos} {cl : List (SS × Addr)} {Q : VV → Shared → Prop} (hclos : closureFor scope env = pure cl) (hk : scope.kind = .function) (hnames : ∀ y ∈ scope.names, y.2 = .local → scope.names.lookup y.1 = some .local)
    (q : wpAny (model pw w) A (eval iter env) (fun x s₁ => wpAny (model pw w) A (pyIter x) (fun it s₂ => CompTail w A E env (.ListComp elt [⟨target, iter, [], 0⟩] scope pos) scope cl (fun acc C => compPost (model pw w) A E none Q acc C) it s₂) E s₁) E s)
    (hs : ∀ x, foldedSetIterable iter env x = pure x := by intro _; rfl) : wpAny (model pw w) A (eval (.ListComp elt [⟨target, iter, [], 0⟩] scope pos) env) Q E s := by
  rw [eval_ListComp]
  exact wpAny_comprehension_free (use := none) rfl hs hclos hk hnames q
theorem r_comp {I : Addr} {oI : Obj} {n : Nat} {P : Nat → VV → Prop} {target elt iter : Ev} {scope : Scope} {pos : Pos} {cl : List (SS × Addr)} {Q : VV → Shared → Prop} (T : Itr w A B I n P h) (F : FS G B ((I, oI) :: led) env pv l h)
    (hk : scope.kind = .function) (hcell : ∀ y ∈ scope.names, y.2 ≠ .cell) (hn : n ≤ sizeLine) (hgo : (∃ x p, target = .Name x p) ∨ ∃ es k p, target = .Tuple es k p)
    (lc : Loc) (hlc : ∀ p ∈ lc, LcOk scope env cl l p) (hnd : (lc.map (·.1)).Nodup) (Inv : Nat → Rel → Led → Loc → List VV → Prop) (i0 : Inv 0 B led lc [])
    (step : ∀ C i B₁ led₁ l₁ vs h₁ t₁ pv' v, i < n → Inc B B₁ → Inv i B₁ led₁ l₁ vs → vs.length = i → P i v → FS G B₁ led₁ (compEnvC scope cl C env) pv' l₁ h₁ →
      TurnC w A s G (compEnvC scope cl C env) target elt (Inv (i+1)) B₁ pv' vs v h₁ t₁)
    (fin : ∀ K : VV → Shared → Prop, (∀ v s', Q v s' → K v s') → ∀ D B₁ led₁ l₁ vs h₁ t₁, Inc B B₁ → Inv n B₁ led₁ l₁ vs → vs.length = n → FS G B₁ ((D, lst vs n) :: led₁) env pv l h₁ → K (.ref D) (at_ s h₁ t₁)) :
    CompTail w A E env (.ListComp elt [⟨target, iter, [], 0⟩] scope pos) scope cl (fun acc C => compPost (model pw w) A E none Q acc C) (.ref I) (at_ s h t) := by
  refine comp_core T F hk hcell hn hgo lc hlc hnd Inv i0 step fun D C oC B₁ led₁ l₁ vs h₁ t₁ inc iv hlen hns F₁ => ?_
  obtain ⟨es, ep, c1, c2⟩ := hns
  exact ⟨_, ⟨oC, es, ep, F₁.mem (.head _), c1, c2, fun _ => rfl⟩, fun h' sb => fin Q (fun _ _ h => h) D B₁ led₁ l₁ vs h' t₁ inc iv hlen (F₁.dropBut fun b ob hb e => (sb.2 b hb).trans e)⟩
theorem r_AssignComp {target elt iter : Ev} {scope : Scope} {pos spos py : Pos} {y : SS} {cl : List (SS × Addr)} {Q : Flow → Shared → Prop} (hsw : swapsWith (.ListComp elt [⟨target, iter, [], 0⟩] scope pos) (some (.Name y py)) spos.line env = pure true)
    (hclos : closureFor scope env = pure cl) (hk : scope.kind = .function) (hnames : ∀ y ∈ scope.names, y.2 = .local → scope.names.lookup y.1 = some .local)
    (q : wpAny (model pw w) A (eval iter env) (fun x s₁ => wpAny (model pw w) A (pyIter x) (fun it s₂ => CompTail w A E env (.ListComp elt [⟨target, iter, [], 0⟩] scope pos) scope cl
      (fun acc C => compPost (model pw w) A E (some (assign (.Name y py) env)) (fun _ s' => Q .next s') acc C) it s₂) E s₁) E s)
    (hs : ∀ x, foldedSetIterable iter env x = pure x := by intro _; rfl) : wpAny (model pw w) A (exec (.Assign [.Name y py] (.ListComp elt [⟨target, iter, [], 0⟩] scope pos) spos) env) Q E s := by
  rw [exec_Assign_Name_used _ _ _ _ hsw]
  refine wpAny_bind (wpAny_standAt (wpAny_bind ?_))
  show wpAny _ A (do let _ ← comprehension (.ListComp elt [⟨target, iter, [], 0⟩] scope pos) scope env _ (newList []) false (eval iter env) (some (assign (.Name y py) env))) _ _ s
  exact wpAny_bind (wpAny_mono (wpAny_comprehension_free (use := some (assign (.Name y py) env)) (Q := fun _ s' => Q .next s') rfl hs hclos hk hnames q) (fun _ s' hq => wpAny_pure (wpAny_pure hq)) fun _ _ e => e)
theorem r_compA {I : Addr} {oI : Obj} {n : Nat} {P : Nat → VV → Prop} {target elt iter : Ev} {scope : Scope} {pos py : Pos} {y : SS} {cl : List (SS × Addr)} {Q : Shared → Prop} (T : Itr w A B I n P h) (F : FS G B ((I, oI) :: led) env pv l h)
    (hk : scope.kind = .function) (hcell : ∀ y ∈ scope.names, y.2 ≠ .cell) (hn : n ≤ sizeLine) (hgo : (∃ x p, target = .Name x p) ∨ ∃ es k p, target = .Tuple es k p)
    (lc : Loc) (hlc : ∀ p ∈ lc, LcOk scope env cl l p) (hnd : (lc.map (·.1)).Nodup) (Inv : Nat → Rel → Led → Loc → List VV → Prop) (i0 : Inv 0 B led lc [])
    (hky : stOk env y = true) (l' : VV → Loc) (hput : ∀ v, Put y v l (l' v))
    (step : ∀ C i B₁ led₁ l₁ vs h₁ t₁ pv' v, i < n → Inc B B₁ → Inv i B₁ led₁ l₁ vs → vs.length = i → P i v → FS G B₁ led₁ (compEnvC scope cl C env) pv' l₁ h₁ →
      TurnC w A s G (compEnvC scope cl C env) target elt (Inv (i+1)) B₁ pv' vs v h₁ t₁)
    (fin : ∀ K : Shared → Prop, (∀ (_ : Unit) s', Q s' → K s') → ∀ D B₁ led₁ l₁ vs h₁ t₁, Inc B B₁ → Inv n B₁ led₁ l₁ vs → vs.length = n → FS G B₁ ((D, lst vs n) :: led₁) env pv (l' (.ref D)) h₁ → K (at_ s h₁ t₁)) :
    CompTail w A E env (.ListComp elt [⟨target, iter, [], 0⟩] scope pos) scope cl (fun acc C => compPost (model pw w) A E (some (assign (.Name y py) env)) (fun _ s' => Q s') acc C) (.ref I) (at_ s h t) := by
  refine comp_core T F hk hcell hn hgo lc hlc hnd Inv i0 step fun D C oC B₁ led₁ l₁ vs h₁ t₁ inc iv hlen hns F₁ => ?_
  obtain ⟨es, ep, c1, c2⟩ := hns
  show wpAny _ A (assign (.Name y py) env (.ref D)) _ _ _
  refine wpAny_assign_Name (r_storeB F₁ (hput _) hky fun h' t' F₂ => ?_)
  exact ⟨_, ⟨oC, es, ep, F₂.mem (.head _), c1, c2, fun _ => rfl⟩, fun h'' sb => fin Q (fun _ _ h => h) D B₁ led₁ l₁ vs h'' t' inc iv hlen (F₂.dropBut fun b ob hb e => (sb.2 b hb).trans e)⟩
/-- a namespace with just these -/
noncomputable def DictF (fs : Loc) (o : Obj) : Prop := Ex2 fun es ep => An4 (o.data = .dict es ep) (StrKeys es) (es.size ≤ fs.length) (∀ n, nsFind es n = (fs.lookup n).join)
theorem lookIn_of {fs : Loc} {o : Obj} (d : DictF fs o) (name : SS) : lookIn name o = some ((fs.lookup name).join) := by
  obtain ⟨es, ep, d1, d2, _, d3⟩ := d
  have h3 := d3 name
  unfold lookIn
  rw [d1]
  unfold nsFind findBy at h3
  have e : es.toList.find? (·.key.isStr name) = es.find? fun e => e.key.isStr name := by rw [← Array.find?_toList]
  dsimp only
  rw [e]
  cases q : es.find? fun e => e.key.isStr name with
  | some en => rw [q] at h3; rw [← h3]; rfl
  | none =>
    rw [q] at h3
    have : es.toList.any (·.refKey) = false := by
      rw [List.any_eq_false]
      intro x hx
      obtain ⟨n, tk, e⟩ := d2 x (Array.mem_toList_iff.mp hx)
      simp [DictEntry.refKey, e]
    rw [this, ← h3]; rfl
noncomputable def IB (B : Rel) (x C : Addr) (fs : Loc) : Prop := Ex2 fun dx od => An3 (B x (instObj C dx)) (B dx od) (DictF fs od)
theorem IB.up {B B' : Rel} {x C : Addr} {fs : Loc} (q : IB B x C fs) (i : Inc B B') : IB B' x C fs := let ⟨dx, od, a, b, c⟩ := q; ⟨dx, od, i _ _ a, i _ _ b, c⟩
theorem IB.up2 {B B' : Rel} {x C : Addr} {fs : Loc} (i : Inc B B') (q : IB B x C fs) : IB B' x C fs := q.up i
theorem r_attr {x C : Addr} {fs : Loc} {name : SS} {v : VV} {b : Bool} {Q : VV → Shared → Prop} (g : Gr w G) (F : FS G B led env pv l h) (I : IB B x C fs) (hv : fs.lookup name = some (some v)) (hg : plainGet (Kf pw w.params) C name = true) (hh : hasDictIn (Kf pw w.params) C = true)
    (ha : findIn (Kf pw w.params) (.ref C) name = some none) (hd : handedIn v = true) (q : ∀ t', Q v (at_ s h t')) : wpAny (model pw w) A (getAttr (.ref x) name b) Q E (at_ s h t) := by
  obtain ⟨dx, od, b1, b2, b3⟩ := I
  refine get_value (s := at_ s h t) (K := Kf pw w.params) (C := C) (ox := instObj C dx) (od := some od) (g.k.keeps F.sub) ⟨F.base _ _ b1, rfl, rfl, F.base _ _ b2⟩ (plainGet_of hg).1 (findObj_own hh ha rfl ?_) hd (q _)
  rw [lookIn_of b3, hv]; rfl
theorem r_meth {x C f : Addr} {fs : Loc} {name : SS} {pl : Sem Bool} {Q : VV × List VV → Shared → Prop} (g : Gr w G) (F : FS G B led env pv l h) (I : IB B x C fs) (hv : fs.lookup name = none) (hg : plainGet (Kf pw w.params) C name = true)
    (hf : findIn (Kf pw w.params) (.ref C) name = some (some (.ref f))) (ht : isFn (Kf pw w.params) (.ref f) = true) (q : Q (.ref f, [.ref x]) (at_ s h t)) : wpAny (model pw w) A (getMethod (.ref x) name pl) Q E (at_ s h t) := by
  obtain ⟨dx, od, b1, b2, b3⟩ := I
  refine method_fn (s := at_ s h t) (K := Kf pw w.params) (C := C) (ox := instObj C dx) (od := some od) (g.k.keeps F.sub) ⟨F.base _ _ b1, rfl, rfl, F.base _ _ b2⟩ (plainGet_of hg).1 (plainGet_of hg).2 hf (beq_iff_eq.mp ht) ?_ q
  show (lookIn name od).map _ = _
  rw [lookIn_of b3, hv]; rfl
theorem r_setattr {x dx C : Addr} {od : Obj} {fs : Loc} {name : SS} {v : VV} {Q : Unit → Shared → Prop} (g : Gr w G) (F : FS G B led env pv l h) (hx : (x, instObj C dx) ∈ led) (hd : (dx, od) ∈ led) (D : DictF fs od)
    (hs : findIn (Kf pw w.params) (.ref C) "__setattr__" = some (some (.builtin "object.__setattr__"))) (hp : plainOver (Kf pw w.params) C = true) (ht : takerIn (Kf pw w.params) C name = some none) (hh : (clsIn (Kf pw w.params) C).any (·.hasDict) = true)
    (hz : fs.length ≤ 1000) (hfr : fs.lookup name = none)
    (q : ∀ od' led' h' t', DictF ((name, some v) :: fs) od' → Swap dx od od' led led' → FS G B led' env pv l h' → Q () (at_ s h' t')) : wpAny (model pw w) A (setAttr (.ref x) name v) Q E (at_ s h t) := by
  have X : (Kf pw w.params).In h := g.k.keeps F.sub
  have I : PySem.W.InstAt h x (instObj C dx) C (some od) := ⟨F.mem hx, rfl, rfl, F.mem hd⟩
  refine set_plain (s := at_ s h t) X I hs (osa_open (s := at_ s h (t + 1)) X I hp ht fun b => ?_)
  obtain ⟨cd, hc, hd'⟩ := any_some hh
  obtain ⟨es, ep, d1, d2, dz, d3⟩ := D
  have dm := F.mem hd
  obtain ⟨c, d, dt, sl⟩ := od
  dsimp only at d1
  subst d1
  have hany : es.any (·.refKey) = false := by
    rw [Array.any_eq_false']; intro e he; obtain ⟨n, t, h⟩ := d2 e he; simp [DictEntry.refKey, h]
  have hnone : es.findIdx? (·.key.isStr name) = none := by
    have h3 := d3 name
    rw [hfr] at h3
    unfold nsFind findBy at h3
    have h4 : es.find? (fun e => e.key.isStr name) = none := by
      cases q : es.find? (fun e => e.key.isStr name) with
      | none => rfl
      | some e => rw [q] at h3; cases h3
    rw [Array.findIdx?_eq_none_iff]
    intro e he
    simpa using Array.find?_eq_none.mp h4 e he
  refine wpAny_bind (wpAny_pure (wpAny_bind (wpAny_bind (wpAny_loadPart (s := at_ s h (t + 1)) (F.mem hx) (wpAny_bind ((looks_clsIn X hc).here ?_))))))
  rw [hd']
  refine wpAny_pure (a := some dx) (wpAny_bind (wpAny_pure (wpAny_bind ?_)))
  unfold nsSet
  refine wpAny_bind (wpAny_bind (wpAny_askSetting (wpAny_pure (wpAny_bind (wpAny_mkText (wpAny_bind (wpAny_loadPart (s := at_ s h (t + 2)) dm ?_)))))))
  dsimp only
  simp only [aRefKeyMayBeTheName_at, hany, Bool.and_false, Bool.false_eq_true, if_false]
  refine wpAny_updatePart (s := at_ s h (t + 2)) dm ?_
  have up := fun (hv : Int) (tk : Tok) => (Heap.get?_update_self (Obj.putName name hv (.str name tk) v) dm (by simp only [Obj.putName_eq, Obj.putNameByArray, hnone]; rfl)).trans (congrArg some (show _ = (⟨c, d, .dict (es.push ⟨hv, .str name tk, v⟩) (ep + 1), sl⟩ : Obj) by simp only [Obj.putName_eq, Obj.putNameByArray, hnone]))
  generalize (if name.cps.isEmpty = true then 0 else reduceHash ((model pw w).w.params.strHash name.cps)) = hv
  refine wpAny_bind (wpAny_lookBehind (up hv _) (pastItsLine_dict (by rw [Array.size_push, sizeLine_eq]; (first | lia | omega))) ?_)
  obtain ⟨led', sw⟩ := Swap.of_mem ⟨c, d, .dict (es.push ⟨hv, .str name (t + 1), v⟩) (ep + 1), sl⟩ hd
  refine wpAny_pure (q _ led' _ _ ⟨_, _, rfl, d2.push _ _ _ _, by rw [Array.size_push, List.length_cons]; (first | lia | omega), fun n => ?_⟩ sw (F.swap sw (Heap.SameBut.update ..) (up hv _)))
  have fp := findBy_push (fun n v => v.isStr n) es name n hv (.str name (t + 1)) v (fun y => by
      show (name == y) = decide (y = name)
      by_cases h : y = name
      · subst h; simp
      · have : ¬ name = y := fun e => h e.symm
        simp [h, this]) hnone
  refine Eq.trans fp ?_
  rw [List.lookup_cons]
  by_cases e : n = name
  · subst e; simp
  · have : (n == name) = false := beq_eq_false_iff_ne.mpr e
    rw [if_neg e, this]; exact d3 n
theorem r_setattrS {x dx C : Addr} {od : Obj} {fs : Loc} {name : SS} {v : VV} {led' : Obj → Led} {Q : Unit → Shared → Prop} (g : Gr w G) (F : FS G B led env pv l h) (hx : (x, instObj C dx) ∈ led) (D : DictF fs od) (hsw : ∀ o', Swap dx od o' led (led' o'))
    (hs : findIn (Kf pw w.params) (.ref C) "__setattr__" = some (some (.builtin "object.__setattr__"))) (hp : plainOver (Kf pw w.params) C = true) (ht : takerIn (Kf pw w.params) C name = some none) (hh : (clsIn (Kf pw w.params) C).any (·.hasDict) = true)
    (hz : fs.length ≤ 1000) (hfr : fs.lookup name = none)
    (q : ∀ od' h' t', DictF ((name, some v) :: fs) od' → FS G B (led' od') env pv l h' → Q () (at_ s h' t')) : wpAny (model pw w) A (setAttr (.ref x) name v) Q E (at_ s h t) := by
  have hd : (dx, od) ∈ led := by obtain ⟨x, y, e, _⟩ := (hsw od).split; rw [e]; simp
  refine r_setattr g F hx hd D hs hp ht hh hz hfr fun od' led₂ h' t' D' sw F' => q od' h' t' D' ?_
  obtain ⟨p1, p2, e1, e2⟩ := sw.split
  obtain ⟨q1, q2, f1, f2⟩ := (hsw od').split
  rw [f2]
  rw [e2] at F'
  -- both split the same ledger at the same address
  have nd : (led.map (·.1)).Nodup := F.pub.nd
  have key : ∀ (p1 p2 q1 q2 : Led), p1 ++ (dx, od) :: p2 = q1 ++ (dx, od) :: q2 → ((p1 ++ (dx, od) :: p2).map (·.1)).Nodup → p1 = q1 ∧ p2 = q2 := by
    intro p1
    induction p1 with
    | nil =>
      intro p2 q1 q2 e nd
      cases q1 with
      | nil => simpa using e
      | cons y q1 =>
        simp only [List.nil_append, List.cons_append, List.cons.injEq] at e
        exfalso
        have h1 : dx ∈ p2.map (·.1) := by rw [e.2]; simp
        simp only [List.nil_append, List.map_cons, List.nodup_cons] at nd
        exact nd.1 h1
    | cons y p1 ih =>
      intro p2 q1 q2 e nd
      cases q1 with
      | nil =>
        simp only [List.nil_append, List.cons_append, List.cons.injEq] at e
        exfalso
        simp only [List.cons_append, List.map_cons, List.nodup_cons] at nd
        apply nd.1
        rw [e.1]; simp
      | cons z q1 =>
        simp only [List.cons_append, List.cons.injEq] at e
        simp only [List.cons_append, List.map_cons, List.nodup_cons] at nd
        obtain ⟨a, b⟩ := ih p2 q1 q2 e.2 nd.2
        exact ⟨by rw [e.1, a], b⟩
  obtain ⟨a, b⟩ := key p1 p2 q1 q2 (e1 ▸ f1) (e1 ▸ nd)
  rw [← a, ← b]; exact F'
theorem make_spec {C fI : Addr} {args : List VV} {used : Led} {Post : VV → Rel → Led → Prop} (g : Gr w G) (hm : makesIn (Kf pw w.params) C = true) (hi : findIn (Kf pw w.params) (.ref C) "__init__" = some (some (.ref fI))) (hf : typeIn (Kf pw w.params) (.ref fI) = some (.type "function"))
    (init : ∀ x dx od, DictF [] od → Spec w G (A.under (.builtin "type.__call__" ⟨.ref C :: args, []⟩)) (cal fI (.ref x :: args)) B ((x, instObj C dx) :: (dx, od) :: used) (fun v B' u' => v = .none ∧ Post (.ref x) B' u')) :
    Spec w G A (.call (.ref C) ⟨args, []⟩) B used Post := by
  intro s h t Fr H
  have X : (Kf pw w.params).In h := g.k.keeps H.sub
  have H1 := (H.alloc (o := emptyDict) rfl).alloc (o := instObj C h.objs.size) rfl
  rw [Heap.size_push] at H1
  refine make_core (makes_of X hm) (looks_findIn X hi) (fun self => bind_fn X self hf) (.inl rfl) ?_
  have e0 : DictF [] emptyDict := ⟨#[], 0, rfl, fun e he => by simp at he, Nat.le_refl _, fun n => rfl⟩
  refine codeAny_mono (init _ _ _ e0 s _ t Fr H1) fun r s' q => ?_
  obtain ⟨v, B', u', h', t', rfl, rfl, inc, H', rfl, p⟩ := q
  exact ⟨rfl, ⟨_, B', u', h', t', rfl, rfl, inc, H', p⟩⟩
theorem weight_call (args : Args) : (Code.builtin "type.__call__" args).weight ≤ 3 := by
  unfold Code.weight
  have a : (Code.builtin "type.__call__" args).frames ≤ 1 := by show (if (Code.builtin "type.__call__" args).isFrame = true then 1 else 0) ≤ 1; split <;> decide
  have b : (Code.builtin "type.__call__" args).isCaller = false := by rfl
  rw [b]
  split <;> split <;> simp <;> (first | lia | omega)
theorem units_call (args : Args) : (Code.builtin "type.__call__" args).cUnits ≤ 4 := by
  show 1 + 3 * (Code.builtin "type.__call__" args).frames ≤ 4
  have a : (Code.builtin "type.__call__" args).frames ≤ 1 := by show (if (Code.builtin "type.__call__" args).isFrame = true then 1 else 0) ≤ 1; split <;> decide
  (first | lia | omega)
theorem Rm.under {n : Nat} {args : Args} (R : Rm (n + 3) A) : Rm n (A.under (.builtin "type.__call__" args)) := by
  refine ⟨R.hd, ?_, ?_⟩
  · have := R.depth
    show A.depth + (Code.builtin "type.__call__" args).weight + n < _
    have := weight_call args
    (first | lia | omega)
  · have := R.units
    show A.units + (Code.builtin "type.__call__" args).cUnits + 20 * n < _
    have := units_call args
    (first | lia | omega)
end
-- part LX6
section
variable {w : World} {A : Around} {E : VV → Shared → Prop} {s : Shared} {t : Nat} {G : Heap} {B : Rel} {led led' : Led} {env : Env} {pv : Led} {l : Loc} {h : Heap} {a : Addr} {vs : List VV} {k : Int} {u : Tok} {Q : VV → Shared → Prop}
theorem r_itemAny {value slice : Ev} (F : FS G B led env pv l h) (hl : Has B led a (LO vs)) (h0 : 0 ≤ k) (h1 : k < vs.length) (hz : vs.length < 2 ^ 63) (q : ∀ x, x ∈ vs → Q x (at_ s h t)) (hs : subscripted slice false (.ref a) (.int k u) = operate [.ref a, .int k u] (getItem (.ref a) (.int k u)) := by with_unfolding_all rfl) :
    wpAny (model pw w) A (subscriptTail value slice (.ref a) (.int k u)) Q E (at_ s h t) := by
  have hk : k.toNat < vs.length := by (first | lia | omega)
  exact r_item F hl h0 (by (first | lia | omega)) (List.getElem?_eq_getElem hk) (q _ (List.getElem_mem hk)) hs
theorem iter_rng1 {N : Int} {ta tb tc : Tok} {n : Nat} (hh : A.handled = none) (F : FS G B led env pv l h) (hm : h.get? a = some (rng 0 N 1 ta tb tc)) (hn : N = n) (hz : n < 2 ^ 31)
    (q : ∀ I o h', Itr w A B I n (atR 0 1) h' → FS G B ((I, o) :: led) env pv l h' → Q (.ref I) (at_ s h' t)) : wpAny (model pw w) A (pyIter (.ref a)) Q E (at_ s h t) :=
  r_iter_range hh F hm (by (first | lia | omega)) (by (first | lia | omega)) (.inl rfl) (n := n) (by rw [rangeSize_nat, hn]; simp) q
theorem for_rng1 {N : Int} {ta tb tc : Tok} {n : Nat} {x : SS} {xp : Pos} {body : List Stmt} {R : Result → Shared → Prop} (hh : A.handled = none) (F : FS G B led env pv l h) (hm : h.get? a = some (rng 0 N 1 ta tb tc)) (hn : N = n) (hz : n < 2 ^ 31)
    (Inv : Nat → Rel → Led → Loc → Prop) (i0 : Inv 0 B led l)
    (step : ∀ (i : Nat) B₁ led₁ l₁ h₁ t₁ pv' u, i < n → Inc B B₁ → Inv i B₁ led₁ l₁ → FS G B₁ led₁ env pv' l₁ h₁ →
      Turn w A s G env x body (Inv (i+1)) B₁ pv' (.int i u) h₁ t₁)
    (fin : ∀ K : Result → Shared → Prop, (∀ r s', R r s' → K r s') → ∀ B₁ led₁ l₁ h₁ t₁, Inc B B₁ → Inv n B₁ led₁ l₁ → FS G B₁ led₁ env pv l₁ h₁ → K (.ok .next) (at_ s h₁ t₁)) :
    wpAny (model pw w) A (pyIter (.ref a)) (fun it s₂ => codeAny (model pw w) A (.forLoop (.Name x xp) it body [] env) R s₂) E (at_ s h t) := by
  refine iter_rng1 hh F hm hn hz fun I o h' T F' => r_for T F' Inv i0 (fun i B₁ led₁ l₁ h₁ t₁ pv' v a b c ⟨t, e⟩ d => ?_) fin
  subst e
  have e : (0 : Int) + (i : Int) * 1 = i := by (first | lia | omega)
  rw [e]
  exact step i B₁ led₁ l₁ h₁ t₁ pv' t a b c d
theorem for_lst {x : SS} {xp : Pos} {body : List Stmt} {R : Result → Shared → Prop} (hh : A.handled = none) (F : FS G B led env pv l h) (hl : LB B a vs)
    (Inv : Nat → Rel → Led → Loc → Prop) (i0 : Inv 0 B led l)
    (step : ∀ (i : Nat) B₁ led₁ l₁ h₁ t₁ pv' v, i < vs.length → Inc B B₁ → Inv i B₁ led₁ l₁ → vs[i]? = some v → FS G B₁ led₁ env pv' l₁ h₁ →
      Turn w A s G env x body (Inv (i+1)) B₁ pv' v h₁ t₁)
    (fin : ∀ K : Result → Shared → Prop, (∀ r s', R r s' → K r s') → ∀ B₁ led₁ l₁ h₁ t₁, Inc B B₁ → Inv vs.length B₁ led₁ l₁ → FS G B₁ led₁ env pv l₁ h₁ → K (.ok .next) (at_ s h₁ t₁)) :
    wpAny (model pw w) A (pyIter (.ref a)) (fun it s₂ => codeAny (model pw w) A (.forLoop (.Name x xp) it body [] env) R s₂) E (at_ s h t) :=
  r_iter_list hh F hl fun I o h' T F' => r_for T F' Inv i0 step fin
theorem for_tup {x : SS} {xp : Pos} {body : List Stmt} {R : Result → Shared → Prop} (hh : A.handled = none) (F : FS G B led env pv l h) (hl : TB B a vs)
    (Inv : Nat → Rel → Led → Loc → Prop) (i0 : Inv 0 B led l)
    (step : ∀ (i : Nat) B₁ led₁ l₁ h₁ t₁ pv' v, i < vs.length → Inc B B₁ → Inv i B₁ led₁ l₁ → vs[i]? = some v → FS G B₁ led₁ env pv' l₁ h₁ →
      Turn w A s G env x body (Inv (i+1)) B₁ pv' v h₁ t₁)
    (fin : ∀ K : Result → Shared → Prop, (∀ r s', R r s' → K r s') → ∀ B₁ led₁ l₁ h₁ t₁, Inc B B₁ → Inv vs.length B₁ led₁ l₁ → FS G B₁ led₁ env pv l₁ h₁ → K (.ok .next) (at_ s h₁ t₁)) :
    wpAny (model pw w) A (pyIter (.ref a)) (fun it s₂ => codeAny (model pw w) A (.forLoop (.Name x xp) it body [] env) R s₂) E (at_ s h t) :=
  r_iter_tuple hh F hl fun I o h' T F' => r_for T F' Inv i0 step fin
theorem r_cw {f : VV} {pos : Pos} {first : List VV} {e : Ev} {rest : List Ev} (g : Gr w G) (hk : keepIn (Kf pw w.params) f = true) (q : wpAny (model pw w) A (spliced (backTo pos (starEach (e :: rest) env))) (fun vs s₁ => (Kf pw w.params).In s₁.heap ∧ wpAny (model pw w) A (call f (first ++ vs)) Q E s₁) E s)
    (h1 : starEach (e :: rest) env = (false, eval e env) :: starEach rest env) (h2 : ((backTo pos (starEach rest env)).any (·.1)) = false) : wpAny (model pw w) A (callWith pos f first (backTo pos (starEach (e :: rest) env)) []) Q E s :=
  callWith_K (K := Kf pw w.params) g.k hk q h1 h2
theorem r_cw0 {f : VV} {pos : Pos} {first : List VV} (g : Gr w G) (F : FS G B led env pv l h) (hk : keepIn (Kf pw w.params) f = true) (q : wpAny (model pw w) A (call f (first ++ [])) Q E (at_ s h t)) :
    wpAny (model pw w) A (callWith pos f first (backTo pos (starEach [] env)) []) Q E (at_ s h t) := callWith_K0 (s := at_ s h t) (K := Kf pw w.params) (g.k.keeps F.sub) hk q
theorem r_inK {P : Prop} (g : Gr w G) (F : FS G B led env pv l h) (q : P) : (Kf pw w.params).In h ∧ P := ⟨g.k.keeps F.sub, q⟩
end
-- part LF1b
section
variable {w : World} {A : Around} {E : VV → Shared → Prop} {s : Shared} {t : Nat} {h : Heap} {a b : Int} {ta tb : Tok} {Q : VV → Shared → Prop} {P : Params}
theorem r_neg (q : ∀ u t', Q (.int (-a) u) (at_ s h t')) : wpAny (model pw w) A (unaryOp .USub (.int a ta)) Q E (at_ s h t) := PyProof.Rows.neg_int (q _ _)
theorem r_pow (h0 : 0 ≤ b) (h1 : b ≤ 1000000) (ha : a.natAbs < 2 ^ 64) (q : ∀ u t', Q (.int (a ^ b.toNat) u) (at_ s h t')) : wpAny (model pw w) A (binaryOp .Pow (.int a ta) (.int b tb)) Q E (at_ s h t) := pow_int_small h0 h1 ha (q _ _)
theorem ints_at : ∀ {vs : List VV} {ns : List Int} (_ : IntsAre vs ns) (k : Nat) (_ : k < ns.length), ∃ u, vs[k]? = some (.int (ns.getD k 0) u)
  | _, _, .nil, k, hk => by simp at hk
  | _, _, .cons n t r, 0, _ => ⟨t, rfl⟩
  | _, _, .cons n t r, k + 1, hk => by
    obtain ⟨u, e⟩ := ints_at r k (by simpa using hk)
    exact ⟨u, by simpa using e⟩
theorem ints_len : ∀ {vs : List VV} {ns : List Int} (_ : IntsAre vs ns), vs.length = ns.length
  | _, _, .nil => rfl
  | _, _, .cons _ _ r => by simp [ints_len r]
theorem ints_of : ∀ {vs : List VV} {ns : List Int}, vs.length = ns.length → (∀ k, k < ns.length → ∃ u, vs[k]? = some (.int (ns.getD k 0) u)) → IntsAre vs ns
  | [], [], _, _ => .nil
  | v :: vs, n :: ns, hl, h => by
    obtain ⟨u, e⟩ := h 0 (by simp)
    simp at e; subst e
    exact .cons _ _ (ints_of (by simpa using hl) fun k hk => by
      obtain ⟨u, e⟩ := h (k + 1) (by simpa using hk)
      exact ⟨u, by simpa using e⟩)
  | [], _ :: _, hl, _ => by simp at hl
  | _ :: _, [], hl, _ => by simp at hl
theorem ints_snoc {vs : List VV} {ns : List Int} {i : Int} {u : Tok} (x : IntsAre vs ns) : IntsAre (vs ++ [.int i u]) (ns ++ [i]) := by
  induction x with
  | nil => exact .cons _ _ .nil
  | cons n t _ ih => exact .cons n t ih
theorem k778 : (Kf pw P).lookup 778 = some (oK778 pw P) := by kernel_rfl
theorem k785 : (Kf pw P).lookup 785 = some (oK785 pw P) := by kernel_rfl
end
-- part LX0
/-- a pure int -/
noncomputable def IsI (i : Int) (v : VV) : Prop := ∃ u, v = .int i u
noncomputable abbrev Pure (B : Rel) (V : VV → Prop) : VV → Rel → Led → Prop := fun v B' u' => B' = B ∧ u' = [] ∧ V v
/-- a pen: a list of two ints -/
noncomputable def PenO (o : Obj) : Prop := ∃ p q tp tq, LO [.int p tp, .int q tq] o
/-- a draw -/
noncomputable abbrev DrawP (l : Addr) (m : Int) (B : Rel) : VV → Rel → Led → Prop := fun v B' u' => B' = B ∧ (∃ o, u' = [(l, o)] ∧ PenO o) ∧ ∃ d u, v = .int d u ∧ 0 ≤ d ∧ d < m
theorem ite_t {a b : Prop} (h : a) : if true = true then a else b := by rw [if_pos rfl]; exact h
theorem ite_f {a b : Prop} (h : b) : if false = true then a else b := by rw [if_neg (by decide)]; exact h
section
variable {P : Params}
noncomputable abbrev mths : List ((Addr × SS) × Addr) := [((734, "most_across"), 691), ((734, "most_down"), 696), ((734, "mcus_across"), 703), ((734, "mcus_down"), 710), ((734, "plane_size"), 717), ((734, "blocks"), 724), ((734, "padded"), 731), ((767, "get"), 757), ((767, "put"), 764), ((110, "at"), 100), ((307, "inverse"), 297), ((307, "sums"), 304), ((335, "inverse"), 332)]
theorem mth {C f : Addr} {n : SS} (h : ((C, n), f) ∈ mths) : findIn (Kf pw P) (.ref C) n = some (some (.ref f)) := by
  have e : mths.map (fun p => findIn (Kf pw P) (.ref p.1.1) p.1.2) = mths.map (fun p => some (some (.ref p.2))) := by kernel_rfl
  exact List.map_inj_left.mp e _ h
end
section
variable {w : World} {A : Around} {E : VV → Shared → Prop} {s : Shared} {t : Nat} {G : Heap} {B : Rel} {led rest : Led} {env : Env} {pv : Led} {l : Loc} {h : Heap} {Q : VV → Shared → Prop}
theorem r_callI {f : Addr} {args : List VV} {i : Int} (F : FS G B led env pv l h) (S : Spec w G A (cal f args) B [] (Pure B (IsI i))) (q : ∀ u h' t', FS G B led env pv l h' → Q (.int i u) (at_ s h' t')) : wpAny (model pw w) A (call (.ref f) args) Q E (at_ s h t) := by
  refine r_call (used := []) F S ?_
  rintro K hK v B' u' h' t' inc ⟨rfl, rfl, u, rfl⟩ F'
  exact hK _ _ (q u h' t' F')
theorem r_callT {a : Addr} {o : Obj} {f : Addr} {args : List VV} {Post : VV → Rel → Led → Prop} (F : FS G B led env pv l h) (T : Take a o led rest) (S : Spec w G A (cal f args) B [(a, o)] Post)
    (k : ∀ K : VV → Shared → Prop, (∀ v s', Q v s' → K v s') → ∀ v B' used' h' t', Inc B B' → Post v B' used' → FS G B' (used' ++ rest) env pv l h' → K v (at_ s h' t')) : wpAny (model pw w) A (call (.ref f) args) Q E (at_ s h t) :=
  r_call (used := [(a, o)]) (F.take T) S k
theorem r_draw {a : Addr} {o : Obj} {m : Int} {tm : Tok} (S : Spec w G A (cal 785 [.ref a, .int m tm]) B [(a, o)] (DrawP a m B)) (F : FS G B led env pv l h) (T : Take a o led rest)
    (q : ∀ d u o' h' t', 0 ≤ d → d < m → PenO o' → FS G B ((a, o') :: rest) env pv l h' → Q (.int d u) (at_ s h' t')) : wpAny (model pw w) A (call (.ref 785) ([] ++ [.ref a, .int m tm])) Q E (at_ s h t) := by
  refine r_callT F T S ?_
  rintro K hK v B' u' h' t' inc ⟨rfl, ⟨o', rfl, ho'⟩, d, u, rfl, d0, d1⟩ F'
  exact hK _ _ (q d u o' h' t' d0 d1 ho' F')
end
section
variable {w : World} {A : Around} {E : VV → Shared → Prop} {s : Shared} {t : Nat} {G : Heap} {B : Rel} {led led' : Led} {env : Env} {pv : Led} {l : Loc} {h : Heap}
theorem r_assignT2 {a b : SS} {pa pb pos : Pos} {k : Nat} {r : Addr} {x y : VV} {Q : Unit → Shared → Prop} (hh : A.handled = none) (F : FS G B led env pv l h) (hl : Has B led r (TO [x, y]))
    (q : ∀ h', FS G B led env pv l h' → wpAny (model pw w) A (storeName env a x) (fun _ s₁ => wpAny (model pw w) A (storeName env b y) Q E s₁) E (at_ s h' t)) :
    wpAny (model pw w) A (assign (.Tuple [.Name a pa, .Name b pb] k pos) env (.ref r)) Q E (at_ s h t) := by
  refine wpAny_assign_Tuple (s := at_ s h t) hh (F.isT hl) rfl rfl fun h' e => ?_
  have F' : FS G B led env pv l h' := F.keeps fun c o hc => e c o (Nat.ne_of_lt (Heap.lt_size hc)) hc
  show wpAny _ _ (assignInOrder [assign (.Name a pa) env, assign (.Name b pb) env] [x, y]) _ _ _
  refine assignInOrder_cons (wpAny_assign_Name (wpAny_mono (q h' F') (fun _ s₁ q₁ => assignInOrder_cons (wpAny_assign_Name (wpAny_mono q₁ (fun _ _ q₂ => assignInOrder_nil q₂) fun _ _ e => e))) fun _ _ e => e))
end
theorem nn4 {n : Nat} (hn : n = 1 ∨ n = 2) : n * n ≤ 4 := by rcases hn with rfl | rfl <;> decide
theorem mul12 {n i : Nat} (hn : n = 1 ∨ n = 2) (hi : i < 500) : 0 ≤ (i : Int) * n ∧ (i : Int) * n < 1000 := by rcases hn with rfl | rfl <;> (first | lia | omega)
theorem idx12 {n i j : Nat} (hn : n = 1 ∨ n = 2) (hi : i < n) (hj : j < n) : i * n + j < n * n := by rcases hn with rfl | rfl <;> (first | lia | omega)
theorem nnI {n : Nat} (hn : n = 1 ∨ n = 2) : (n : Int) * n < 1000 ∧ 0 ≤ (n : Int) * n ∧ ((n : Int) * n).toNat = n * n := by rcases hn with rfl | rfl <;> decide
theorem abs12 {n : Nat} (hn : n = 1 ∨ n = 2) : (n : Int).natAbs < 2 ^ 64 := by rcases hn with rfl | rfl <;> decide
theorem int12 {n : Nat} (hn : n = 1 ∨ n = 2) : (n : Int) = 1 ∨ (n : Int) = 2 := by rcases hn with rfl | rfl <;> simp
theorem FS.only {G : Heap} {B : Rel} {led : Led} {env : Env} {pv : Led} {l l' : Loc} {h : Heap} (F : FS G B led env pv l h) (hs : l'.Sublist l) : FS G B led env pv l' h := by
  obtain ⟨oL, cs, O, H⟩ := F
  obtain ⟨es, ep, m, h1, h2, h3, h4⟩ := O.ns
  exact ⟨oL, cs, ⟨⟨es, ep, m, h1, h2, h3, fun x o hx hk => h4 x o (hs.subset hx) hk⟩, fun x o hx => O.cell x o (hs.subset hx), fun x o hx => O.free x o (hs.subset hx), O.inj, O.nd.sublist (hs.map _), O.fn, O.gl, O.bl⟩, H⟩
/-- a store of a name that l does not tell of -/
theorem r_storeN {w : World} {A : Around} {E : VV → Shared → Prop} {s : Shared} {t : Nat} {G : Heap} {B : Rel} {led : Led} {env : Env} {pv : Led} {l : Loc} {h : Heap} {x : SS} {v : VV} {Q : Unit → Shared → Prop} (F : FS G B led env pv l h)
    (hx : (l.map (·.1)).contains x = false) (hk : env.kindOf x = some .local) (k : ∀ h' t', FS G B led env pv ((x, some v) :: l) h' → Q () (at_ s h' t')) : wpAny (model pw w) A (storeName env x v) Q E (at_ s h t) := by
  have hx' : x ∉ l.map (·.1) := fun hm => by rw [List.contains_iff_mem.mpr hm] at hx; cases hx
  obtain ⟨oL, cs, O, H⟩ := F
  obtain ⟨es, ep, m, h1, h2, h3, h4⟩ := O.ns
  refine wpAny_storeName_local (s := at_ s h t) hk ⟨oL, es, ep, H.mem _ (.head _), h1, h2, h3⟩ (fun h' hn hs => k h' _ ?_) (by rw [O.fn]; rfl)
  obtain ⟨oL', es', ep', g1, g2, g3, g4⟩ := hn
  refine ⟨oL', cs, ⟨⟨es', ep', _, g2, g3, g4, fun y u hu hy => ?_⟩, fun y u hu hy => ?_, fun y u hu hy => ?_, O.inj, by rw [List.map_cons, List.nodup_cons]; exact ⟨hx', O.nd⟩, O.fn, O.gl, O.bl⟩, HS.upd (pre := []) H hs g1⟩
  · rcases List.mem_cons.mp hu with e | hu
    · cases e; exact if_pos rfl
    · have : y ≠ x := fun e => hx' (e ▸ List.mem_map.mpr ⟨_, hu, rfl⟩)
      exact (if_neg this).trans (h4 y u hu hy)
  · rcases List.mem_cons.mp hu with e | hu
    · cases e; rw [hk] at hy; cases hy
    · exact O.cell y u hu hy
  · rcases List.mem_cons.mp hu with e | hu
    · cases e; rw [hk] at hy; cases hy
    · exact O.free y u hu hy
-- part LF1
local macro_rules | `(tactic| walk_at "mem") => `(tactic| first | with_reducible exact List.mem_cons_self | (refine List.mem_cons_of_mem _ ?_; walk_at "mem") | assumption)
local macro_rules | `(tactic| walk_at "memt") => `(tactic| first | with_reducible exact List.mem_cons_self | ((with_reducible refine List.mem_cons_of_mem _ ?_); walk_at "memt"))
local macro_rules | `(tactic| walk_at "put") => `(tactic| first | with_reducible exact Put.head | ((refine' Put.tail ?_); rotate_left; walk_at "put"))
local macro_rules | `(tactic| walk_at "o") => `(tactic| first | lia | omega)
local macro_rules | `(tactic| walk_at "arith") => `(tactic| first | with_reducible exact Int.natCast_nonneg _ | decide | walk_at "o" | with_reducible assumption)
local macro_rules | `(tactic| walk_at "lb") => `(tactic| first | assumption | exact LB.up2 (by assumption) (by walk_at "lb"))
local macro_rules | `(tactic| walk_at "tb") => `(tactic| first | assumption | exact TB.up2 (by assumption) (by walk_at "tb"))
local macro_rules | `(tactic| walk_at "ib") => `(tactic| first | assumption | exact IB.up2 (by assumption) (by walk_at "ib"))
local macro_rules | `(tactic| walk_at "hasL") => `(tactic| first | exact Has.m LO.of (by walk_at "mem") | exact Has.lb (by walk_at "lb") | exact Has.m (by assumption) (by walk_at "mem"))
local macro_rules | `(tactic| walk_at "hasT") => `(tactic| first | exact Has.m TO.of (by walk_at "mem") | exact Has.tb (by walk_at "tb") | exact Has.m (by assumption) (by walk_at "mem"))
local macro_rules | `(tactic| walk_at "mulok") => `(tactic| first | exact mulok_r (by first | omega | decide) | exact mulok_l (by first | omega | decide) | assumption)
local macro_rules | `(tactic| walk_at "take") => `(tactic| first | with_reducible exact Take.head | exact Take.tail (by walk_at "take"))
local macro_rules | `(tactic| walk_at "swap") => `(tactic| first | with_reducible exact Swap.head | exact Swap.tail (by walk_at "swap"))
local macro_rules | `(tactic| walk_at "len") => `(tactic| first | omega | (rw [sizeLine_eq]; omega) | (simp only [List.length_cons, List.length_nil, List.length_set]; omega) | (simp; done) | (simp; omega))
local macro_rules | `(tactic| walk_at "lc1") => `(tactic| first | exact Or.inl ⟨by rfl, rfl⟩ | exact Or.inr ⟨by rfl, by walk_at "mem", by kernel_rfl, by kernel_rfl⟩)
local macro_rules | `(tactic| walk_at "lc") => `(tactic| first | (refine List.forall_mem_cons.mpr ⟨?_, ?_⟩ <;> first | walk_at "lc1" | walk_at "lc") | exact fun _ h => (nomatch h))
local macro_rules | `(tactic| walk_at "rm") => `(tactic| first | exact Rm.less (by assumption) (by decide) | exact Rm.less (Rm.deeper (by assumption) _) (by decide))
local macro_rules | `(tactic| walk_at "rmh") => `(tactic| first | exact Rm.hd (by assumption) | exact Rm.hd (Rm.deeper (by assumption) _) | assumption)
local macro_rules | `(tactic| walk_at "subl") => `(tactic| first | with_reducible exact List.Sublist.refl _ | ((with_reducible first | refine List.Sublist.cons_cons _ ?_ | refine List.Sublist.cons _ ?_); walk_at "subl"))
local macro_rules | `(tactic| walk_at "s_eval") => `(tactic| (first
  | ((with_reducible refine' r_name ?_ ?_ ?_ ?_ ?_); rotate_left 6; assumption; walk_at "mem"; kernel_rfl; kernel_rfl)
  | ((with_reducible first | refine r_int ?_ | refine r_str ?_); intro _ _)
  | ((with_reducible refine' MethodCall_ ?_ ?_); rotate_left 2; with_unfolding_all rfl)
  | ((with_reducible first | refine wpAny_Compare1 ?_ ?_ | refine Attribute_any_ ?_ ?_ | refine Call_ ?_ ?_); rotate_left; with_unfolding_all rfl)
  | ((with_reducible refine' r_bltn ?_ ?_ ?_ ?_ ?_ ?_ ?_ ?_); rotate_left 7; assumption; assumption; rotate_left; exact blt (by walk_at "memt"); decide; kernel_rfl; kernel_rfl; rotate_left; kernel_rfl)
  | ((with_reducible refine' r_glob ?_ ?_ ?_ ?_ ?_ ?_); rotate_left 7; assumption; assumption; exact glb (by walk_at "memt"); kernel_rfl; kernel_rfl)
  | (with_reducible first | refine wpAny_BinOp ?_ | refine Subscript_ ?_ | refine wpAny_IfExp ?_ | refine List_ ?_ | refine Tuple_ ?_ | refine wpAny_UnaryOp ?_ | refine r_none ?_ | refine r_bool ?_)))
local macro_rules | `(tactic| walk_at "s_exec") => `(tactic| (first
  | (with_reducible first | refine wpAny_Return_some ?_ | refine wpAny_If ?_ | refine wpAny_AugAssign_Name ?_)
  | ((with_reducible first | refine wpAny_Assign_Name ?_ ?_ | refine wpAny_Assign_Subscript ?_ ?_ | refine plainObj_wpAny_Assign_Attribute ?_ ?_); rotate_left; with_unfolding_all rfl)
  | ((with_reducible first | refine wpAny_Expr ?_ ?_ ?_ | refine Assign_Tuple ?_ ?_ ?_); rotate_left; with_unfolding_all rfl; with_unfolding_all rfl)))
local macro_rules | `(tactic| walk_at "s_call") => `(tactic| (first
  | ((with_reducible refine' r_callI ?_ ?_ ?_); rotate_left 7; assumption; walk_at "specI"; intro _ _ _ _)
  | ((with_reducible refine' r_appendS ?_ ?_ ?_ ?_); rotate_left 9; assumption; rotate_left; walk_at "swap"; rotate_left; walk_at "len"; intro _ _)
  | ((with_reducible refine' r_draw ?_ ?_ ?_ ?_); rotate_left 9; assumption; walk_at "take"; rotate_left; walk_at "specD"; intro _ _ _ _ _ _ _ _ _)
  | ((with_reducible refine' r_len ?_ ?_ ?_ ?_); rotate_left 7; assumption; walk_at "hasL"; walk_at "arith"; intro _ _)
  | ((with_reducible refine' r_range1 ?_ ?_); rotate_left 6; assumption; intro _ _ _ _ _ _)
  | ((with_reducible first | refine' r_max2 ?_ ?_ ?_ | refine' r_min2 ?_ ?_ ?_); rotate_left 6; walk_at "rmh"; assumption; intro _ _ _ _)
  | ((with_reducible refine r_intbool ?_); intro _ _)
  | ((with_reducible refine' r_range2 ?_ ?_); rotate_left 6; assumption; intro _ _ _ _ _)))
local macro_rules | `(tactic| walk_at "s_bin") => `(tactic| (first
  | ((with_reducible first | refine r_add ?_ | refine r_sub ?_); intro _ _)
  | ((with_reducible refine r_mul ?_ ?_); walk_at "mulok"; intro _ _)
  | ((with_reducible refine r_div ?_ ?_ ?_); walk_at "arith"; exact PyProof.noPylong_small (by walk_at "arith"); intro _ _)
  | ((with_reducible first | refine r_mod ?_ ?_ | refine r_shr ?_ ?_); walk_at "arith"; intro _ _)
  | ((with_reducible first | refine r_shl ?_ ?_ ?_ ?_ | refine r_pow ?_ ?_ ?_ ?_); walk_at "arith"; walk_at "arith"; walk_at "arith"; intro _ _)))
local macro_rules | `(tactic| walk_at "s_cw") => `(tactic| (first
  | ((with_reducible first | refine PyProof.Rows.callWith_builtin1 ?_ ?_ ?_ | refine PyProof.Rows.callWith_type1 ?_ ?_ ?_ | refine callWith_method1 ?_ ?_ ?_); rotate_left; rfl; rfl)
  | ((with_reducible refine' r_cw ?_ ?_ ?_ ?_ ?_); rotate_left; assumption; kernel_rfl; rotate_left; rfl; rfl)
  | ((with_reducible refine' r_cw0 ?_ ?_ ?_ ?_); rotate_left 5; assumption; assumption; kernel_rfl)))
local macro_rules | `(tactic| walk_at "s_sub") => `(tactic| ((first
  | ((with_reducible refine' r_item ?_ ?_ ?_ ?_ ?_ ?_ ?_); rotate_left 8; assumption; walk_at "hasL")
  | ((with_reducible refine' r_itemT ?_ ?_ ?_ ?_ ?_ ?_ ?_); rotate_left 8; assumption; walk_at "hasT")); walk_at "arith"; walk_at "arith"; (first | with_reducible assumption | rfl); rotate_left; with_unfolding_all rfl))
local macro_rules | `(tactic| walk_at "s") => `(tactic| focus first
  | ((with_reducible show wpAny _ _ (eval _ _) _ _ _); walk_at "s_eval")
  | ((with_reducible refine args_cons ?_ ?_); rotate_left; rfl)
  | ((with_reducible show wpAny _ _ (binaryOp _ _ _) _ _ _); walk_at "s_bin")
  | (with_reducible first | refine r_lt ?_ | refine r_gt ?_ | refine r_le ?_ | refine r_ge ?_ | refine r_eq ?_ | refine r_ne ?_)
  | ((with_reducible first | refine ite_dec ?_ ?_ | refine ite_beq ?_ ?_ | refine ite_bne ?_ ?_) <;> intro _)
  | ((with_reducible refine wpAny_isTrue_Compare1 ?_ ?_); rotate_left; with_unfolding_all rfl)
  | (with_reducible first | refine args_nil ?_ | refine r_truth ?_ | refine ite_t ?_ | refine ite_f ?_ | refine PyProof.Rows.isTrue_or ?_ | refine PyProof.Rows.isTrue_or_nil ?_ | refine PyProof.Rows.isTrue_and ?_ | refine PyProof.Rows.isTrue_and_nil ?_)
  | ((with_reducible refine PyProof.Rows.isTrue_plain ?_ ?_); rotate_left; with_unfolding_all rfl)
  | ((with_reducible refine' r_storeB ?_ ?_ ?_ ?_); rotate_left 6; assumption; walk_at "put"; kernel_rfl; intro _ _ _)
  | ((with_reducible refine' r_storeN ?_ ?_ ?_ ?_); rotate_left 5; assumption; kernel_rfl; kernel_rfl; intro _ _ _)
  | (with_reducible first | refine wpAny_execs_cons ?_ | refine wpAny_execs_nil ?_ | refine wpAny_assign_Name ?_)
  | ((with_reducible show wpAny _ _ (exec _ _) _ _ _); walk_at "s_exec")
  | ((with_reducible show wpAny _ _ (subscriptTail _ _ _ _) _ _ _); walk_at "s_sub")
  | ((with_reducible show wpAny _ _ (callWith _ _ _ _ _) _ _ _); walk_at "s_cw")
  | ((with_reducible show wpAny _ _ (call _ _) _ _ _); walk_at "s_call")
  | ((with_reducible refine' r_load ?_ ?_ ?_ ?_ ?_); rotate_left 6; assumption; walk_at "mem"; kernel_rfl; rotate_left; kernel_rfl)
  | ((with_reducible first | refine r_iadd ?_ | refine r_neg ?_); intro _ _)
  | ((with_reducible first | refine' r_newlist ?_ ?_ ?_ | refine' r_newtuple ?_ ?_ ?_); rotate_left 6; assumption; simp [sizeLine]; intro _ _ _)
  | ((with_reducible refine' r_attr ?_ ?_ ?_ ?_ ?_ ?_ ?_ ?_ ?_); rotate_left 9; assumption; assumption; walk_at "ib"; rfl; kernel_rfl; kernel_rfl; kernel_rfl; rfl; intro _)
  | ((with_reducible refine' r_meth ?_ ?_ ?_ ?_ ?_ ?_ ?_ ?_); rotate_left 9; assumption; assumption; walk_at "ib"; rfl; kernel_rfl; exact mth (by walk_at "memt"); kernel_rfl)
  | ((with_reducible refine' r_assignT2 ?_ ?_ ?_ ?_); rotate_left 7; walk_at "rmh"; assumption; walk_at "hasT"; intro _ _)
  | ((with_reducible refine' r_getappend ?_ ?_ ?_); rotate_left 8; assumption; walk_at "mem")
  | ((with_reducible refine' r_setitemS ?_ ?_ ?_ ?_ ?_ ?_ ?_); rotate_left 9; assumption; assumption; (intro _; with_reducible exact Swap.head); walk_at "arith"; walk_at "arith"; walk_at "len"; intro _ _ _ _)
  | ((with_reducible refine' r_setattrS ?_ ?_ ?_ ?_ ?_ ?_ ?_ ?_ ?_ ?_ ?_ ?_); rotate_left 11; assumption; assumption; walk_at "mem"; rotate_left; intro _; walk_at "swap"; rotate_right; assumption; kernel_rfl; kernel_rfl; kernel_rfl; kernel_rfl; simp; rfl; intro _ _ _ _ _)
  | ((with_reducible refine' r_inK ?_ ?_ ?_); rotate_left 6; assumption; assumption))
noncomputable def clampI (n m : Int) : Int := if n < 0 then 0 else if m < n then m else n
noncomputable def keptI (p n : Int) : Int := if p < 0 then 0 else if p < n then p else n - 1
noncomputable def partsI (m s : Int) : Int := (m + s - 1).fdiv s
section
variable {w : World} {A : Around} {G : Heap} {B : Rel} {P : Params}
theorem pure_back {V : VV → Prop} {s : Shared} {B : Rel} {Fr : Led} {h' : Heap} {t' : Nat} {v : VV} {env : Env} {pv : Led} {l : Loc} (F : FS G B ([] ++ Fr) env pv l h') (p : V v) : Back G B s Fr (Pure B V) (.ok (.ret v)) (at_ s h' t') :=
  ⟨v, B, [], h', t', rfl, rfl, fun _ _ e => e, F.pub, rfl, rfl, p⟩
theorem int_back {s : Shared} {B : Rel} {Fr : Led} {h' : Heap} {t' : Nat} {i j : Int} {u : Tok} {env : Env} {pv : Led} {l : Loc} (F : FS G B ([] ++ Fr) env pv l h') (p : i = j) : Back G B s Fr (Pure B (IsI j)) (.ok (.ret (.int i u))) (at_ s h' t') :=
  pure_back F ⟨u, p ▸ rfl⟩
theorem k21 : (Kf pw P).lookup 21 = some (oK21 pw P) := by kernel_rfl
theorem k159 : (Kf pw P).lookup 159 = some (oK159 pw P) := by kernel_rfl
theorem k651 : (Kf pw P).lookup 651 = some (oK651 pw P) := by kernel_rfl
theorem k797 : (Kf pw P).lookup 797 = some (oK797 pw P) := by kernel_rfl
theorem k188 : (Kf pw P).lookup 188 = some (oK188 pw P) := by kernel_rfl
theorem clamped_spec (g : Gr w G) (R : Rm 1 A) {n m : Int} {tn tm : Tok} : Spec w G A (cal 21 [.int n tn, .int m tm]) B [] (Pure B (IsI (clampI n m))) := by
  intro s h t Fr H
  refine enter (l := [("number", some (.int n tn)), ("most", some (.int m tm))]) g H k21 (by kernel_rfl) R.room (by rfl) (by kernel_rfl) (by decide +kernel) (by kernel_rfl) (by decide +kernel) (by kernel_rfl) (by kernel_rfl) (by kernel_rfl) (by kernel_rfl) ?_
  intro L h₁ t₁ F; refine wpAny_execs_cons ?_
  repeat' walk_at "s"
  all_goals exact int_back (by assumption) (by unfold clampI; repeat' split; all_goals walk_at "o")
theorem kept_in_spec (g : Gr w G) (R : Rm 1 A) {n m : Int} {tn tm : Tok} : Spec w G A (cal 159 [.int n tn, .int m tm]) B [] (Pure B (IsI (keptI n m))) := by
  intro s h t Fr H
  refine enter (l := [("place", some (.int n tn)), ("size", some (.int m tm))]) g H k159 (by kernel_rfl) R.room (by rfl) (by kernel_rfl) (by decide +kernel) (by kernel_rfl) (by decide +kernel) (by kernel_rfl) (by kernel_rfl) (by kernel_rfl) (by kernel_rfl) ?_
  intro L h₁ t₁ F; refine wpAny_execs_cons ?_
  repeat' walk_at "s"
  all_goals exact int_back (by assumption) (by unfold keptI; repeat' split; all_goals walk_at "o")
theorem parts_spec (g : Gr w G) (R : Rm 1 A) {n m : Int} {tn tm : Tok} (hm : 0 < m) (hm' : m < 1000) : Spec w G A (cal 651 [.int n tn, .int m tm]) B [] (Pure B (IsI (partsI n m))) := by
  intro s h t Fr H
  refine enter (l := [("many", some (.int n tn)), ("size", some (.int m tm))]) g H k651 (by kernel_rfl) R.room (by rfl) (by kernel_rfl) (by decide +kernel) (by kernel_rfl) (by decide +kernel) (by kernel_rfl) (by kernel_rfl) (by kernel_rfl) (by kernel_rfl) ?_
  intro L h₁ t₁ F; refine wpAny_execs_cons ?_
  repeat' walk_at "s"
  all_goals exact int_back (by assumption) rfl
theorem up_spec (g : Gr w G) (R : Rm 1 A) {n m : Int} {tn tm : Tok} (hm : 0 < m) (hm' : m < 1000) : Spec w G A (cal 797 [.int n tn, .int m tm]) B [] (Pure B (IsI (partsI n m))) := by
  intro s h t Fr H
  refine enter (l := [("one", some (.int n tn)), ("other", some (.int m tm))]) g H k797 (by kernel_rfl) R.room (by rfl) (by kernel_rfl) (by decide +kernel) (by kernel_rfl) (by decide +kernel) (by kernel_rfl) (by kernel_rfl) (by kernel_rfl) (by kernel_rfl) ?_
  intro L h₁ t₁ F; refine wpAny_execs_cons ?_
  repeat' walk_at "s"
  all_goals exact int_back (by assumption) rfl
theorem descaled_spec (g : Gr w G) (R : Rm 1 A) {n : Int} {tn tm : Tok} : Spec w G A (cal 188 [.int n tn, .int 1 tm]) B [] (Pure B (IsI ((n + 1).fdiv 2))) := by
  intro s h t Fr H
  refine enter (l := [("number", some (.int n tn)), ("bits", some (.int 1 tm))]) g H k188 (by kernel_rfl) R.room (by rfl) (by kernel_rfl) (by decide +kernel) (by kernel_rfl) (by decide +kernel) (by kernel_rfl) (by kernel_rfl) (by kernel_rfl) (by kernel_rfl) ?_
  intro L h₁ t₁ F; refine wpAny_execs_cons ?_
  repeat' walk_at "s"
  all_goals exact int_back (by assumption) (by simp)
end
local macro_rules | `(tactic| walk_at "specI") => `(tactic| first
  | exact parts_spec (by assumption) (by walk_at "rm") (by walk_at "arith") (by walk_at "arith")
  | exact up_spec (by assumption) (by walk_at "rm") (by walk_at "arith") (by walk_at "arith")
  | exact clamped_spec (by assumption) (by walk_at "rm")
  | exact kept_in_spec (by assumption) (by walk_at "rm")
  | exact descaled_spec (by assumption) (by walk_at "rm"))
-- part LF2
section
variable {w : World} {A : Around} {G : Heap} {B : Rel}
theorem pen_spec (g : Gr w G) (R : Rm 1 A) {l : Addr} {vs : List VV} {ns : List Int} (hl : LB B l vs) (hi : IntsAre vs ns) (hn : ns.length ≤ 63) {i : Int} {ti : Tok} (h0 : 0 ≤ i) (h2 : i < 2) :
    Spec w G A (cal 778 [.ref l, .int i ti]) B [] (fun v B' u' => B' = B ∧ ∃ a o, v = .ref a ∧ u' = [(a, o)] ∧ PenO o) := by
  intro s h t Fr H
  refine enter (l := [("script", some (.ref l)), ("turn", some (.int i ti)), ("own", none), ("weight", none)]) g H k778 (by kernel_rfl) R.room (by rfl) (by kernel_rfl) (by decide +kernel) (by kernel_rfl) (by decide +kernel) (by kernel_rfl) (by kernel_rfl) (by kernel_rfl) (by kernel_rfl) ?_
  intro L h₁ t₁ F
  have hlen := ints_len hi
  have fin : ∀ {a vs n env pv l h' t'} {s : Shared}, FS G B ((a, lst vs n) :: ([] ++ Fr)) env pv l h' → (∃ p q tp tq, vs = [.int p tp, .int q tq]) → Back G B s Fr (fun v B' u' => B' = B ∧ ∃ a o, v = .ref a ∧ u' = [(a, o)] ∧ PenO o) (.ok (.ret (.ref a))) (at_ s h' t') := by
    intro a vs n env pv l h' t' s F ⟨p, q, tp, tq, e⟩
    subst e
    exact ⟨_, B, [(a, _)], h', t', rfl, rfl, fun _ _ e => e, F.pub, rfl, a, _, rfl, rfl, p, q, tp, tq, LO.of⟩
  refine wpAny_execs_cons ?_
  by_cases hlt : i < vs.length
  · obtain ⟨u, e⟩ := ints_at hi i.toNat (by walk_at "o")
    repeat' walk_at "s"
    all_goals first | exact absurd hlt (by assumption) | exact fin (by assumption) ⟨_, _, _, _, rfl⟩
  · repeat' walk_at "s"
    all_goals first | exact absurd (by assumption) hlt | exact fin (by assumption) ⟨_, _, _, _, rfl⟩
theorem draw_spec (g : Gr w G) (R : Rm 1 A) {l : Addr} {o : Obj} (ho : PenO o) {m : Int} {tm : Tok} (h0 : 0 < m) (h2 : m ≤ 40) :
    Spec w G A (cal 785 [.ref l, .int m tm]) B [(l, o)] (DrawP l m B) := by
  intro s h t Fr H
  refine enter (l := [("pen", some (.ref l)), ("limit", some (.int m tm)), ("figure_here", none)]) g H k785 (by kernel_rfl) R.room (by rfl) (by kernel_rfl) (by decide +kernel) (by kernel_rfl) (by decide +kernel) (by kernel_rfl) (by kernel_rfl) (by kernel_rfl) (by kernel_rfl) ?_
  intro L h₁ t₁ F; refine wpAny_execs_cons ?_
  obtain ⟨p, q, tp, tq, lo⟩ := ho
  have fm : ∀ x : Int, 0 ≤ x.fmod m ∧ x.fmod m < m := fun x => ⟨Int.fmod_nonneg_of_pos _ h0, Int.fmod_lt_of_pos _ h0⟩
  rw [List.singleton_append] at F
  repeat' walk_at "s"
  all_goals exact ⟨_, B, [(l, _)], _, _, rfl, rfl, fun _ _ e => e, FS.pub (by assumption), rfl, ⟨_, rfl, _, _, _, _, by assumption⟩, _, _, rfl, (fm _).1, (fm _).2⟩
end
local macro_rules | `(tactic| walk_at "specD") => `(tactic| exact draw_spec (by assumption) (by walk_at "rm") (by assumption) (by walk_at "arith") (by walk_at "arith"))
-- part LF3
section
variable {w : World} {A : Around} {G : Heap} {B : Rel} {P : Params}
theorem k665 : (Kf pw P).lookup 665 = some (oK665 pw P) := by kernel_rfl
theorem k686 : (Kf pw P).lookup 686 = some (oK686 pw P) := by kernel_rfl
theorem k128 : (Kf pw P).lookup 128 = some (oK128 pw P) := by kernel_rfl
theorem k93 : (Kf pw P).lookup 93 = some (oK93 pw P) := by kernel_rfl
noncomputable abbrev InstP (C : Addr) (fs : Loc) : VV → Rel → Led → Prop := fun v B' u' => u' = [] ∧ ∃ x, v = .ref x ∧ IB B' x C fs
theorem init_end {s : Shared} {Fr : Led} {env : Env} {pv : Led} {l : Loc} {h' : Heap} {t' : Nat} {x dx C : Addr} {od : Obj} {fs : Loc} (F : FS G B ((x, instObj C dx) :: (dx, od) :: Fr) env pv l h') (D : DictF fs od) :
    Back G B s Fr (fun v B' u' => v = .none ∧ InstP C fs (.ref x) B' u') (.ok (.ret .none)) (at_ s h' t') :=
  ⟨.none, Badd (Badd B x (instObj C dx)) dx od, [], h', t', rfl, rfl, fun a o e => .inl (.inl e), (F.freeze.freeze).pub, rfl, rfl, x, rfl, dx, od, .inl (.inr ⟨rfl, rfl⟩), .inr ⟨rfl, rfl⟩, D⟩
theorem comp_make (g : Gr w G) (R : Rm 5 A) {v1 v2 v3 v4 : VV} : Spec w G A (cal 668 [v1, v2, v3, v4]) B [] (InstP 668 [("quant", some v4), ("down", some v3), ("across", some v2), ("ident", some v1)]) := by
  refine make_spec (fI := 665) g (by kernel_rfl) (by kernel_rfl) (by kernel_rfl) fun x dx od D => ?_
  intro s h t Fr H
  have R := R.under (args := ⟨.ref 668 :: [v1, v2, v3, v4], []⟩)
  refine enter (l := [("self", some (.ref x)), ("ident", some v1), ("across", some v2), ("down", some v3), ("quant", some v4)]) g H k665 (by kernel_rfl) R.room (by rfl) (by kernel_rfl) (by decide +kernel) (by kernel_rfl) (by decide +kernel) (by kernel_rfl) (by kernel_rfl) (by kernel_rfl) (by kernel_rfl) ?_
  intro L h₁ t₁ F; simp only [List.cons_append, List.nil_append] at F; refine wpAny_execs_cons ?_
  repeat' walk_at "s"
  exact init_end (by assumption) (by assumption)
theorem frame_make (g : Gr w G) (R : Rm 5 A) {v1 v2 v3 v4 v5 v6 : VV} : Spec w G A (cal 734 [v1, v2, v3, v4, v5, v6]) B [] (InstP 734 [("n", some v6), ("components", some v5), ("width", some v4), ("height", some v3), ("precision", some v2), ("kind", some v1)]) := by
  refine make_spec (fI := 686) g (by kernel_rfl) (by kernel_rfl) (by kernel_rfl) fun x dx od D => ?_
  intro s h t Fr H
  have R := R.under (args := ⟨.ref 734 :: [v1, v2, v3, v4, v5, v6], []⟩)
  refine enter (l := [("self", some (.ref x)), ("kind", some v1), ("precision", some v2), ("height", some v3), ("width", some v4), ("components", some v5), ("n", some v6)]) g H k686 (by kernel_rfl) R.room (by rfl) (by kernel_rfl) (by decide +kernel) (by kernel_rfl) (by decide +kernel) (by kernel_rfl) (by kernel_rfl) (by kernel_rfl) (by kernel_rfl) ?_
  intro L h₁ t₁ F; simp only [List.cons_append, List.nil_append] at F; refine wpAny_execs_cons ?_
  repeat' walk_at "s"
  exact init_end (by assumption) (by assumption)
theorem picture_make (g : Gr w G) (R : Rm 5 A) {v1 v2 v3 : VV} : Spec w G A (cal 148 [v1, v2, v3]) B [] (InstP 148 [("planes", some v3), ("precision", some v2), ("model", some v1)]) := by
  refine make_spec (fI := 128) g (by kernel_rfl) (by kernel_rfl) (by kernel_rfl) fun x dx od D => ?_
  intro s h t Fr H
  have R := R.under (args := ⟨.ref 148 :: [v1, v2, v3], []⟩)
  refine enter (l := [("self", some (.ref x)), ("model", some v1), ("precision", some v2), ("planes", some v3)]) g H k128 (by kernel_rfl) R.room (by rfl) (by kernel_rfl) (by decide +kernel) (by kernel_rfl) (by decide +kernel) (by kernel_rfl) (by kernel_rfl) (by kernel_rfl) (by kernel_rfl) ?_
  intro L h₁ t₁ F; simp only [List.cons_append, List.nil_append] at F; refine wpAny_execs_cons ?_
  repeat' walk_at "s"
  exact init_end (by assumption) (by assumption)
theorem plane_make (g : Gr w G) (R : Rm 5 A) {v1 v2 v3 : VV} : Spec w G A (cal 110 [v1, v2, v3]) B [] (InstP 110 [("rows", some v3), ("height", some v2), ("width", some v1)]) := by
  refine make_spec (fI := 93) g (by kernel_rfl) (by kernel_rfl) (by kernel_rfl) fun x dx od D => ?_
  intro s h t Fr H
  have R := R.under (args := ⟨.ref 110 :: [v1, v2, v3], []⟩)
  refine enter (l := [("self", some (.ref x)), ("width", some v1), ("height", some v2), ("rows", some v3)]) g H k93 (by kernel_rfl) R.room (by rfl) (by kernel_rfl) (by decide +kernel) (by kernel_rfl) (by decide +kernel) (by kernel_rfl) (by kernel_rfl) (by kernel_rfl) (by kernel_rfl) ?_
  intro L h₁ t₁ F; simp only [List.cons_append, List.nil_append] at F; refine wpAny_execs_cons ?_
  repeat' walk_at "s"
  exact init_end (by assumption) (by assumption)
end
-- part LF3b
section
variable {w : World} {A : Around} {E : VV → Shared → Prop} {s : Shared} {t : Nat} {G : Heap} {B : Rel} {led rest : Led} {env : Env} {pv : Led} {l : Loc} {h : Heap} {Q : VV → Shared → Prop} {P : Params}
theorem k790 : (Kf pw P).lookup 790 = some (oK790 pw P) := by kernel_rfl
end
noncomputable abbrev Sizes := List (Int × Int)
noncomputable def OkSizes (z : Sizes) : Prop := ∀ p ∈ z, (p.1 = 1 ∨ p.1 = 2) ∧ (p.2 = 1 ∨ p.2 = 2)
noncomputable def PairT (B : Rel) (p : Int × Int) (v : VV) : Prop := Ex3 fun a t u => An2 (v = .ref a) (TB B a [.int p.1 t, .int p.2 u])
theorem PairT.up {B B' : Rel} {p : Int × Int} {v : VV} (x : PairT B p v) (i : Inc B B') : PairT B' p v := let ⟨a, t, u, e, b⟩ := x; ⟨a, t, u, e, b.up i⟩
/-- all of these, one for one -/
noncomputable def Each {α : Type} (R : α → VV → Prop) (xs : List α) (vs : List VV) : Prop := vs.length = xs.length ∧ ∀ (k : Nat) (x : α), xs[k]? = some x → ∃ v, vs[k]? = some v ∧ R x v
theorem Each.imp {α : Type} {R R' : α → VV → Prop} {xs : List α} {vs : List VV} (e : Each R xs vs) (i : ∀ x v, R x v → R' x v) : Each R' xs vs := ⟨e.1, fun k x hx => let ⟨v, a, b⟩ := e.2 k x hx; ⟨v, a, i _ _ b⟩⟩
theorem Each.nil {α : Type} {R : α → VV → Prop} : Each R [] [] := ⟨rfl, fun k x hx => by simp at hx⟩
theorem Each.snoc {α : Type} {R : α → VV → Prop} {xs : List α} {vs : List VV} {x : α} {v : VV} (e : Each R xs vs) (r : R x v) : Each R (xs ++ [x]) (vs ++ [v]) := by
  refine ⟨by simp [e.1], fun k y hy => ?_⟩
  rcases Nat.lt_or_ge k xs.length with c | c
  · rw [List.getElem?_append_left c] at hy
    obtain ⟨u, a, b⟩ := e.2 k y hy
    exact ⟨u, by rw [List.getElem?_append_left (by rw [e.1]; exact c)]; exact a, b⟩
  · rw [List.getElem?_append_right c] at hy
    have hk : k = xs.length := by
      rcases Nat.lt_or_ge xs.length k with c' | c'
      · rw [List.getElem?_eq_none (by simp; (first | lia | omega))] at hy; cases hy
      · (first | lia | omega)
    subst hk
    simp at hy; subst hy
    exact ⟨v, by rw [List.getElem?_append_right (by rw [e.1]; exact Nat.le_refl _)]; simp [e.1], r⟩
noncomputable def CompV (B : Rel) (p : Int × Int) (v : VV) : Prop := Ex5 fun x v1 v4 t u => An2 (v = .ref x) (IB B x 668 [("quant", some v4), ("down", some (.int p.2 u)), ("across", some (.int p.1 t)), ("ident", some v1)])
theorem CompV.up {B B' : Rel} {p : Int × Int} {v : VV} (x : CompV B p v) (i : Inc B B') : CompV B' p v := let ⟨a, b, c, t, u, e, f⟩ := x; ⟨a, b, c, t, u, e, f.up i⟩
/-- a frame: height, width, side, samplings -/
noncomputable def FrameV (B : Rel) (H W n : Int) (z : Sizes) (x : Addr) : Prop := Ex7 fun c cv vk t1 t2 t3 t4 => An3 (IB B x 734 [("n", some (.int n t1)), ("components", some (.ref c)), ("width", some (.int W t2)), ("height", some (.int H t3)), ("precision", some (.int 8 t4)), ("kind", some vk)]) (LB B c cv) (Each (CompV B) z cv)
theorem FrameV.up {B B' : Rel} {H W n : Int} {z : Sizes} {x : Addr} (y : FrameV B H W n z x) (i : Inc B B') : FrameV B' H W n z x :=
  let ⟨c, cv, vk, t1, t2, t3, t4, a, b, d⟩ := y; ⟨c, cv, vk, t1, t2, t3, t4, a.up i, b.up i, d.imp fun _ _ e => e.up i⟩
noncomputable def SizesV (B : Rel) (z : Sizes) (a : Addr) : Prop := Ex1 fun vs => An2 (LB B a vs) (Each (PairT B) z vs)
theorem okSnoc {z : Sizes} {p : Int × Int} (a : OkSizes z) (b : (p.1 = 1 ∨ p.1 = 2) ∧ (p.2 = 1 ∨ p.2 = 2)) : OkSizes (z ++ [p]) := by
  intro q hq
  rcases List.mem_append.mp hq with hq | hq
  · exact a q hq
  · simp at hq; subst hq; exact b
theorem Each.take_succ {α : Type} {R : α → VV → Prop} {xs : List α} {vs : List VV} {i : Nat} {x : α} {v : VV} (e : Each R (xs.take i) vs) (hx : xs[i]? = some x) (r : R x v) : Each R (xs.take (i + 1)) (vs ++ [v]) := by
  have : xs.take (i + 1) = xs.take i ++ [x] := by rw [List.take_add_one, hx]; rfl
  rw [this]; exact e.snoc r
-- part LF4
section
variable {w : World} {A : Around} {G : Heap} {B : Rel}
theorem law_frame_spec (g : Gr w G) (R : Rm 8 A) {l : Addr} {o : Obj} (ho : PenO o) {n : Int} {tn : Tok} :
    Spec w G A (cal 790 [.ref l, .int n tn]) B [(l, o)] (fun v B' u' => (∃ o', u' = [(l, o')] ∧ PenO o') ∧ Ex6 fun a x y z H W => An8 (v = .ref a) (TB B' a [.ref x, .ref y]) (FrameV B' H W n z x) (SizesV B' z y) (OkSizes z) ((z.length = 1 ∨ z.length = 3 ∨ z.length = 4)) ((1 ≤ H ∧ H ≤ 4)) ((1 ≤ W ∧ W ≤ 5))) := by
  intro s h t Fr H
  refine enter (l := [("pen", some (.ref l)), ("side", some (.int n tn)), ("sizes", none), ("number", none), ("held", none)]) g H k790 (by kernel_rfl) R.room (by rfl) (by kernel_rfl) (by decide +kernel) (by kernel_rfl) (by decide +kernel) (by kernel_rfl) (by kernel_rfl) (by kernel_rfl) (by kernel_rfl) ?_
  intro L h₁ t₁ F; simp only [List.cons_append, List.nil_append] at F; refine wpAny_execs_cons ?_
  have R' := R.deeper (envOfC (Str.ofString "_law_frame") (fS (fnAt pw 76)) L 790 (Value.ref 789))
  have R1 := R'.less (m := 1) (by walk_at "o")
  repeat' walk_at "s"
  rename_i sz h2 F2 h3 t3 F3
  refine wpAny_For ?_ (by intro _; rfl)
  repeat' walk_at "s"
  refine r_itemAny (by assumption) (Has.m LO.of (by walk_at "mem")) (by assumption) (by simp; walk_at "o") (by simp) ?_
  intro x hx
  obtain ⟨N, u, rfl, hN⟩ : ∃ (N : Int) (u : Tok), x = .int N u ∧ (N = 1 ∨ N = 3 ∨ N = 4) := by
    simp at hx; rcases hx with rfl | rfl | rfl | rfl <;> exact ⟨_, _, rfl, by walk_at "o"⟩
  repeat' walk_at "s"
  rename_i o1 h4 t4 d0 d1 ho1 F4 ra h5 t5 ta tc F5
  have F6 := FS.sublist (led' := [(l, o1), (sz, lst [])] ++ Fr) F5 (by simp only [List.cons_append, List.nil_append]; walk_at "subl")
  refine for_rng1 (n := N.toNat) R'.hd F6 (F5.mem (by walk_at "mem")) (by walk_at "o") (by walk_at "o") (fun i B₁ led₁ l₁ => Ex4 fun z vs o' ov => An6 (z.length = i) (OkSizes z) (Each (PairT B₁) z vs) (PenO o') (led₁ = (l, o') :: (sz, lst vs i) :: Fr) (l₁ = ([("pen", some (.ref l)), ("side", some (.int n tn)), ("sizes", some (.ref sz)), ("number", ov), ("held", none)] : Loc))) ?_ ?_ ?_
  · exact ⟨[], [], o1, none, rfl, fun _ h => by simp at h, Each.nil, ho1, rfl, rfl⟩
  · rintro i B₁ led₁ l₁ h₁ t₁ pv' u hi inc ⟨z, vs, o', ov, hz, okz, ez, hpo, rfl, rfl⟩ F7
    delta Turn
    have hvs := ez.1
    repeat' walk_at "s"
    rename_i F8
    refine ⟨_, _, _, _, _, rfl, Badd.inc, ⟨z ++ [(_, _)], vs ++ [_], _, _, by simp [hz], ?_, (ez.imp fun _ _ e => e.up Badd.inc).snoc ⟨_, _, _, rfl, _, Badd.new, TO.of⟩, by assumption, rfl, rfl⟩, F8.frz .head⟩
    exact okSnoc okz ⟨by dsimp only; walk_at "o", by dsimp only; walk_at "o"⟩
  · rintro Kq hKq B₁ led₁ l₁ h₁ t₁ inc ⟨z, vs, o', ov, hz, okz, ez, hpo, rfl, rfl⟩ F7
    first | refine hKq _ _ ?_ | refine hKq () _ ?_
    clear hKq Kq
    have F8 := F7.frz (.tail .head)
    have hvs := ez.1
    refine' wpAny_execs_cons (r_AssignComp (cl := _) ?sw ?cl (by rfl) (by decide +kernel) ?_ (by intro _; rfl))
    case sw => with_unfolding_all rfl
    case cl => with_unfolding_all rfl
    have lb : LB (Badd B₁ sz (lst vs N.toNat)) sz vs := ⟨_, Badd.new, LO.of⟩
    have ez' := ez.imp fun _ _ e => e.up (Badd.inc (a := sz) (o := lst vs N.toNat))
    repeat' walk_at "s"
    rename_i ra2 h6 t6 ta2 tc2 F9
    refine iter_rng1 R'.hd F9.drop (F9.mem (.head _)) (n := vs.length) rfl (by walk_at "o") fun I oI h7 T F10 => ?_
    refine r_compA T F10 ?hk ?hc ?hn ?hgo [("at", none), ("sizes", some (.ref sz))] ?hlc ?hnd
      (fun i B₂ led₂ l₂ cv => Ex1 fun ov => An3 (led₂ = (l, o') :: Fr) (l₂ = ([("at", ov), ("sizes", some (.ref sz))] : Loc)) (Each (CompV B₂) (z.take i) cv)) ⟨none, rfl, rfl, Each.nil⟩ ?ky
      (fun v => [("pen", some (.ref l)), ("side", some (.int n tn)), ("sizes", some (.ref sz)), ("number", ov), ("held", some v)]) ?put ?step ?fin
    case hk => rfl
    case hc => decide +kernel
    case hn => rw [sizeLine_eq]; walk_at "o"
    case hgo => exact .inl ⟨_, _, rfl⟩
    case hlc => walk_at "lc"
    case hnd => simp; decide
    case ky => kernel_rfl
    case put => intro v; walk_at "put"
    case step =>
      rintro C i B₂ led₂ l₂ cv h₂ t₂ pv' v hi inc2 ⟨ov2, rfl, rfl, ec⟩ hlen ⟨ti, rfl⟩ F11
      delta TurnC
      obtain ⟨p, hp⟩ : ∃ p, z[i]? = some p := ⟨_, List.getElem?_eq_getElem (by walk_at "o")⟩
      obtain ⟨v, hv, a, tp, up, rfl, tb⟩ := ez'.2 i p hp
      have e0 : (0 : Int) + (i : Int) * 1 = i := by walk_at "o"
      rw [e0]
      have hv' : vs[((i : Nat) : Int).toNat]? = some (.ref a) := by simpa using hv
      repeat' walk_at "s"
      refine r_call (used := []) (by assumption) (comp_make g (R'.less (by walk_at "o"))) ?_
      rintro Kq hKq v B₃ u₃ h₃ t₃ inc3 ⟨rfl, x, rfl, ib⟩ F12
      first | refine hKq _ _ ?_ | refine hKq () _ ?_
      clear hKq Kq
      exact ⟨_, _, _, _, _, rfl, inc3, ⟨_, rfl, rfl, (ec.imp fun _ _ e => e.up inc3).take_succ hp ⟨_, _, _, _, _, rfl, ib⟩⟩, F12⟩
    case fin =>
      rintro Kq hKq D B₂ led₂ l₂ cv h₂ t₂ inc2 ⟨ov2, rfl, rfl, ec⟩ hlen F11
      first | refine hKq _ _ ?_ | refine hKq () _ ?_
      clear hKq Kq
      have F12 := F11.frz .head
      refine wpAny_execs_cons ?_
      repeat' walk_at "s"
      refine r_call (used := []) (by assumption) (frame_make g (R'.less (by walk_at "o"))) ?_
      rintro Kq hKq v B₃ u₃ h₃ t₃ inc3 ⟨rfl, x, rfl, ib⟩ F13
      first | refine hKq _ _ ?_ | refine hKq () _ ?_
      clear hKq Kq
      repeat' walk_at "s"
      rename_i F14
      have ez2 := ez'.imp fun _ _ e => ((e.up inc2).up Badd.inc).up inc3
      have lb2 := ((lb.up inc2).up Badd.inc).up inc3
      have ec2 := ec.imp fun _ _ e => (e.up Badd.inc).up inc3
      have lc2 := LB.up (B := Badd B₂ D (lst cv vs.length)) (a := D) (vs := cv) ⟨_, Badd.new, LO.of⟩ inc3
      have etk : z.take vs.length = z := by rw [hvs]; exact List.take_length
      rw [etk] at ec2
      refine ⟨_, _, [(l, _)], _, _, rfl, rfl, ?_, (F14.frz .head).pub, ⟨_, rfl, by assumption⟩, _, x, sz, z, _, _, rfl, ⟨_, Badd.new, TO.of⟩, FrameV.up ⟨D, cv, _, _, _, _, _, ib, lc2, ec2⟩ Badd.inc, ⟨vs, lb2.up Badd.inc, ez2.imp fun _ _ e => e.up Badd.inc⟩, okz, by walk_at "o", by walk_at "o", by walk_at "o"⟩
      exact fun a o e => .inl (inc3 _ _ (.inl (inc2 _ _ (.inl (inc _ _ e)))))
end
-- part LX7
theorem ints_arr : ∀ {vs : List VV} {ns : List Int}, IntsAre vs ns → ∃ xs : List (Int × Tok), vs = xs.map (fun p => Value.int p.1 p.2) ∧ xs.map (·.1) = ns
  | _, _, .nil => ⟨[], rfl, rfl⟩
  | _, _, .cons n t r => by
    obtain ⟨xs, a, b⟩ := ints_arr r
    exact ⟨(n, t) :: xs, by rw [a]; rfl, by rw [List.map_cons, b]⟩
section
variable {w : World} {A : Around} {E : VV → Shared → Prop} {s : Shared} {t : Nat} {G : Heap} {B : Rel} {led led' : Led} {env : Env} {pv : Led} {l : Loc} {h : Heap} {a : Addr} {vs : List VV} {Q : VV → Shared → Prop}
theorem r_maxl {ns : List Int} (hh : A.handled = none) (F : FS G B led env pv l h) (hl : Has B led a (LO vs)) (hi : IntsAre vs ns) (hne : 0 < ns.length) (q : ∀ M u h' t', M ∈ ns → (∀ x ∈ ns, x ≤ M) → FS G B led env pv l h' → Q (.int M u) (at_ s h' t')) :
    wpAny (model pw w) A (call (.builtin "max") [.ref a]) Q E (at_ s h t) := by
  obtain ⟨xs, e1, e2⟩ := ints_arr hi
  have hL := F.isL hl
  have e3 : vs.toArray = intItems xs.toArray := by rw [e1]; simp [intItems]
  rw [e3] at hL
  have hx : 0 < xs.length := by rw [← e2] at hne; simpa using hne
  refine max_intList (s := at_ s h t) hh hL (by simpa using hx) ?_
  intro v h' tk hv k
  obtain ⟨u, rfl⟩ := intItems_at hv
  obtain ⟨hb, hmax⟩ := argBest_gt (numAt xs.toArray) (xs.toArray.size - 1)
  have num : ∀ j (hj : j < xs.length), numAt xs.toArray j = xs[j].1 := fun j hj => by simp [numAt, hj]
  have hb' : argBest (fun i j => decide (numAt xs.toArray i > numAt xs.toArray j)) (xs.toArray.size - 1) < xs.length := by
    simp only [List.size_toArray] at hb ⊢; (first | lia | omega)
  refine q _ u h' tk ?_ ?_ (F.keeps k)
  · rw [num _ hb', ← e2]
    exact List.mem_map.mpr ⟨_, List.getElem_mem hb', rfl⟩
  · intro x hx
    rw [← e2] at hx
    obtain ⟨p, hp, rfl⟩ := List.mem_map.mp hx
    obtain ⟨j, hj, rfl⟩ := List.getElem_of_mem hp
    have := hmax j (by simp only [List.size_toArray]; (first | lia | omega))
    rw [num j hj] at this
    exact this
end
theorem max_uni : ∀ (ns : List Int) (a M : Int), (M ∈ ns ∨ M = a) → a ≤ M → (∀ x ∈ ns, x ≤ M) → ns.foldl max a = M
  | [], a, M, h, _, _ => by
    rcases h with h | h
    · cases h
    · exact h.symm
  | x :: r, a, M, h, h1, h2 => by
    rw [List.foldl_cons]
    have hx := h2 x (.head _)
    refine max_uni r (max a x) M ?_ (by (first | lia | omega)) fun y hy => h2 y (.tail _ hy)
    rcases h with h | h
    · rcases List.mem_cons.mp h with h | h
      · right; (first | lia | omega)
      · exact .inl h
    · right; (first | lia | omega)
-- part LF5
section
variable {w : World} {A : Around} {G : Heap} {B : Rel} {P : Params}
theorem k691 : (Kf pw P).lookup 691 = some (oK691 pw P) := by kernel_rfl
theorem k696 : (Kf pw P).lookup 696 = some (oK696 pw P) := by kernel_rfl
noncomputable def mostA (z : Sizes) : Int := (z.map (·.1)).foldl max 0
noncomputable def mostD (z : Sizes) : Int := (z.map (·.2)).foldl max 0
theorem most_across_spec (g : Gr w G) (R : Rm 4 A) {H W n : Int} {z : Sizes} {x : Addr} (hf : FrameV B H W n z x) (okz : OkSizes z) (hz : 0 < z.length) (hz' : z.length ≤ 4) : Spec w G A (cal 691 [.ref x]) B [] (Pure B (IsI (mostA z))) := by
  intro s h t Fr H
  refine enter (l := [("self", some (.ref x))]) g H k691 (by kernel_rfl) R.room (by rfl) (by kernel_rfl) (by decide +kernel) (by kernel_rfl) (by decide +kernel) (by kernel_rfl) (by kernel_rfl) (by kernel_rfl) (by kernel_rfl) ?_
  intro L h₁ t₁ F; simp only [List.cons_append, List.nil_append] at F; refine wpAny_execs_cons ?_
  have R' := R.deeper (envOfC (Str.ofString "Frame.most_across") (fS (inCls pw 70 1)) L 691 (Value.ref 690))
  obtain ⟨c, cv, vk, t1, t2, t3, t4, ib, lb, ec⟩ := hf
  have hcv := ec.1
  repeat' walk_at "s"
  refine' r_ListComp (cl := _) ?cl (by rfl) (by decide +kernel) ?_ (by intro _; rfl)
  case cl => with_unfolding_all rfl
  repeat' walk_at "s"
  refine r_iter_list R'.hd F lb fun I oI h7 T F10 => ?_
  refine r_comp T F10 ?hk ?hc ?hn ?hgo [("component", none)] ?hlc ?hnd
    (fun i B₂ led₂ l₂ cv => Ex1 fun ov => An4 (led₂ = Fr) (B₂ = B) (l₂ = ([("component", ov)] : Loc)) (IntsAre cv ((z.take i).map (·.1)))) ⟨none, rfl, rfl, rfl, .nil⟩ ?step ?fin
  case hk => rfl
  case hc => decide +kernel
  case hn => rw [sizeLine_eq]; walk_at "o"
  case hgo => exact .inl ⟨_, _, rfl⟩
  case hlc => walk_at "lc"
  case hnd => simp
  case step =>
    rintro C i B₂ led₂ l₂ cs h₂ t₂ pv' v hi inc2 ⟨ov2, rfl, rfl, rfl, ei⟩ hlen hv F11
    delta TurnC
    obtain ⟨p, hp⟩ : ∃ p, z[i]? = some p := ⟨_, List.getElem?_eq_getElem (by walk_at "o")⟩
    obtain ⟨v', hv', y, v1, v4, tp, up, rfl, ibc⟩ := ec.2 i p hp
    obtain rfl : v = .ref y := by have := hv.symm.trans hv'; cases this; rfl
    repeat' walk_at "s"
    refine ⟨_, _, _, _, _, rfl, fun _ _ e => e, ⟨_, rfl, rfl, rfl, ?_⟩, by assumption⟩
    have : z.take (i + 1) = z.take i ++ [p] := by rw [List.take_add_one, hp]; rfl
    rw [this, List.map_append]
    exact ints_snoc ei
  case fin =>
    rintro Kq hKq D B₂ led₂ l₂ cs h₂ t₂ inc2 ⟨ov2, rfl, rfl, rfl, ei⟩ hlen F11
    first | refine hKq _ _ ?_ | refine hKq () _ ?_
    clear hKq Kq
    rw [hcv, List.take_length] at ei
    repeat' walk_at "s"
    refine r_maxl R'.hd F11 (Has.m LO.of (.head _)) ei (by simpa using hz) fun M u h' t' hM hle F12 => ?_
    repeat' walk_at "s"
    refine int_back F12.drop (max_uni _ 0 M (.inl hM) ?_ hle).symm
    obtain ⟨q, hq, rfl⟩ := List.mem_map.mp hM
    have := okz q hq
    walk_at "o"
theorem most_down_spec (g : Gr w G) (R : Rm 4 A) {H W n : Int} {z : Sizes} {x : Addr} (hf : FrameV B H W n z x) (okz : OkSizes z) (hz : 0 < z.length) (hz' : z.length ≤ 4) : Spec w G A (cal 696 [.ref x]) B [] (Pure B (IsI (mostD z))) := by
  intro s h t Fr H
  refine enter (l := [("self", some (.ref x))]) g H k696 (by kernel_rfl) R.room (by rfl) (by kernel_rfl) (by decide +kernel) (by kernel_rfl) (by decide +kernel) (by kernel_rfl) (by kernel_rfl) (by kernel_rfl) (by kernel_rfl) ?_
  intro L h₁ t₁ F; simp only [List.cons_append, List.nil_append] at F; refine wpAny_execs_cons ?_
  have R' := R.deeper (envOfC (Str.ofString "Frame.most_down") (fS (inCls pw 70 2)) L 696 (Value.ref 695))
  obtain ⟨c, cv, vk, t1, t2, t3, t4, ib, lb, ec⟩ := hf
  have hcv := ec.1
  repeat' walk_at "s"
  refine' r_ListComp (cl := _) ?cl (by rfl) (by decide +kernel) ?_ (by intro _; rfl)
  case cl => with_unfolding_all rfl
  repeat' walk_at "s"
  refine r_iter_list R'.hd F lb fun I oI h7 T F10 => ?_
  refine r_comp T F10 ?hk ?hc ?hn ?hgo [("component", none)] ?hlc ?hnd
    (fun i B₂ led₂ l₂ cv => Ex1 fun ov => An4 (led₂ = Fr) (B₂ = B) (l₂ = ([("component", ov)] : Loc)) (IntsAre cv ((z.take i).map (·.2)))) ⟨none, rfl, rfl, rfl, .nil⟩ ?step ?fin
  case hk => rfl
  case hc => decide +kernel
  case hn => rw [sizeLine_eq]; walk_at "o"
  case hgo => exact .inl ⟨_, _, rfl⟩
  case hlc => walk_at "lc"
  case hnd => simp
  case step =>
    rintro C i B₂ led₂ l₂ cs h₂ t₂ pv' v hi inc2 ⟨ov2, rfl, rfl, rfl, ei⟩ hlen hv F11
    delta TurnC
    obtain ⟨p, hp⟩ : ∃ p, z[i]? = some p := ⟨_, List.getElem?_eq_getElem (by walk_at "o")⟩
    obtain ⟨v', hv', y, v1, v4, tp, up, rfl, ibc⟩ := ec.2 i p hp
    obtain rfl : v = .ref y := by have := hv.symm.trans hv'; cases this; rfl
    repeat' walk_at "s"
    refine ⟨_, _, _, _, _, rfl, fun _ _ e => e, ⟨_, rfl, rfl, rfl, ?_⟩, by assumption⟩
    have : z.take (i + 1) = z.take i ++ [p] := by rw [List.take_add_one, hp]; rfl
    rw [this, List.map_append]
    exact ints_snoc ei
  case fin =>
    rintro Kq hKq D B₂ led₂ l₂ cs h₂ t₂ inc2 ⟨ov2, rfl, rfl, rfl, ei⟩ hlen F11
    first | refine hKq _ _ ?_ | refine hKq () _ ?_
    clear hKq Kq
    rw [hcv, List.take_length] at ei
    repeat' walk_at "s"
    refine r_maxl R'.hd F11 (Has.m LO.of (.head _)) ei (by simpa using hz) fun M u h' t' hM hle F12 => ?_
    repeat' walk_at "s"
    refine int_back F12.drop (max_uni _ 0 M (.inl hM) ?_ hle).symm
    obtain ⟨q, hq, rfl⟩ := List.mem_map.mp hM
    have := okz q hq
    walk_at "o"
end
local macro_rules | `(tactic| walk_at "specI") => `(tactic| first
  | exact most_across_spec (by assumption) (by walk_at "rm") (by assumption) (by assumption) (by walk_at "arith") (by walk_at "arith")
  | exact most_down_spec (by assumption) (by walk_at "rm") (by assumption) (by assumption) (by walk_at "arith") (by walk_at "arith"))
-- part LX8
section
variable {P : Params}
theorem k703 : (Kf pw P).lookup 703 = some (oK703 pw P) := by kernel_rfl
theorem k710 : (Kf pw P).lookup 710 = some (oK710 pw P) := by kernel_rfl
theorem k717 : (Kf pw P).lookup 717 = some (oK717 pw P) := by kernel_rfl
theorem k724 : (Kf pw P).lookup 724 = some (oK724 pw P) := by kernel_rfl
theorem k731 : (Kf pw P).lookup 731 = some (oK731 pw P) := by kernel_rfl
theorem k79 : (Kf pw P).lookup 79 = some (oK79 pw P) := by kernel_rfl
theorem k100 : (Kf pw P).lookup 100 = some (oK100 pw P) := by kernel_rfl
theorem k171 : (Kf pw P).lookup 171 = some (oK171 pw P) := by kernel_rfl
theorem k757 : (Kf pw P).lookup 757 = some (oK757 pw P) := by kernel_rfl
theorem k764 : (Kf pw P).lookup 764 = some (oK764 pw P) := by kernel_rfl
theorem k750 : (Kf pw P).lookup 750 = some (oK750 pw P) := by kernel_rfl
theorem k28 : (Kf pw P).lookup 28 = some (oK28 pw P) := by kernel_rfl
theorem k181 : (Kf pw P).lookup 181 = some (oK181 pw P) := by kernel_rfl
theorem k391 : (Kf pw P).lookup 391 = some (oK391 pw P) := by kernel_rfl
theorem k616 : (Kf pw P).lookup 616 = some (oK616 pw P) := by kernel_rfl
theorem k623 : (Kf pw P).lookup 623 = some (oK623 pw P) := by kernel_rfl
theorem k630 : (Kf pw P).lookup 630 = some (oK630 pw P) := by kernel_rfl
theorem k304 : (Kf pw P).lookup 304 = some (oK304 pw P) := by kernel_rfl
theorem k297 : (Kf pw P).lookup 297 = some (oK297 pw P) := by kernel_rfl
theorem k332 : (Kf pw P).lookup 332 = some (oK332 pw P) := by kernel_rfl
theorem k346 : (Kf pw P).lookup 346 = some (oK346 pw P) := by kernel_rfl
theorem k353 : (Kf pw P).lookup 353 = some (oK353 pw P) := by kernel_rfl
theorem k365 : (Kf pw P).lookup 365 = some (oK365 pw P) := by kernel_rfl
theorem k360 : (Kf pw P).lookup 360 = some (oK360 pw P) := by kernel_rfl
theorem k637 : (Kf pw P).lookup 637 = some (oK637 pw P) := by kernel_rfl
theorem k644 : (Kf pw P).lookup 644 = some (oK644 pw P) := by kernel_rfl
theorem k802 : (Kf pw P).lookup 802 = some (oK802 pw P) := by kernel_rfl
theorem k807 : (Kf pw P).lookup 807 = some (oK807 pw P) := by kernel_rfl
theorem k814 : (Kf pw P).lookup 814 = some (oK814 pw P) := by kernel_rfl
theorem k819 : (Kf pw P).lookup 819 = some (oK819 pw P) := by kernel_rfl
end
section
variable {w : World} {A : Around} {E : VV → Shared → Prop} {s : Shared} {t : Nat} {G : Heap} {B : Rel} {led led' : Led} {env : Env} {pv : Led} {l : Loc} {h : Heap} {Q : VV → Shared → Prop}
end
theorem foldmax : ∀ (ns : List Int) (a : Int), (∀ x ∈ ns, x = 1 ∨ x = 2) → 0 ≤ a → a ≤ 2 → (0 < a ∨ 0 < ns.length) → ns.foldl max a = 1 ∨ ns.foldl max a = 2
  | [], a, _, h0, h1, h2 => by
    simp only [List.foldl_nil]
    rcases h2 with h2 | h2
    · (first | lia | omega)
    · simp at h2
  | x :: r, a, hx, h0, h1, _ => by
    rw [List.foldl_cons]
    have := hx x (.head _)
    exact foldmax r (max a x) (fun y hy => hx y (.tail _ hy)) (by (first | lia | omega)) (by (first | lia | omega)) (.inl (by (first | lia | omega)))
theorem mostA_or {z : Sizes} (ok : OkSizes z) (hz : 0 < z.length) : mostA z = 1 ∨ mostA z = 2 := by
  refine foldmax _ 0 (fun x hx => ?_) (by (first | lia | omega)) (by (first | lia | omega)) (.inr (by simpa using hz))
  obtain ⟨p, hp, rfl⟩ := List.mem_map.mp hx
  exact (ok p hp).1
theorem mostD_or {z : Sizes} (ok : OkSizes z) (hz : 0 < z.length) : mostD z = 1 ∨ mostD z = 2 := by
  refine foldmax _ 0 (fun x hx => ?_) (by (first | lia | omega)) (by (first | lia | omega)) (.inr (by simpa using hz))
  obtain ⟨p, hp, rfl⟩ := List.mem_map.mp hx
  exact (ok p hp).2
section
variable {w : World} {A : Around} {E : VV → Shared → Prop} {s : Shared} {t : Nat} {G : Heap} {B : Rel} {led led' : Led} {env : Env} {pv : Led} {l : Loc} {h : Heap}
end
theorem le_mostA {z : Sizes} {p : Int × Int} (hp : p ∈ z) : p.1 ≤ mostA z := by
  have key : ∀ (ns : List Int) (a x : Int), x ∈ ns ∨ x ≤ a → x ≤ ns.foldl max a := by
    intro ns
    induction ns with
    | nil => intro a x h; rcases h with h | h; cases h; exact h
    | cons y r ih =>
      intro a x h
      rw [List.foldl_cons]
      refine ih _ _ ?_
      rcases h with h | h
      · rcases List.mem_cons.mp h with h | h
        · right; (first | lia | omega)
        · exact .inl h
      · right; (first | lia | omega)
  exact key _ 0 _ (.inl (List.mem_map.mpr ⟨p, hp, rfl⟩))
theorem le_mostD {z : Sizes} {p : Int × Int} (hp : p ∈ z) : p.2 ≤ mostD z := by
  have key : ∀ (ns : List Int) (a x : Int), x ∈ ns ∨ x ≤ a → x ≤ ns.foldl max a := by
    intro ns
    induction ns with
    | nil => intro a x h; rcases h with h | h; cases h; exact h
    | cons y r ih =>
      intro a x h
      rw [List.foldl_cons]
      refine ih _ _ ?_
      rcases h with h | h
      · rcases List.mem_cons.mp h with h | h
        · right; (first | lia | omega)
        · exact .inl h
      · right; (first | lia | omega)
  exact key _ 0 _ (.inl (List.mem_map.mpr ⟨p, hp, rfl⟩))
-- part LF6
section
variable {w : World} {A : Around} {G : Heap} {B : Rel}
noncomputable def planeW (z : Sizes) (W : Int) (p : Int × Int) : Int := partsI (W * p.1) (mostA z)
noncomputable def planeH (z : Sizes) (H : Int) (p : Int × Int) : Int := partsI (H * p.2) (mostD z)
noncomputable abbrev TupP (a b : Int) : VV → Rel → Led → Prop := fun v B' u' => u' = [] ∧ Ex3 fun r t u => An2 (v = .ref r) (TB B' r [.int a t, .int b u])
theorem tup_back {s : Shared} {B B₀ : Rel} {Fr : Led} {h' : Heap} {t' : Nat} {a : Addr} {i j : Int} {t u : Tok} {m : Nat} {env : Env} {pv : Led} {l : Loc} (inc : Inc B₀ B) (F : FS G B ((a, tup [.int i t, .int j u] m) :: Fr) env pv l h') : Back G B₀ s Fr (TupP i j) (.ok (.ret (.ref a))) (at_ s h' t') :=
  ⟨_, _, [], _, _, rfl, rfl, fun _ _ e => .inl (inc _ _ e), (F.frz .head).pub, rfl, a, t, u, rfl, _, Badd.new, TO.of⟩
theorem plane_size_spec (g : Gr w G) (R : Rm 8 A) {H W n : Int} {z : Sizes} {x : Addr} (hf : FrameV B H W n z x) (okz : OkSizes z) (hz : 0 < z.length) (hz' : z.length ≤ 4) (hH : 1 ≤ H ∧ H ≤ 4) (hW : 1 ≤ W ∧ W ≤ 5)
    {k : Nat} {tk : Tok} {p : Int × Int} (hp : z[k]? = some p) : Spec w G A (cal 717 [.ref x, .int k tk]) B [] (TupP (planeW z W p) (planeH z H p)) := by
  intro s h t Fr Hh
  refine enter (l := [("self", some (.ref x)), ("place", some (.int k tk)), ("component", none), ("width", none)]) g Hh k717 (by kernel_rfl) R.room (by rfl) (by kernel_rfl) (by decide +kernel) (by kernel_rfl) (by decide +kernel) (by kernel_rfl) (by kernel_rfl) (by kernel_rfl) (by kernel_rfl) ?_
  intro L h₁ t₁ F; simp only [List.cons_append, List.nil_append] at F; refine wpAny_execs_cons ?_
  have R' := R.deeper (envOfC (Str.ofString "Frame.plane_size") (fS (inCls pw 70 5)) L 717 (Value.ref 716))
  have hf' := hf
  have mA := mostA_or okz hz
  have mD := mostD_or okz hz
  have hk : k < z.length := by
    rcases Nat.lt_or_ge k z.length with c | c
    · exact c
    · rw [List.getElem?_eq_none c] at hp; cases hp
  obtain ⟨c, cv, vk, t1, t2, t3, t4, ib, lb, ec⟩ := hf'
  obtain ⟨v', hv', y, v1, v4, tp, up, rfl, ibc⟩ := ec.2 k p hp
  have hv2 : cv[((k : Nat) : Int).toNat]? = some (.ref y) := by simpa using hv'
  have okp := okz p (List.mem_of_getElem? hp)
  repeat' walk_at "s"
  exact tup_back (fun _ _ e => e) (by assumption)
theorem mem5 {W : Int} (h : 1 ≤ W ∧ W ≤ 5) : W ∈ ([1, 2, 3, 4, 5] : List Int) := by
  have : W = 1 ∨ W = 2 ∨ W = 3 ∨ W = 4 ∨ W = 5 := by walk_at "o"
  simpa using this
theorem mem4 {W : Int} (h : 1 ≤ W ∧ W ≤ 4) : W ∈ ([1, 2, 3, 4] : List Int) := by
  have : W = 1 ∨ W = 2 ∨ W = 3 ∨ W = 4 := by walk_at "o"
  simpa using this
theorem mem2 {a : Int} (h : a = 1 ∨ a = 2) : a ∈ ([1, 2] : List Int) := by simpa using h
theorem tab5 : ∀ W ∈ ([1, 2, 3, 4, 5] : List Int), ∀ p ∈ ([1, 2] : List Int), ∀ m ∈ ([1, 2] : List Int), 1 ≤ partsI (W * p) m ∧ partsI (W * p) m ≤ 10 := by decide
theorem tab4 : ∀ W ∈ ([1, 2, 3, 4] : List Int), ∀ p ∈ ([1, 2] : List Int), ∀ m ∈ ([1, 2] : List Int), 1 ≤ partsI (W * p) m ∧ partsI (W * p) m ≤ 8 := by decide
theorem plane_small {z : Sizes} {H W n : Int} {p : Int × Int} (ok : OkSizes z) (hz : 0 < z.length) (hp : p ∈ z) (hH : 1 ≤ H ∧ H ≤ 4) (hW : 1 ≤ W ∧ W ≤ 5) : (1 ≤ planeW z W p ∧ planeW z W p ≤ 10) ∧ (1 ≤ planeH z H p ∧ planeH z H p ≤ 8) :=
  ⟨tab5 _ (mem5 hW) _ (mem2 (ok p hp).1) _ (mem2 (mostA_or ok hz)), tab4 _ (mem4 hH) _ (mem2 (ok p hp).2) _ (mem2 (mostD_or ok hz))⟩
theorem blocks_spec (g : Gr w G) (R : Rm 10 A) {H W n : Int} {z : Sizes} {x : Addr} (hf : FrameV B H W n z x) (okz : OkSizes z) (hz : 0 < z.length) (hz' : z.length ≤ 4) (hH : 1 ≤ H ∧ H ≤ 4) (hW : 1 ≤ W ∧ W ≤ 5) (hn : n = 1 ∨ n = 2)
    {k : Nat} {tk : Tok} {p : Int × Int} (hp : z[k]? = some p) : Spec w G A (cal 724 [.ref x, .int k tk]) B [] (TupP (partsI (planeW z W p) n) (partsI (planeH z H p) n)) := by
  intro s h t Fr Hh
  refine enter (l := [("self", some (.ref x)), ("place", some (.int k tk)), ("width", none), ("height", none)]) g Hh k724 (by kernel_rfl) R.room (by rfl) (by kernel_rfl) (by decide +kernel) (by kernel_rfl) (by decide +kernel) (by kernel_rfl) (by kernel_rfl) (by kernel_rfl) (by kernel_rfl) ?_
  intro L h₁ t₁ F; simp only [List.cons_append, List.nil_append] at F; refine wpAny_execs_cons ?_
  have R' := R.deeper (envOfC (Str.ofString "Frame.blocks") (fS (inCls pw 70 6)) L 724 (Value.ref 723))
  obtain ⟨c, cv, vk, t1, t2, t3, t4, ib, lb, ec⟩ := id hf
  have hpm := List.mem_of_getElem? hp
  have ps := plane_small (n := n) okz hz hpm hH hW
  repeat' walk_at "s"
  refine r_call (used := []) F (plane_size_spec g (R'.less (by walk_at "o")) hf okz hz hz' hH hW hp) ?_
  rintro Kq hKq v B₁ u₁ h₁ t₁ inc ⟨rfl, r, tt, uu, rfl, tb⟩ F1
  first | refine hKq _ _ ?_ | refine hKq () _ ?_
  clear hKq Kq
  simp only [List.nil_append] at F1
  repeat' walk_at "s"
  exact tup_back (by assumption) (by assumption)
end
-- part LF7
section
variable {w : World} {A : Around} {G : Heap} {B : Rel}
theorem factors_spec (g : Gr w G) (R : Rm 8 A) {H W n : Int} {z : Sizes} {x : Addr} (hf : FrameV B H W n z x) (okz : OkSizes z) (hz : 0 < z.length) (hz' : z.length ≤ 4)
    {k : Nat} {tk : Tok} {p : Int × Int} (hp : z[k]? = some p) : Spec w G A (cal 79 [.ref x, .int k tk]) B [] (TupP ((mostA z).fdiv p.1) ((mostD z).fdiv p.2)) := by
  intro s h t Fr Hh
  refine enter (l := [("frame", some (.ref x)), ("place", some (.int k tk)), ("component", none)]) g Hh k79 (by kernel_rfl) R.room (by rfl) (by kernel_rfl) (by decide +kernel) (by kernel_rfl) (by decide +kernel) (by kernel_rfl) (by kernel_rfl) (by kernel_rfl) (by kernel_rfl) ?_
  intro L h₁ t₁ F; simp only [List.cons_append, List.nil_append] at F; refine wpAny_execs_cons ?_
  have mA := mostA_or okz hz
  have mD := mostD_or okz hz
  have hk : k < z.length := by
    rcases Nat.lt_or_ge k z.length with c | c
    · exact c
    · rw [List.getElem?_eq_none c] at hp; cases hp
  obtain ⟨c, cv, vk, t1, t2, t3, t4, ib, lb, ec⟩ := id hf
  obtain ⟨v', hv', y, v1, v4, tp, up, rfl, ibc⟩ := ec.2 k p hp
  have hv2 : cv[((k : Nat) : Int).toNat]? = some (.ref y) := by simpa using hv'
  have hpm := List.mem_of_getElem? hp
  have okp := okz p hpm
  have lA := le_mostA hpm
  have lD := le_mostD hpm
  have zA : (mostA z).fmod p.1 = 0 := by
    rw [Int.fmod_eq_emod_of_nonneg _ (by walk_at "o")]
    rcases okp.1 with e | e <;> rcases mA with f | f <;> rw [e, f] <;> first | rfl | (rw [e, f] at lA; walk_at "o")
  have zD : (mostD z).fmod p.2 = 0 := by
    rw [Int.fmod_eq_emod_of_nonneg _ (by walk_at "o")]
    rcases okp.2 with e | e <;> rcases mD with f | f <;> rw [e, f] <;> first | rfl | (rw [e, f] at lD; walk_at "o")
  repeat' walk_at "s"
  all_goals first | exact tup_back (fun _ _ e => e) (by assumption) | exact absurd zA (by assumption) | exact absurd zD (by assumption)
end
-- part LF8
section
variable {w : World} {A : Around} {G : Heap} {B : Rel}
noncomputable def mcuA (z : Sizes) (W n : Int) : Int := partsI W (n * mostA z)
noncomputable def mcuD (z : Sizes) (H n : Int) : Int := partsI H (n * mostD z)
theorem nmul {n m : Int} (hn : n = 1 ∨ n = 2) (hm : m = 1 ∨ m = 2) : 0 < n * m ∧ n * m < 1000 := by
  rcases hn with rfl | rfl <;> rcases hm with rfl | rfl <;> decide
theorem mcus_across_spec (g : Gr w G) (R : Rm 8 A) {H W n : Int} {z : Sizes} {x : Addr} (hf : FrameV B H W n z x) (okz : OkSizes z) (hz : 0 < z.length) (hz' : z.length ≤ 4) (hn : n = 1 ∨ n = 2) : Spec w G A (cal 703 [.ref x]) B [] (Pure B (IsI (mcuA z W n))) := by
  intro s h t Fr Hh
  refine enter (l := [("self", some (.ref x))]) g Hh k703 (by kernel_rfl) R.room (by rfl) (by kernel_rfl) (by decide +kernel) (by kernel_rfl) (by decide +kernel) (by kernel_rfl) (by kernel_rfl) (by kernel_rfl) (by kernel_rfl) ?_
  intro L h₁ t₁ F; simp only [List.cons_append, List.nil_append] at F; refine wpAny_execs_cons ?_
  have mA := mostA_or okz hz
  have nm := nmul hn mA
  obtain ⟨c, cv, vk, t1, t2, t3, t4, ib, lb, ec⟩ := id hf
  repeat' walk_at "s"
  exact int_back (by assumption) rfl
theorem mcus_down_spec (g : Gr w G) (R : Rm 8 A) {H W n : Int} {z : Sizes} {x : Addr} (hf : FrameV B H W n z x) (okz : OkSizes z) (hz : 0 < z.length) (hz' : z.length ≤ 4) (hn : n = 1 ∨ n = 2) : Spec w G A (cal 710 [.ref x]) B [] (Pure B (IsI (mcuD z H n))) := by
  intro s h t Fr Hh
  refine enter (l := [("self", some (.ref x))]) g Hh k710 (by kernel_rfl) R.room (by rfl) (by kernel_rfl) (by decide +kernel) (by kernel_rfl) (by decide +kernel) (by kernel_rfl) (by kernel_rfl) (by kernel_rfl) (by kernel_rfl) ?_
  intro L h₁ t₁ F; simp only [List.cons_append, List.nil_append] at F; refine wpAny_execs_cons ?_
  have mA := mostD_or okz hz
  have nm := nmul hn mA
  obtain ⟨c, cv, vk, t1, t2, t3, t4, ib, lb, ec⟩ := id hf
  repeat' walk_at "s"
  exact int_back (by assumption) rfl
theorem padded_spec (g : Gr w G) (R : Rm 10 A) {H W n : Int} {z : Sizes} {x : Addr} (hf : FrameV B H W n z x) (okz : OkSizes z) (hz : 0 < z.length) (hz' : z.length ≤ 4) (hn : n = 1 ∨ n = 2)
    {k : Nat} {tk : Tok} {p : Int × Int} (hp : z[k]? = some p) : Spec w G A (cal 731 [.ref x, .int k tk]) B [] (TupP (mcuA z W n * p.1) (mcuD z H n * p.2)) := by
  intro s h t Fr Hh
  refine enter (l := [("self", some (.ref x)), ("place", some (.int k tk)), ("component", none)]) g Hh k731 (by kernel_rfl) R.room (by rfl) (by kernel_rfl) (by decide +kernel) (by kernel_rfl) (by decide +kernel) (by kernel_rfl) (by kernel_rfl) (by kernel_rfl) (by kernel_rfl) ?_
  intro L h₁ t₁ F; simp only [List.cons_append, List.nil_append] at F; refine wpAny_execs_cons ?_
  have hk : k < z.length := by
    rcases Nat.lt_or_ge k z.length with c | c
    · exact c
    · rw [List.getElem?_eq_none c] at hp; cases hp
  obtain ⟨c, cv, vk, t1, t2, t3, t4, ib, lb, ec⟩ := id hf
  obtain ⟨v', hv', y, v1, v4, tp, up, rfl, ibc⟩ := ec.2 k p hp
  have hv2 : cv[((k : Nat) : Int).toNat]? = some (.ref y) := by simpa using hv'
  have okp := okz p (List.mem_of_getElem? hp)
  repeat' walk_at "s"
  refine r_callI (by assumption) (mcus_across_spec g (Rm.less (R.deeper _) (by decide)) hf okz hz hz' hn) fun _ _ _ _ => ?_
  repeat' walk_at "s"
  refine r_callI (by assumption) (mcus_down_spec g (Rm.less (R.deeper _) (by decide)) hf okz hz hz' hn) fun _ _ _ _ => ?_
  repeat' walk_at "s"
  exact tup_back (fun _ _ e => e) (by assumption)
/-- a row of ints; a plane -/
noncomputable def RowV (B : Rel) (r : List Int) (v : VV) : Prop := Ex2 fun a vs => An3 (v = .ref a) (LB B a vs) (IntsAre vs r)
theorem RowV.up {B B' : Rel} {r : List Int} {v : VV} (x : RowV B r v) (i : Inc B B') : RowV B' r v := let ⟨a, vs, e, f, k⟩ := x; ⟨a, vs, e, f.up i, k⟩
noncomputable def PlaneV (B : Rel) (W H : Int) (d : List (List Int)) (x : Addr) : Prop := Ex4 fun r rv t1 t2 => An5 (IB B x 110 [("rows", some (.ref r)), ("height", some (.int H t1)), ("width", some (.int W t2))]) (LB B r rv) (Each (RowV B) d rv) ((d.length : Int) = H) (∀ row ∈ d, (row.length : Int) = W)
theorem PlaneV.up {B B' : Rel} {W H : Int} {d : List (List Int)} {x : Addr} (y : PlaneV B W H d x) (i : Inc B B') : PlaneV B' W H d x :=
  let ⟨r, rv, t1, t2, a, b, c, e, f⟩ := y; ⟨r, rv, t1, t2, a.up i, b.up i, c.imp fun _ _ f => f.up i, e, f⟩
noncomputable def pix (d : List (List Int)) (x y : Int) : Int := (d.getD y.toNat []).getD x.toNat 0
theorem kept_in_rng {p n : Int} (h : 0 < n) : 0 ≤ keptI p n ∧ keptI p n < n := by unfold keptI; repeat' split; all_goals walk_at "o"
theorem at_spec (g : Gr w G) (R : Rm 6 A) {W H : Int} {d : List (List Int)} {p : Addr} (hp : PlaneV B W H d p) (hW : 0 < W ∧ W < 1000) (hH : 0 < H ∧ H < 1000) {x y : Int} {tx ty : Tok} :
    Spec w G A (cal 100 [.ref p, .int x tx, .int y ty]) B [] (Pure B (IsI (pix d (keptI x W) (keptI y H)))) := by
  intro s h t Fr Hh
  refine enter (l := [("self", some (.ref p)), ("x", some (.int x tx)), ("y", some (.int y ty))]) g Hh k100 (by kernel_rfl) R.room (by rfl) (by kernel_rfl) (by decide +kernel) (by kernel_rfl) (by decide +kernel) (by kernel_rfl) (by kernel_rfl) (by kernel_rfl) (by kernel_rfl) ?_
  intro L h₁ t₁ F; simp only [List.cons_append, List.nil_append] at F; refine wpAny_execs_cons ?_
  obtain ⟨r, rv, t1, t2, ib, lb, er, dl, dw⟩ := hp
  have kx := kept_in_rng (p := x) hW.1
  have ky := kept_in_rng (p := y) hH.1
  have hy : (keptI y H).toNat < d.length := by walk_at "o"
  obtain ⟨v, hv, a, vs, rfl, lb2, iv⟩ := er.2 _ _ (List.getElem?_eq_getElem hy)
  have hlen := dw _ (List.getElem_mem hy)
  have hx : (keptI x W).toNat < (d[(keptI y H).toNat]).length := by walk_at "o"
  obtain ⟨u, hu⟩ := ints_at iv _ hx
  repeat' walk_at "s"
  refine int_back (by assumption) ?_
  unfold pix
  have e : d.getD (keptI y H).toNat [] = d[(keptI y H).toNat] := by simp [List.getD, hy]
  rw [e]
end
-- part LF9
noncomputable def colsI (a : Int) (W : Nat) : List Int := (List.range W).map fun (x : Nat) => ((x : Int) * 1).fdiv a
noncomputable def repI (d : List (List Int)) (W0 H0 a b : Int) (W H : Nat) : List (List Int) := (List.range H).map fun (y : Nat) => (colsI a W).map fun c => pix d (keptI c W0) (keptI (((y : Int) * 1).fdiv b) H0)
theorem range_snoc {α : Type} (n : Nat) (f : Nat → α) : (List.range (n + 1)).map f = (List.range n).map f ++ [f n] := by rw [List.range_succ, List.map_append]; rfl
section
variable {w : World} {A : Around} {G : Heap} {B : Rel}
noncomputable abbrev PlaneP (W H : Int) (d : List (List Int)) : VV → Rel → Led → Prop := fun v B' u' => u' = [] ∧ ∃ x, v = .ref x ∧ PlaneV B' W H d x
theorem repeated_spec (g : Gr w G) (R : Rm 12 A) {W0 H0 : Int} {d : List (List Int)} {p : Addr} (hp : PlaneV B W0 H0 d p) (hW : 0 < W0 ∧ W0 < 1000) (hH : 0 < H0 ∧ H0 < 1000) {a b : Int} (ha : a = 1 ∨ a = 2) (hb : b = 1 ∨ b = 2) {W H : Int} {nW nH : Nat} (eW : W = nW) (eH : H = nH) (zW : nW < 100) (zH : nH < 100) {t1 t2 t3 t4 t5 t6 : Tok} :
    Spec w G A (cal 365 [.ref p, .int a t1, .int 1 t2, .int b t3, .int 1 t4, .int W t5, .int H t6]) B [] (PlaneP W H (repI d W0 H0 a b nW nH)) := by
  intro s h t Fr Hh
  refine enter (l := [("plane", some (.ref p)), ("most_across", some (.int a t1)), ("own_across", some (.int 1 t2)), ("most_down", some (.int b t3)), ("own_down", some (.int 1 t4)), ("width", some (.int W t5)), ("height", some (.int H t6)), ("columns", none), ("rows", none), ("y", none), ("line", none)]) g Hh k365 (by kernel_rfl) R.room (by rfl) (by kernel_rfl) (by decide +kernel) (by kernel_rfl) (by decide +kernel) (by kernel_rfl) (by kernel_rfl) (by kernel_rfl) (by kernel_rfl) ?_
  intro L h₁ t₁ F; simp only [List.nil_append] at F
  refine' wpAny_execs_cons (r_AssignComp (cl := _) ?sw ?cl (by rfl) (by decide +kernel) ?_ (by intro _; rfl))
  case sw => with_unfolding_all rfl
  case cl => with_unfolding_all rfl
  repeat' walk_at "s"
  rename_i ra h2 t2' ta tc F2
  refine iter_rng1 R.hd F2.drop (F2.mem (.head _)) eW (by walk_at "o") fun I oI h7 T F10 => ?_
  refine r_compA T F10 ?hk ?hc ?hn ?hgo [("x", none), ("most_across", some (.int a t1)), ("own_across", some (.int 1 t2))] ?hlc ?hnd
    (fun i B₂ led₂ l₂ cv => Ex1 fun ov => An4 (led₂ = Fr) (B₂ = B) (l₂ = ([("x", ov), ("most_across", some (.int a t1)), ("own_across", some (.int 1 t2))] : Loc)) (IntsAre cv (colsI a i))) ⟨none, rfl, rfl, rfl, .nil⟩ ?ky
    (fun v => [("plane", some (.ref p)), ("most_across", some (.int a t1)), ("own_across", some (.int 1 t2)), ("most_down", some (.int b t3)), ("own_down", some (.int 1 t4)), ("width", some (.int W t5)), ("height", some (.int H t6)), ("columns", some v), ("rows", none), ("y", none), ("line", none)]) ?put ?step ?fin
  case hk => rfl
  case hc => decide +kernel
  case hn => rw [sizeLine_eq]; walk_at "o"
  case hgo => exact .inl ⟨_, _, rfl⟩
  case hlc => walk_at "lc"
  case hnd => simp; decide
  case ky => kernel_rfl
  case put => intro v; walk_at "put"
  case step =>
    rintro C i B₂ led₂ l₂ cs h₂ t₂ pv' v hi inc2 ⟨ov2, rfl, rfl, rfl, ei⟩ hlen ⟨ti, rfl⟩ F11
    delta TurnC
    have e0 : (0 : Int) + (i : Int) * 1 = i := by walk_at "o"
    rw [e0]
    repeat' walk_at "s"
    refine ⟨_, _, _, _, _, rfl, fun _ _ e => e, ⟨_, rfl, rfl, rfl, ?_⟩, by assumption⟩
    unfold colsI
    rw [range_snoc]
    exact ints_snoc ei
  case fin =>
    rintro Kq hKq D B₂ led₂ l₂ cs h₂ t₂ inc2 ⟨ov2, hl2, hB2, rfl, ei⟩ hlen F11
    first | refine hKq _ _ ?_ | refine hKq () _ ?_
    clear hKq Kq
    subst hl2 hB2
    have F12 := F11.frz .head
    refine wpAny_execs_cons ?_
    repeat' walk_at "s"
    refine wpAny_For ?_ (by intro _; rfl)
    repeat' walk_at "s"
    rename_i rw _ _ _ _ _ ra3 h8 t8 ta3 tc3 F13
    have lbc : LB (Badd B₂ D (lst cs nW)) D cs := ⟨_, Badd.new, LO.of⟩
    have hp2 : PlaneV (Badd B₂ D (lst cs nW)) W0 H0 d p := hp.up Badd.inc
    refine for_rng1 (n := nH) R.hd F13.drop (F13.mem (.head _)) eH (by walk_at "o") (fun i B₃ led₃ l₃ => Ex3 fun rs oy ol => An3 (led₃ = (rw, lst rs i) :: led₂) (l₃ = ([("plane", some (.ref p)), ("most_across", some (.int a t1)), ("own_across", some (.int 1 t2)), ("most_down", some (.int b t3)), ("own_down", some (.int 1 t4)), ("width", some (.int W t5)), ("height", some (.int H t6)), ("columns", some (.ref D)), ("rows", some (.ref rw)), ("y", oy), ("line", ol)] : Loc)) (Each (RowV B₃) (repI d W0 H0 a b nW i) rs)) ⟨[], none, none, rfl, rfl, Each.nil⟩ ?step2 ?fin2
    case step2 =>
      rintro i B₃ led₃ l₃ h₃ t₃' pv' u hi inc3 ⟨rs, oy, ol, rfl, rfl, er⟩ F14
      delta Turn
      have lb3 := lbc.up inc3
      have hp3 := hp2.up inc3
      have hrs : rs.length = i := by rw [er.1]; simp [repI]
      repeat' walk_at "s"
      refine' r_ListComp (cl := _) ?cl2 (by rfl) (by decide +kernel) ?_ (by intro _; rfl)
      case cl2 => with_unfolding_all rfl
      repeat' walk_at "s"
      rename_i tl _ h9 t9 F15
      obtain ⟨pr, prv, pt1, pt2, pib, plb, per, pdl, pdw⟩ := id hp3
      have hcs := ints_len ei
      refine r_iter_list R.hd F15 lb3 fun I2 oI2 h10 T2 F16 => ?_
      refine r_comp T2 F16 ?hk3 ?hc3 ?hn3 ?hgo3 [("x", none), ("line", some (.int ((((i : Nat) : Int) * 1).fdiv b) tl)), ("plane", some (.ref p))] ?hlc3 ?hnd3
        (fun j B₄ led₄ l₄ vs => Ex1 fun ox => An4 (led₄ = (rw, lst rs i) :: led₂) (B₄ = B₃) (l₄ = ([("x", ox), ("line", some (.int ((((i : Nat) : Int) * 1).fdiv b) tl)), ("plane", some (.ref p))] : Loc)) (IntsAre vs (((colsI a nW).take j).map fun c => pix d (keptI c W0) (keptI ((((i : Nat) : Int) * 1).fdiv b) H0)))) ⟨none, rfl, rfl, rfl, .nil⟩ ?step3 ?fin3
      case hk3 => rfl
      case hc3 => decide +kernel
      case hn3 => rw [sizeLine_eq]; walk_at "o"
      case hgo3 => exact .inl ⟨_, _, rfl⟩
      case hlc3 => walk_at "lc"
      case hnd3 => simp; decide
      case step3 =>
        rintro C j B₄ led₄ l₄ vs h₄ t₄' pv4 v hj inc4 ⟨ox, rfl, rfl, rfl, ev⟩ hlen4 hv F17
        delta TurnC
        have hj' : j < (colsI a nW).length := by walk_at "o"
        obtain ⟨u4, hu4⟩ := ints_at ei j hj'
        obtain rfl : v = .int ((colsI a nW).getD j 0) u4 := by have := hv.symm.trans hu4; cases this; rfl
        repeat' walk_at "s"
        refine r_callI (by assumption) (at_spec g (Rm.less (R.deeper _) (by decide)) hp3 hW hH) fun _ _ _ F18 => ?_
        refine ⟨_, _, _, _, _, rfl, fun _ _ e => e, ⟨_, rfl, rfl, rfl, ?_⟩, F18⟩
        have : (colsI a nW).take (j + 1) = (colsI a nW).take j ++ [(colsI a nW).getD j 0] := by
          rw [List.take_add_one, List.getElem?_eq_getElem hj']
          simp [List.getD, hj']
        rw [this, List.map_append]
        exact ints_snoc ev
      case fin3 =>
        rintro Kq hKq D2 B₄ led₄ l₄ vs h₄ t₄' inc4 ⟨ox, rfl, rfl, rfl, ev⟩ hlen4 F17
        first | refine hKq _ _ ?_ | refine hKq () _ ?_
        clear hKq Kq
        repeat' walk_at "s"
        rename_i h11 F18
        have et : (colsI a nW).take cs.length = colsI a nW := by rw [hcs]; exact List.take_length
        rw [et] at ev
        refine ⟨_, _, _, _, _, rfl, Badd.inc, ⟨_, _, _, rfl, rfl, ?_⟩, F18.frz .head⟩
        have e5 : repI d W0 H0 a b nW (i + 1) = repI d W0 H0 a b nW i ++ [(colsI a nW).map fun c => pix d (keptI c W0) (keptI ((((i : Nat) : Int) * 1).fdiv b) H0)] := by
          unfold repI; rw [range_snoc]
        rw [e5]
        exact (er.imp fun _ _ e => e.up Badd.inc).snoc ⟨D2, vs, rfl, ⟨_, Badd.new, LO.of⟩, ev⟩
    case fin2 =>
      rintro Kq hKq B₃ led₃ l₃ h₃ t₃' inc3 ⟨rs, oy, ol, rfl, rfl, er⟩ F14
      first | refine hKq _ _ ?_ | refine hKq () _ ?_
      clear hKq Kq
      have F15 := F14.frz .head
      refine wpAny_execs_cons ?_
      repeat' walk_at "s"
      refine r_call (used := []) (by assumption) (plane_make g (Rm.less (R.deeper _) (by decide))) ?_
      rintro Kq hKq v B₄ u₄ h₄ t₄' inc4 ⟨rfl, x, rfl, ib⟩ F16
      first | refine hKq _ _ ?_ | refine hKq () _ ?_
      clear hKq Kq
      have lbr := LB.up (B := Badd B₃ rw (lst rs nH)) (a := rw) (vs := rs) ⟨_, Badd.new, LO.of⟩ inc4
      have er2 := er.imp fun _ _ e => (e.up (Badd.inc (a := rw) (o := lst rs nH))).up inc4
      refine ⟨_, _, [], _, _, rfl, rfl, ?_, F16.pub, rfl, x, rfl, rw, rs, _, _, ib, lbr, er2, ?_, ?_⟩
      · exact fun a o e => inc4 _ _ (.inl (inc3 _ _ (.inl e)))
      · rw [eH]; simp [repI]
      · intro row hrow
        unfold repI at hrow
        obtain ⟨y, hy, rfl⟩ := List.mem_map.mp hrow
        rw [eW]; simp [colsI]
end
-- part LF10
section
variable {w : World} {A : Around} {G : Heap} {B : Rel}
theorem grown_spec (g : Gr w G) (R : Rm 14 A) {W0 H0 : Int} {d : List (List Int)} {p : Addr} (hp : PlaneV B W0 H0 d p) (hW : 0 < W0 ∧ W0 < 1000) (hH : 0 < H0 ∧ H0 < 1000) {a b : Int} (ha : a = 1 ∨ a = 2) (hb : b = 1 ∨ b = 2) {W H : Int} {nW nH : Nat} (eW : W = nW) (eH : H = nH) (zW : nW < 100) (zH : nH < 100) {t1 t3 t5 t6 : Tok} :
    Spec w G A (cal 360 [.ref p, .int a t1, .int b t3, .int W t5, .int H t6, .bool false]) B [] (PlaneP W H (repI d W0 H0 a b nW nH)) := by
  intro s h t Fr Hh
  refine enter (l := [("plane", some (.ref p)), ("across", some (.int a t1)), ("down", some (.int b t3)), ("width", some (.int W t5)), ("height", some (.int H t6)), ("fancy", some (.bool false))]) g Hh k360 (by kernel_rfl) R.room (by rfl) (by kernel_rfl) (by decide +kernel) (by kernel_rfl) (by decide +kernel) (by kernel_rfl) (by kernel_rfl) (by kernel_rfl) (by kernel_rfl) ?_
  intro L h₁ t₁ F; simp only [List.nil_append] at F; refine wpAny_execs_cons ?_
  repeat' walk_at "s"
  all_goals try walk_at "o"
  refine r_call (used := []) (by assumption) (repeated_spec g (Rm.less (R.deeper _) (by decide)) hp hW hH ha hb eW eH zW zH) ?_
  rintro Kq hKq v B₁ u₁ h₂ t₂ inc ⟨rfl, x, rfl, pv⟩ F1
  first | refine hKq _ _ ?_ | refine hKq () _ ?_
  clear hKq Kq
  exact ⟨_, _, [], _, _, rfl, rfl, inc, F1.pub, rfl, x, rfl, pv⟩
end
-- part LF11
noncomputable def deqI (r q : List Int) : List Int := (List.range r.length).map fun (k : Nat) => r.getD k 0 * q.getD k 0
noncomputable def SmallI (q : List Int) : Prop := ∀ k : Nat, (q.getD k 0).natAbs < 2 ^ 64
section
variable {w : World} {A : Around} {G : Heap} {B : Rel}
noncomputable abbrev RowP (r : List Int) : VV → Rel → Led → Prop := fun v B' u' => u' = [] ∧ RowV B' r v
theorem row_back {s : Shared} {B B₀ : Rel} {Fr : Led} {h' : Heap} {t' : Nat} {a : Addr} {vs : List VV} {r : List Int} {m : Nat} {env : Env} {pv : Led} {l : Loc} (inc : Inc B₀ B) (F : FS G B ((a, lst vs m) :: Fr) env pv l h') (i : IntsAre vs r) : Back G B₀ s Fr (RowP r) (.ok (.ret (.ref a))) (at_ s h' t') :=
  ⟨_, _, [], _, _, rfl, rfl, fun _ _ e => .inl (inc _ _ e), (F.frz .head).pub, rfl, a, vs, rfl, ⟨_, Badd.new, LO.of⟩, i⟩
theorem dequantise_spec (g : Gr w G) (R : Rm 4 A) {rw qw : Addr} {vs qs : List VV} {r q : List Int} (lr : LB B rw vs) (ir : IntsAre vs r) (lq : TB B qw qs) (iq : IntsAre qs q) (hl : r.length ≤ q.length) (hz : r.length ≤ 64) (hs : SmallI q) :
    Spec w G A (cal 181 [.ref rw, .ref qw]) B [] (RowP (deqI r q)) := by
  intro s h t Fr Hh
  refine enter (l := [("row", some (.ref rw)), ("qtable", some (.ref qw))]) g Hh k181 (by kernel_rfl) R.room (by rfl) (by kernel_rfl) (by decide +kernel) (by kernel_rfl) (by decide +kernel) (by kernel_rfl) (by kernel_rfl) (by kernel_rfl) (by kernel_rfl) ?_
  intro L h₁ t₁ F; simp only [List.nil_append] at F; refine wpAny_execs_cons ?_
  have hvs := ints_len ir
  repeat' walk_at "s"
  refine' r_ListComp (cl := _) ?cl (by rfl) (by decide +kernel) ?_ (by intro _; rfl)
  case cl => with_unfolding_all rfl
  repeat' walk_at "s"
  rename_i ra h2 t2' ta tc F2
  refine iter_rng1 R.hd F2.drop (F2.mem (.head _)) (n := vs.length) rfl (by walk_at "o") fun I oI h7 T F10 => ?_
  refine r_comp T F10 ?hk ?hc ?hn ?hgo [("place", none), ("row", some (.ref rw)), ("qtable", some (.ref qw))] ?hlc ?hnd
    (fun i B₂ led₂ l₂ cv => Ex1 fun ov => An4 (led₂ = Fr) (B₂ = B) (l₂ = ([("place", ov), ("row", some (.ref rw)), ("qtable", some (.ref qw))] : Loc)) (IntsAre cv ((List.range i).map fun (k : Nat) => r.getD k 0 * q.getD k 0))) ⟨none, rfl, rfl, rfl, .nil⟩ ?step ?fin
  case hk => rfl
  case hc => decide +kernel
  case hn => rw [sizeLine_eq]; walk_at "o"
  case hgo => exact .inl ⟨_, _, rfl⟩
  case hlc => walk_at "lc"
  case hnd => simp; decide
  case step =>
    rintro C i B₂ led₂ l₂ cs h₂ t₂ pv' v hi inc2 ⟨ov2, rfl, rfl, rfl, ei⟩ hlen ⟨ti, rfl⟩ F11
    delta TurnC
    clear inc2
    have e0 : (0 : Int) + (i : Int) * 1 = i := by walk_at "o"
    rw [e0]
    obtain ⟨u1, e1⟩ := ints_at ir i (by walk_at "o")
    obtain ⟨u2, e2⟩ := ints_at iq i (by walk_at "o")
    have e1' : vs[((i : Nat) : Int).toNat]? = some (.int (r.getD i 0) u1) := by simpa using e1
    have e2' : qs[((i : Nat) : Int).toNat]? = some (.int (q.getD i 0) u2) := by simpa using e2
    have hsi : (q.getD i 0).natAbs < 18446744073709551616 := hs i
    repeat' walk_at "s"
    refine ⟨_, _, _, _, _, rfl, fun _ _ e => e, ⟨_, rfl, rfl, rfl, ?_⟩, by assumption⟩
    rw [range_snoc]
    exact ints_snoc ei
  case fin =>
    rintro Kq hKq D B₂ led₂ l₂ cs h₂ t₂ inc2 ⟨ov2, hl2, hB2, rfl, ei⟩ hlen F11
    first | refine hKq _ _ ?_ | refine hKq () _ ?_
    clear hKq Kq
    subst hl2 hB2
    clear inc2
    repeat' walk_at "s"
    rw [hvs] at ei
    exact row_back (fun _ _ e => e) (by assumption) ei
end
-- part LX9
section
variable {w : World} {A : Around} {E : VV → Shared → Prop} {s : Shared} {t : Nat} {G : Heap} {B : Rel} {led led' : Led} {env : Env} {pv : Led} {l : Loc} {h : Heap}
theorem r_assignL4 {a b c d : SS} {pa pb pc pd pos : Pos} {k : Nat} {r : Addr} {x y z u : VV} {Q : Unit → Shared → Prop} (hh : A.handled = none) (F : FS G B led env pv l h) (hl : Has B led r (LO [x, y, z, u]))
    (q : ∀ h', FS G B led env pv l h' → wpAny (model pw w) A (storeName env a x) (fun _ s₁ => wpAny (model pw w) A (storeName env b y) (fun _ s₂ => wpAny (model pw w) A (storeName env c z) (fun _ s₃ => wpAny (model pw w) A (storeName env d u) Q E s₃) E s₂) E s₁) E (at_ s h' t)) :
    wpAny (model pw w) A (assign (.Tuple [.Name a pa, .Name b pb, .Name c pc, .Name d pd] k pos) env (.ref r)) Q E (at_ s h t) := by
  rw [arm_assign_Tuple]
  refine wpAny_bind (wpAny_standAt ?_)
  unfold unpack
  have hn : (assignEach [.Name a pa, .Name b pb, .Name c pc, .Name d pd] env).length = ([x, y, z, u] : List VV).toArray.size := rfl
  rw [hn, show (assignEach [.Name a pa, .Name b pb, .Name c pc, .Name d pd] env).findIdx? (·.1) = none from rfl]
  refine wpAny_bind (wpAny_holding (kun_itemsOf (s := at_ s h t) hh (F.isL hl) fun h' e => ?_))
  have F' : FS G B led env pv l h' := F.keeps fun c o hc => e c o (Nat.ne_of_lt (Heap.lt_size hc)) hc
  show wpAny _ _ (assignInOrder [assign (.Name a pa) env, assign (.Name b pb) env, assign (.Name c pc) env, assign (.Name d pd) env] [x, y, z, u]) _ _ _
  refine assignInOrder_cons (wpAny_assign_Name (wpAny_mono (q h' F') (fun _ s₁ q₁ => assignInOrder_cons (wpAny_assign_Name (wpAny_mono q₁ (fun _ s₂ q₂ => assignInOrder_cons (wpAny_assign_Name (wpAny_mono q₂ (fun _ s₃ q₃ =>
    assignInOrder_cons (wpAny_assign_Name (wpAny_mono q₃ (fun _ _ q₄ => assignInOrder_nil q₄) fun _ _ e => e))) fun _ _ e => e))) fun _ _ e => e))) fun _ _ e => e))
end
theorem ints1 {vs : List VV} {a : Int} (i : IntsAre vs [a]) : ∃ t, vs = [.int a t] := by
  cases i with | cons _ t r => cases r; exact ⟨t, rfl⟩
theorem ints4 {vs : List VV} {a b c d : Int} (i : IntsAre vs [a, b, c, d]) : ∃ t1 t2 t3 t4, vs = [.int a t1, .int b t2, .int c t3, .int d t4] := by
  cases i with | cons _ t1 r =>
    cases r with | cons _ t2 r =>
      cases r with | cons _ t3 r =>
        cases r with | cons _ t4 r => cases r; exact ⟨t1, t2, t3, t4, rfl⟩
-- part LF12
section
variable {w : World} {A : Around} {G : Heap} {B : Rel}
theorem one_inverse_spec (g : Gr w G) (R : Rm 4 A) {sf rw : Addr} {vs : List VV} {a : Int} (lr : LB B rw vs) (ir : IntsAre vs [a]) : Spec w G A (cal 332 [.ref sf, .ref rw]) B [] (RowP [a]) := by
  intro s h t Fr Hh
  refine enter (l := [("self", some (.ref sf)), ("block", some (.ref rw))]) g Hh k332 (by kernel_rfl) R.room (by rfl) (by kernel_rfl) (by decide +kernel) (by kernel_rfl) (by decide +kernel) (by kernel_rfl) (by kernel_rfl) (by kernel_rfl) (by kernel_rfl) ?_
  intro L h₁ t₁ F; simp only [List.nil_append] at F; refine wpAny_execs_cons ?_
  obtain ⟨u1, rfl⟩ := ints1 ir
  repeat' walk_at "s"
  exact row_back (fun _ _ e => e) (by assumption) (.cons _ _ .nil)
theorem sums_spec (g : Gr w G) (R : Rm 4 A) {sf rw : Addr} {vs : List VV} {a b c d : Int} (lr : LB B rw vs) (ir : IntsAre vs [a, b, c, d]) : Spec w G A (cal 304 [.ref sf, .ref rw]) B [] (RowP [a + b + c + d, a - b + c - d, a + b - c - d, a - b - c + d]) := by
  intro s h t Fr Hh
  refine enter (l := [("self", some (.ref sf)), ("block", some (.ref rw)), ("a", none), ("b", none), ("c", none), ("d", none)]) g Hh k304 (by kernel_rfl) R.room (by rfl) (by kernel_rfl) (by decide +kernel) (by kernel_rfl) (by decide +kernel) (by kernel_rfl) (by kernel_rfl) (by kernel_rfl) (by kernel_rfl) ?_
  intro L h₁ t₁ F; simp only [List.nil_append] at F; refine wpAny_execs_cons ?_
  obtain ⟨u1, u2, u3, u4, rfl⟩ := ints4 ir
  repeat' walk_at "s"
  refine r_assignL4 R.hd (by assumption) (Has.lb lr) fun _ _ => ?_
  repeat' walk_at "s"
  exact row_back (fun _ _ e => e) (by assumption) (.cons _ _ (.cons _ _ (.cons _ _ (.cons _ _ .nil))))
end
-- part LF13
section
variable {w : World} {A : Around} {G : Heap} {B : Rel}
theorem two_inverse_spec (g : Gr w G) (R : Rm 6 A) {sf rw : Addr} {vs : List VV} {a b c d : Int} (is : IB B sf 307 []) (lr : LB B rw vs) (ir : IntsAre vs [a, b, c, d]) : Spec w G A (cal 297 [.ref sf, .ref rw]) B [] (RowP ([a + b + c + d, a - b + c - d, a + b - c - d, a - b - c + d].map fun x => (x + 1).fdiv 2)) := by
  intro s h t Fr Hh
  refine enter (l := [("self", some (.ref sf)), ("block", some (.ref rw))]) g Hh k297 (by kernel_rfl) R.room (by rfl) (by kernel_rfl) (by decide +kernel) (by kernel_rfl) (by decide +kernel) (by kernel_rfl) (by kernel_rfl) (by kernel_rfl) (by kernel_rfl) ?_
  intro L h₁ t₁ F; simp only [List.nil_append] at F; refine wpAny_execs_cons ?_
  repeat' walk_at "s"
  refine' r_ListComp (cl := _) ?cl (by rfl) (by decide +kernel) ?_ (by intro _; rfl)
  case cl => with_unfolding_all rfl
  repeat' walk_at "s"
  refine r_call (used := []) (by assumption) (sums_spec g (Rm.less (R.deeper _) (by decide)) lr ir) ?_
  rintro Kq hKq v B₁ u₁ h₂ t₂ inc ⟨rfl, q, qs, rfl, lq, iq⟩ F1
  first | refine hKq _ _ ?_ | refine hKq () _ ?_
  clear hKq Kq
  simp only [List.nil_append] at F1
  generalize hxs : [a + b + c + d, a - b + c - d, a + b - c - d, a - b - c + d] = xs at iq
  have hxl : xs.length = 4 := by rw [← hxs]; rfl
  have hql := ints_len iq
  refine r_iter_list R.hd F1 lq fun I oI h7 T F10 => ?_
  refine r_comp T F10 ?hk ?hc ?hn ?hgo [("number", none)] ?hlc ?hnd
    (fun i B₂ led₂ l₂ cv => Ex1 fun ov => An4 (led₂ = Fr) (B₂ = B₁) (l₂ = ([("number", ov)] : Loc)) (IntsAre cv ((xs.take i).map fun x => (x + 1).fdiv 2))) ⟨none, rfl, rfl, rfl, .nil⟩ ?step ?fin
  case hk => rfl
  case hc => decide +kernel
  case hn => rw [sizeLine_eq]; walk_at "o"
  case hgo => exact .inl ⟨_, _, rfl⟩
  case hlc => walk_at "lc"
  case hnd => simp
  case step =>
    rintro C i B₂ led₂ l₂ cs h₃ t₃ pv' v hi inc2 ⟨ov2, hl2, hB2, rfl, ei⟩ hlen hv F11
    delta TurnC
    subst hl2 hB2
    clear inc2
    have hi' : i < xs.length := by walk_at "o"
    obtain ⟨u1, e1⟩ := ints_at iq i hi'
    obtain rfl : v = .int (xs.getD i 0) u1 := by have := hv.symm.trans e1; cases this; rfl
    repeat' walk_at "s"
    refine ⟨_, _, _, _, _, rfl, fun _ _ e => e, ⟨_, rfl, rfl, rfl, ?_⟩, by assumption⟩
    have : xs.take (i + 1) = xs.take i ++ [xs.getD i 0] := by
      rw [List.take_add_one, List.getElem?_eq_getElem hi']; simp [List.getD, hi']
    rw [this, List.map_append]
    exact ints_snoc ei
  case fin =>
    rintro Kq hKq D B₂ led₂ l₂ cs h₃ t₃ inc2 ⟨ov2, hl2, hB2, rfl, ei⟩ hlen F11
    first | refine hKq _ _ ?_ | refine hKq () _ ?_
    clear hKq Kq
    subst hl2 hB2
    clear inc2
    have et : xs.take qs.length = xs := by rw [hql]; exact List.take_length
    rw [et] at ei
    repeat' walk_at "s"
    exact row_back inc (by assumption) ei
end
-- part LF14
section
variable {w : World} {A : Around} {G : Heap} {B : Rel}
theorem make0_spec {C : Addr} (g : Gr w G) (hm : makesIn (Kf pw w.params) C = true) (hi : findIn (Kf pw w.params) (.ref C) "__init__" = some (some (.builtin "object.__init__"))) : Spec w G A (.call (.ref C) ⟨[], []⟩) B [] (InstP C []) := by
  intro s h t Fr H
  have X : (Kf pw w.params).In h := g.k.keeps H.sub
  have Y := makes_of (M := model pw w) X hm
  have H1 := (H.alloc (o := emptyDict) rfl).alloc (o := instObj C h.objs.size) rfl
  rw [Heap.size_push] at H1
  refine make_core Y (looks_findIn X hi) (fun self => Looks.of_pure (oi_bind self)) (.inr ⟨rfl, rfl⟩) ?_
  have e1 := H1.mem _ (.head _)
  have t1 : Looks (model pw w) ((h.push emptyDict).push (instObj C h.objs.size)) (typeOf (.ref (h.objs.size + 1))) (.ref C) := (Looks.ld e1).andThen .now
  have t2 : Looks (model pw w) ((h.push emptyDict).push (instObj C h.objs.size)) (isInstance (.ref (h.objs.size + 1)) (.type "object")) true := t1.andThen (Y.top.keeps fun b o e => Heap.get?_push_of_some _ (Heap.get?_push_of_some _ e))
  refine codeAny_call_builtin oi_plain entry_oi (@check_slot (model pw w) _ _ _ "object.__init__" "object" "__init__" (.ref (h.objs.size + 1)) [] [] _ oi_kind oi_split t2 (oi_args (.ref (h.objs.size + 1))) ?_)
  rw [oi_run]
  have e0 : DictF [] emptyDict := ⟨#[], 0, rfl, fun e he => by simp at he, Nat.le_refl _, fun n => rfl⟩
  exact wpAny_pure (And.intro rfl ⟨_, Badd (Badd B (h.objs.size + 1) (instObj C h.objs.size)) h.objs.size emptyDict, [], _, _, rfl, rfl, fun a o e => .inl (.inl e), H1.freeze.freeze, rfl, _, rfl, h.objs.size, emptyDict, .inl (.inr ⟨rfl, rfl⟩), .inr ⟨rfl, rfl⟩, e0⟩)
theorem picked_spec (g : Gr w G) (R : Rm 4 A) {n : Int} {tn : Tok} (hn : n = 1 ∨ n = 2) : Spec w G A (cal 346 [.int n tn]) B [] (InstP (if n = 2 then 307 else 335) []) := by
  intro s h t Fr Hh
  refine enter (l := [("n", some (.int n tn))]) g Hh k346 (by kernel_rfl) R.room (by rfl) (by kernel_rfl) (by decide +kernel) (by kernel_rfl) (by decide +kernel) (by kernel_rfl) (by kernel_rfl) (by kernel_rfl) (by kernel_rfl) ?_
  intro L h₁ t₁ F; simp only [List.nil_append] at F; refine wpAny_execs_cons ?_
  repeat' walk_at "s"
  all_goals try walk_at "o"
  · refine r_call (used := []) (by assumption) (make0_spec (C := 307) g (by kernel_rfl) (by kernel_rfl)) ?_
    rintro Kq hKq v B₁ u₁ h₂ t₂ inc ⟨rfl, x, rfl, ib⟩ F1
    first | refine hKq _ _ ?_ | refine hKq () _ ?_
    clear hKq Kq
    refine ⟨_, _, [], _, _, rfl, rfl, inc, F1.pub, rfl, x, rfl, ?_⟩
    rw [if_pos (by assumption)]; exact ib
  · refine r_call (used := []) (by assumption) (make0_spec (C := 335) g (by kernel_rfl) (by kernel_rfl)) ?_
    rintro Kq hKq v B₁ u₁ h₂ t₂ inc ⟨rfl, x, rfl, ib⟩ F1
    first | refine hKq _ _ ?_ | refine hKq () _ ?_
    clear hKq Kq
    refine ⟨_, _, [], _, _, rfl, rfl, inc, F1.pub, rfl, x, rfl, ?_⟩
    rw [if_neg (by assumption)]; exact ib
theorem inverse2_spec (g : Gr w G) (R : Rm 8 A) {rw : Addr} {vs : List VV} {a b c d : Int} {tn : Tok} (lr : LB B rw vs) (ir : IntsAre vs [a, b, c, d]) : Spec w G A (cal 353 [.ref rw, .int 2 tn]) B [] (RowP ([a + b + c + d, a - b + c - d, a + b - c - d, a - b - c + d].map fun x => (x + 1).fdiv 2)) := by
  intro s h t Fr Hh
  refine enter (l := [("block", some (.ref rw)), ("n", some (.int 2 tn))]) g Hh k353 (by kernel_rfl) R.room (by rfl) (by kernel_rfl) (by decide +kernel) (by kernel_rfl) (by decide +kernel) (by kernel_rfl) (by kernel_rfl) (by kernel_rfl) (by kernel_rfl) ?_
  intro L h₁ t₁ F; simp only [List.nil_append] at F; refine wpAny_execs_cons ?_
  repeat' walk_at "s"
  refine r_call (used := []) (by assumption) (picked_spec g (Rm.less (R.deeper _) (by decide)) (.inr rfl)) ?_
  rintro Kq hKq v B₁ u₁ h₂ t₂ inc ⟨rfl, x, rfl, ib⟩ F1
  first | refine hKq _ _ ?_ | refine hKq () _ ?_
  clear hKq Kq
  simp only [List.nil_append, if_true] at F1 ib
  have lr1 := lr.up inc
  repeat' walk_at "s"
  refine r_call (used := []) (by assumption) (two_inverse_spec g (Rm.less (R.deeper _) (by decide)) ib lr1 ir) ?_
  rintro Kq hKq v B₂ u₂ h₃ t₃ inc2 ⟨rfl, rv⟩ F2
  first | refine hKq _ _ ?_ | refine hKq () _ ?_
  clear hKq Kq
  exact ⟨_, _, [], _, _, rfl, rfl, fun a o e => inc2 _ _ (inc _ _ e), F2.pub, rfl, rv⟩
theorem inverse1_spec (g : Gr w G) (R : Rm 8 A) {rw : Addr} {vs : List VV} {a : Int} {tn : Tok} (lr : LB B rw vs) (ir : IntsAre vs [a]) : Spec w G A (cal 353 [.ref rw, .int 1 tn]) B [] (RowP [a]) := by
  intro s h t Fr Hh
  refine enter (l := [("block", some (.ref rw)), ("n", some (.int 1 tn))]) g Hh k353 (by kernel_rfl) R.room (by rfl) (by kernel_rfl) (by decide +kernel) (by kernel_rfl) (by decide +kernel) (by kernel_rfl) (by kernel_rfl) (by kernel_rfl) (by kernel_rfl) ?_
  intro L h₁ t₁ F; simp only [List.nil_append] at F; refine wpAny_execs_cons ?_
  repeat' walk_at "s"
  refine r_call (used := []) (by assumption) (picked_spec g (Rm.less (R.deeper _) (by decide)) (.inl rfl)) ?_
  rintro Kq hKq v B₁ u₁ h₂ t₂ inc ⟨rfl, x, rfl, ib⟩ F1
  first | refine hKq _ _ ?_ | refine hKq () _ ?_
  clear hKq Kq
  rw [if_neg (by decide)] at ib
  have lr1 := lr.up inc
  repeat' walk_at "s"
  refine r_call (used := []) (by assumption) (one_inverse_spec g (Rm.less (R.deeper _) (by decide)) lr1 ir) ?_
  rintro Kq hKq v B₂ u₂ h₃ t₃ inc2 ⟨rfl, rv⟩ F2
  first | refine hKq _ _ ?_ | refine hKq () _ ?_
  clear hKq Kq
  exact ⟨_, _, [], _, _, rfl, rfl, fun a o e => inc2 _ _ (inc _ _ e), F2.pub, rfl, rv⟩
end
-- part LX10
section
variable {w : World} {A : Around} {E : VV → Shared → Prop} {s : Shared} {t : Nat} {G : Heap} {B : Rel} {led led' : Led} {env : Env} {pv : Led} {l : Loc} {h : Heap} {Q : VV → Shared → Prop}
theorem r_mul_list {a : Addr} {v : VV} {n : Nat} {x : Int} {u : Tok} (F : FS G B led env pv l h) (hm : h.get? a = some (lst [v] n)) (h0 : 0 ≤ x) (h1 : x < 1000) (q : ∀ D h', FS G B ((D, lst (List.replicate x.toNat v)) :: led) env pv l h' → Q (.ref D) (at_ s h' t)) :
    wpAny (model pw w) A (binaryOp .Mult (.ref a) (.int x u)) Q E (at_ s h t) := by
  have e : List.foldl (fun x1 x2 => x1 ++ x2) #[] (List.replicate (if (#[v] : Array VV).isEmpty = true then 0 else x.toNat) #[v]) = (List.replicate x.toNat v).toArray := by
    have : (#[v] : Array VV).isEmpty = false := rfl
    rw [this, if_neg (by decide)]
    have key : ∀ (k : Nat) (acc : Array VV), List.foldl (fun x1 x2 => x1 ++ x2) acc (List.replicate k #[v]) = acc ++ (List.replicate k v).toArray := by
      intro k
      induction k with
      | zero => intro acc; simp
      | succ k ih => intro acc; rw [List.replicate_succ, List.foldl_cons, ih, List.replicate_succ]; apply Array.toList_inj.mp; simp
    rw [key]; simp
  have q' := q h.objs.size (h.push (lst (List.replicate x.toNat v))) (F.alloc rfl)
  refine wpAny_binaryOp_repeat_ref (s := at_ s h t) (T := "list") (U := "int") (by decide) ⟨_, hm, rfl⟩ (fun s' => typeIs_int s' x u) noFill_list_mul PySem.F.fills_int_mul PySem.F.slot_int_rmul repeat_list PySem.F.slot_int_index.lookup ?_
  refine call_meets PySem.F.slot_int_rmul (typeIs_int (at_ s h t) x u) PySem.F.entry_int_rmul (PySem.F.args_int_rmul_2 _ _) (int___rmul___int_list x u a #[v] n) ⟨hm, rfl, ⟨_, hm, rfl⟩, ?_⟩
  refine call_meets PySem.F.slot_list_mul ⟨_, hm, rfl⟩ PySem.F.entry_list_mul (PySem.F.args_list_mul_2 _ _) (AutoListH.list___mul___list_int_3 a #[v] n x u (by simp [Builtin.List.listFitsIndex]; (first | lia | omega)) (by first | (first | lia | omega) | (have : (#[v] : Array VV).size = 1 := rfl; simp only [this]; (first | lia | omega)) | (simp; (first | lia | omega))) (by simp [Builtin.List.listTooLong, sizeLine]; (first | lia | omega))) ⟨hm, ?_⟩
  rw [e]; exact q'
end
-- part LF15
/-- rows that may still change: one ledger entry each -/
noncomputable def MRows (d : List (List Int)) (rv : List VV) (u : Led) : Prop := rv.length = d.length ∧ u.length = d.length ∧ ∀ (k : Nat) (row : List Int), d[k]? = some row → ∃ a o vs, rv[k]? = some (.ref a) ∧ u[k]? = some (a, o) ∧ LO vs o ∧ IntsAre vs row
theorem MRows.nil : MRows [] [] [] := ⟨rfl, rfl, fun k row h => by simp at h⟩
theorem snoc_get {α : Type} {xs : List α} {x : α} {k : Nat} {y : α} (h : (xs ++ [x])[k]? = some y) : (k < xs.length ∧ xs[k]? = some y) ∨ (k = xs.length ∧ y = x) := by
  rcases Nat.lt_or_ge k xs.length with c | c
  · rw [List.getElem?_append_left c] at h; exact .inl ⟨c, h⟩
  · rw [List.getElem?_append_right c] at h
    have hk : k = xs.length := by
      rcases Nat.lt_or_ge xs.length k with c' | c'
      · rw [List.getElem?_eq_none (by simp; walk_at "o")] at h; cases h
      · walk_at "o"
    subst hk
    simp at h
    exact .inr ⟨rfl, h.symm⟩
theorem MRows.snoc {d : List (List Int)} {rv : List VV} {u : Led} {row : List Int} {a : Addr} {o : Obj} {vs : List VV} (m : MRows d rv u) (lo : LO vs o) (i : IntsAre vs row) : MRows (d ++ [row]) (rv ++ [.ref a]) (u ++ [(a, o)]) := by
  obtain ⟨m1, m2, m3⟩ := m
  refine ⟨by simp [m1], by simp [m2], fun k r hr => ?_⟩
  rcases snoc_get hr with ⟨c, e⟩ | ⟨rfl, rfl⟩
  · obtain ⟨a', o', vs', e1, e2, e3, e4⟩ := m3 k r e
    exact ⟨a', o', vs', by rw [List.getElem?_append_left (by walk_at "o")]; exact e1, by rw [List.getElem?_append_left (by walk_at "o")]; exact e2, e3, e4⟩
  · exact ⟨a, o, vs, by rw [← m1]; simp, by rw [← m2]; simp, lo, i⟩
/-- a plane whose rows may still change -/
noncomputable def MPlane (B : Rel) (W H : Int) (d : List (List Int)) (x : Addr) (u : Led) : Prop := Ex4 fun r rv t1 t2 => An5 (IB B x 110 [("rows", some (.ref r)), ("height", some (.int H t1)), ("width", some (.int W t2))]) (LB B r rv) (MRows d rv u) ((d.length : Int) = H) (∀ row ∈ d, (row.length : Int) = W)
theorem ints_rep (n : Nat) (i : Int) (t : Tok) : IntsAre (List.replicate n (.int i t)) (List.replicate n i) := by
  induction n with
  | zero => exact .nil
  | succ n ih => rw [List.replicate_succ, List.replicate_succ]; exact .cons _ _ ih
section
variable {w : World} {A : Around} {G : Heap} {B : Rel}
theorem blank_spec (g : Gr w G) (R : Rm 8 A) {W H : Int} {nW nH : Nat} (eW : W = nW) (eH : H = nH) (zW : nW < 100) (zH : nH < 100) {t1 t2 t3 : Tok} :
    Spec w G A (cal 171 [.int W t1, .int H t2, .int 0 t3]) B [] (fun v B' u' => ∃ x, v = .ref x ∧ MPlane B' W H (List.replicate nH (List.replicate nW 0)) x u') := by
  intro s h t Fr Hh
  refine enter (l := [("width", some (.int W t1)), ("height", some (.int H t2)), ("value", some (.int 0 t3))]) g Hh k171 (by kernel_rfl) R.room (by rfl) (by kernel_rfl) (by decide +kernel) (by kernel_rfl) (by decide +kernel) (by kernel_rfl) (by kernel_rfl) (by kernel_rfl) (by kernel_rfl) ?_
  intro L h₁ t₁ F; simp only [List.nil_append] at F; refine wpAny_execs_cons ?_
  repeat' walk_at "s"
  refine' r_ListComp (cl := _) ?cl (by rfl) (by decide +kernel) ?_ (by intro _; rfl)
  case cl => with_unfolding_all rfl
  repeat' walk_at "s"
  rename_i ra h2 t2' ta tc F2
  refine iter_rng1 R.hd F2.drop (F2.mem (.head _)) eH (by walk_at "o") fun I oI h7 T F10 => ?_
  refine r_comp T F10 ?hk ?hc ?hn ?hgo [("y", none), ("value", some (.int 0 t3)), ("width", some (.int W t1))] ?hlc ?hnd
    (fun i B₂ led₂ l₂ cv => Ex2 fun ov u => An4 (led₂ = u.reverse ++ Fr) (B₂ = B) (l₂ = ([("y", ov), ("value", some (.int 0 t3)), ("width", some (.int W t1))] : Loc)) (MRows (List.replicate i (List.replicate nW 0)) cv u)) ⟨none, [], rfl, rfl, rfl, MRows.nil⟩ ?step ?fin
  case hk => rfl
  case hc => decide +kernel
  case hn => rw [sizeLine_eq]; walk_at "o"
  case hgo => exact .inl ⟨_, _, rfl⟩
  case hlc => walk_at "lc"
  case hnd => simp; decide
  case step =>
    rintro C i B₂ led₂ l₂ cs h₃ t₃ pv' v hi inc2 ⟨ov2, u, hl2, hB2, rfl, mr⟩ hlen ⟨ti, rfl⟩ F11
    delta TurnC
    subst hl2 hB2
    clear inc2
    repeat' walk_at "s"
    rename_i tl h8 F12
    refine r_mul_list F12 (F12.mem (.head _)) (by walk_at "o") (by walk_at "o") fun E2 h9 F13 => ?_
    have eW' : W.toNat = nW := by walk_at "o"
    rw [eW'] at F13
    have F14 := FS.sublist (led' := (u ++ [(E2, lst (List.replicate nW (Value.int 0 t3)))]).reverse ++ Fr) F13 (by
      rw [List.reverse_append]; exact List.Sublist.cons_cons _ (List.sublist_cons_self _ _))
    refine ⟨_, _, _, _, _, rfl, fun _ _ e => e, ⟨_, _, rfl, rfl, rfl, ?_⟩, F14⟩
    rw [List.replicate_succ']
    exact mr.snoc LO.of (ints_rep _ _ _)
  case fin =>
    rintro Kq hKq D B₂ led₂ l₂ cs h₃ t₃ inc2 ⟨ov2, u, hl2, hB2, rfl, mr⟩ hlen F11
    first | refine hKq _ _ ?_ | refine hKq () _ ?_
    clear hKq Kq
    subst hl2 hB2
    clear inc2
    have F12 := F11.frz .head
    repeat' walk_at "s"
    refine r_call (used := []) F12 (plane_make g (Rm.less (R.deeper _) (by decide))) ?_
    rintro Kq hKq v B₁ u₁ h₄ t₄ inc ⟨rfl, x, rfl, ib⟩ F13
    first | refine hKq _ _ ?_ | refine hKq () _ ?_
    clear hKq Kq
    rw [List.nil_append] at F13
    have F14 : FS G B₁ (u ++ Fr) _ _ _ h₄ := F13.perm (List.Perm.append_right Fr (List.reverse_perm u))
    have lb := LB.up (B := Badd B₂ D (lst cs nH)) (a := D) (vs := cs) ⟨_, Badd.new, LO.of⟩ inc
    refine ⟨_, _, u, _, _, rfl, rfl, fun a o e => inc _ _ (.inl e), F14.pub, x, rfl, D, cs, _, _, ib, lb, mr, by simp [eH], ?_⟩
    intro row hrow
    have := List.eq_of_mem_replicate hrow
    subst this
    simp [eW]
end
-- part LF16
theorem swap_set {a : Addr} {o : Obj} (o' : Obj) : ∀ {u rest : Led} {k : Nat}, u[k]? = some (a, o) → Swap a o o' (u ++ rest) (u.set k (a, o') ++ rest)
  | [], _, _, h => by simp at h
  | p :: u, rest, 0, h => by simp at h; subst h; exact Swap.head
  | p :: u, rest, k + 1, h => by
    simp at h
    exact Swap.tail (swap_set o' h)
theorem ints_set : ∀ {vs : List VV} {ns : List Int} (_ : IntsAre vs ns) (k : Nat) (i : Int) (t : Tok), IntsAre (vs.set k (.int i t)) (ns.set k i)
  | _, _, .nil, _, _, _ => .nil
  | _, _, .cons n t r, 0, i, u => .cons _ _ r
  | _, _, .cons n t r, k + 1, i, u => .cons _ _ (ints_set r k i u)
theorem MRows.set {d : List (List Int)} {rv : List VV} {u : Led} (m : MRows d rv u) {k : Nat} {a : Addr} {o' : Obj} {vs : List VV} {row : List Int} (hk : k < d.length) (hv : rv[k]? = some (.ref a)) (lo : LO vs o') (i : IntsAre vs row) : MRows (d.set k row) rv (u.set k (a, o')) := by
  obtain ⟨m1, m2, m3⟩ := m
  refine ⟨by simp [m1], by simp [m2], fun j r hr => ?_⟩
  by_cases e : k = j
  · subst e
    have : (d.set k row)[k]? = some row := by simp [hk]
    rw [this] at hr; cases hr
    exact ⟨a, o', vs, hv, by simp [m2, hk], lo, i⟩
  · rw [List.getElem?_set_ne e] at hr
    obtain ⟨a', o2, vs2, e1, e2, e3, e4⟩ := m3 j r hr
    exact ⟨a', o2, vs2, e1, by rw [List.getElem?_set_ne e]; exact e2, e3, e4⟩
noncomputable def setD (d : List (List Int)) (r c : Nat) (v : Int) : List (List Int) := d.set r ((d.getD r []).set c v)
noncomputable def putRow (d : List (List Int)) (r x0 : Nat) (f : Nat → Int) (m : Nat) : List (List Int) := (List.range m).foldl (fun d p => setD d r (x0 + p) (f p)) d
noncomputable def putB (d : List (List Int)) (x0 y0 : Nat) (f : Nat → Nat → Int) (m n : Nat) : List (List Int) := (List.range n).foldl (fun d r => putRow d (y0 + r) x0 (f r) m) d
theorem setD_dims {d : List (List Int)} {r c : Nat} {v : Int} {W : Int} (h : ∀ row ∈ d, (row.length : Int) = W) (hr : r < d.length) : (setD d r c v).length = d.length ∧ ∀ row ∈ setD d r c v, (row.length : Int) = W := by
  refine ⟨by simp [setD], fun row hrow => ?_⟩
  unfold setD at hrow
  rcases List.mem_or_eq_of_mem_set hrow with h1 | h1
  · exact h _ h1
  · subst h1
    rw [List.length_set]
    refine h _ ?_
    have : d.getD r [] = d[r] := by simp [List.getD, hr]
    rw [this]; exact List.getElem_mem hr
noncomputable def cutI (n m : Int) : Int := if m < n then m else n
section
variable {w : World} {A : Around} {G : Heap} {B : Rel}
theorem put_block_spec (g : Gr w G) (R : Rm 6 A) {W H : Int} {d : List (List Int)} {x : Addr} {u : Led} (mp : MPlane B W H d x u) {bk : Addr} {bs : List VV} {bl : List Int} (lb : LB B bk bs) (ib : IntsAre bs bl) {X Y n : Nat} (hn : n = 1 ∨ n = 2) (hbl : bl.length = n * n)
    (hX : (X : Int) * n < W) (hY : (Y : Int) * n < H) (hW : W < 100) (hH : H < 100) {mW mH : Nat} (eW : cutI n (W - X * n) = mW) (eH : cutI n (H - Y * n) = mH) {t1 t2 t3 t4 t5 : Tok} :
    Spec w G A (cal 28 [.ref x, .int X t1, .int Y t2, .ref bk, .int n t3, .int 128 t4, .int 255 t5]) B u (fun v B' u' => B' = B ∧ v = .none ∧ MPlane B W H (putB d (X * n) (Y * n) (fun r p => clampI (bl.getD (r * n + p) 0 + 128) 255) mW mH) x u') := by
  intro s h t Fr Hh
  refine enter (l := [("plane", some (.ref x)), ("x", some (.int X t1)), ("y", some (.int Y t2)), ("block", some (.ref bk)), ("n", some (.int n t3)), ("centre", some (.int 128 t4)), ("most", some (.int 255 t5)), ("wide", none), ("row", none), ("told", none), ("place", none)]) g Hh k28 (by kernel_rfl) R.room (by rfl) (by kernel_rfl) (by decide +kernel) (by kernel_rfl) (by decide +kernel) (by kernel_rfl) (by kernel_rfl) (by kernel_rfl) (by kernel_rfl) ?_
  intro L h₁ t₁ F; refine wpAny_execs_cons ?_
  obtain ⟨r, rv, p1, p2, ipl, lrv, mr, dl, dw⟩ := mp
  repeat' walk_at "s"
  have eW' : (if W - (X : Int) * n < n then W - (X : Int) * n else (n : Int)) = mW := eW
  have eH' : (if H - (Y : Int) * n < n then H - (Y : Int) * n else (n : Int)) = mH := eH
  have bW : (mW : Int) ≤ n ∧ (X : Int) * n + mW ≤ W := by rw [← eW']; split <;> walk_at "o"
  have bH : (mH : Int) ≤ n ∧ (Y : Int) * n + mH ≤ H := by rw [← eH']; split <;> walk_at "o"
  rename_i tw _ _ _ h3 t3' F3
  rw [eW'] at F3
  refine wpAny_For ?_ (by intro _; rfl)
  repeat' walk_at "s"
  rename_i th h4 t4' ra h5 t5' ta tc F5
  rw [eH'] at F5
  refine for_rng1 (n := mH) R.hd F5.drop (F5.mem (.head _)) rfl (by walk_at "o") (fun i B₁ led₁ l₁ => Ex4 fun u₁ o1 o2 o3 => An6 (B₁ = B) (led₁ = u₁ ++ Fr) (l₁ = ([("plane", some (.ref x)), ("x", some (.int X t1)), ("y", some (.int Y t2)), ("block", some (.ref bk)), ("n", some (.int n t3)), ("centre", some (.int 128 t4)), ("most", some (.int 255 t5)), ("wide", some (.int mW tw)), ("row", o1), ("told", o2), ("place", o3)] : Loc)) (MRows (putB d (X * n) (Y * n) (fun r p => clampI (bl.getD (r * n + p) 0 + 128) 255) mW i) rv u₁) ((putB d (X * n) (Y * n) (fun r p => clampI (bl.getD (r * n + p) 0 + 128) 255) mW i).length = d.length) (∀ row ∈ putB d (X * n) (Y * n) (fun r p => clampI (bl.getD (r * n + p) 0 + 128) 255) mW i, (row.length : Int) = W)) ⟨u, none, none, none, rfl, rfl, rfl, mr, rfl, dw⟩ ?step ?fin
  case step =>
    rintro i B₁ led₁ l₁ h₆ t₆ pv' uu hi inc ⟨u₁, o1, o2, o3, rfl, rfl, rfl, mr1, dl1, dw1⟩ F6
    delta Turn
    clear inc
    have eY : ((Y * n : Nat) : Int) = (Y : Int) * n := Int.natCast_mul _ _
    have eX : ((X * n : Nat) : Int) = (X : Int) * n := Int.natCast_mul _ _
    generalize hd1 : putB d (X * n) (Y * n) (fun r p => clampI (bl.getD (r * n + p) 0 + 128) 255) mW i = d1 at mr1 dl1 dw1
    have hk : Y * n + i < d1.length := by rw [dl1]; walk_at "o"
    obtain ⟨a, o, vs, q1, q2, q3, q4⟩ := mr1.2.2 _ _ (List.getElem?_eq_getElem hk)
    have q1' : rv[((Y : Int) * n + (i : Int)).toNat]? = some (.ref a) := by
      rw [show ((Y : Int) * n + (i : Int)).toNat = Y * n + i by walk_at "o"]; exact q1
    repeat' walk_at "s"
    refine wpAny_For ?_ (by intro _; rfl)
    repeat' walk_at "s"
    rename_i ra2 h8 t8 ta2 tc2 F8
    refine for_rng1 (n := mW) R.hd F8.drop (F8.mem (.head _)) rfl (by walk_at "o") (fun j B₂ led₂ l₂ => Ex2 fun u₂ o3 => An6 (B₂ = B₁) (led₂ = u₂ ++ Fr) (l₂ = ([("plane", some (.ref x)), ("x", some (.int X t1)), ("y", some (.int Y t2)), ("block", some (.ref bk)), ("n", some (.int n t3)), ("centre", some (.int 128 t4)), ("most", some (.int 255 t5)), ("wide", some (.int mW tw)), ("row", some (.int i uu)), ("told", some (.ref a)), ("place", o3)] : Loc)) (MRows (putRow d1 (Y * n + i) (X * n) (fun p => clampI (bl.getD (i * n + p) 0 + 128) 255) j) rv u₂) ((putRow d1 (Y * n + i) (X * n) (fun p => clampI (bl.getD (i * n + p) 0 + 128) 255) j).length = d1.length) (∀ row ∈ putRow d1 (Y * n + i) (X * n) (fun p => clampI (bl.getD (i * n + p) 0 + 128) 255) j, (row.length : Int) = W)) ⟨u₁, o3, rfl, rfl, rfl, mr1, rfl, dw1⟩ ?step2 ?fin2
    case step2 =>
      rintro j B₂ led₂ l₂ h₉ t₉ pv2 vv hj inc2 ⟨u₂, o4, rfl, rfl, rfl, mr2, dl2, dw2⟩ F9
      delta Turn
      clear inc2
      generalize hd2 : putRow d1 (Y * n + i) (X * n) (fun p => clampI (bl.getD (i * n + p) 0 + 128) 255) j = d2 at mr2 dl2 dw2
      have hk2 : Y * n + i < d2.length := by walk_at "o"
      obtain ⟨a2, o, vs, r1, r2, r3, r4⟩ := mr2.2.2 _ _ (List.getElem?_eq_getElem hk2)
      obtain rfl : a2 = a := by have := r1.symm.trans q1; cases this; rfl
      have hidx : i * n + j < bl.length := by rw [hbl]; exact idx12 hn (by walk_at "o") (by walk_at "o")
      obtain ⟨ub, eb⟩ := ints_at ib _ hidx
      have ei : ((i * n : Nat) : Int) = (i : Int) * n := Int.natCast_mul _ _
      have hz1 := mul12 hn (i := i) (by walk_at "o")
      have hz2 := mul12 hn (i := X) (by rcases hn with h | h <;> rw [h] at hX <;> walk_at "o")
      have eb' : bs[((i : Int) * n + (j : Int)).toNat]? = some (.int (bl.getD (i * n + j) 0) ub) := by
        rw [show ((i : Int) * n + (j : Int)).toNat = i * n + j by walk_at "o"]; exact eb
      repeat' walk_at "s"
      have hlen2 : vs.length = (d2[Y * n + i]).length := ints_len r4
      have hw2 := dw2 _ (List.getElem_mem hk2)
      refine r_setitemS (vs := vs) (by assumption) r3 (fun o' => swap_set o' r2) (by walk_at "o") (by walk_at "o") (by walk_at "o") ?_
      intro o' h10 lo F10
      repeat' walk_at "s"
      have ek : ((X : Int) * n + (j : Int)).toNat = X * n + j := by walk_at "o"
      rw [ek] at lo
      have es : putRow d1 (Y * n + i) (X * n) (fun p => clampI (bl.getD (i * n + p) 0 + 128) 255) (j + 1) = setD d2 (Y * n + i) (X * n + j) (clampI (bl.getD (i * n + j) 0 + 128) 255) := by
        rw [← hd2]; unfold putRow; rw [List.range_succ, List.foldl_append]; rfl
      have ds := setD_dims (r := Y * n + i) (c := X * n + j) (v := clampI (bl.getD (i * n + j) 0 + 128) 255) dw2 hk2
      refine ⟨_, _, _, _, _, rfl, fun _ _ e => e, ⟨u₂.set (Y * n + i) (a2, o'), _, rfl, rfl, rfl, ?_, ?_, ?_⟩, F10⟩
      · rw [es]
        unfold setD
        have eg : d2.getD (Y * n + i) [] = d2[Y * n + i] := by simp [List.getD, hk2]
        rw [eg]
        exact mr2.set hk2 r1 lo (ints_set r4 _ _ _)
      · rw [es, ds.1]; exact dl2
      · rw [es]; exact ds.2
    case fin2 =>
      rintro Kq hKq B₂ led₂ l₂ h₉ t₉ inc2 ⟨u₂, o4, rfl, rfl, rfl, mr2, dl2, dw2⟩ F9
      first | refine hKq _ _ ?_ | refine hKq () _ ?_
      clear hKq Kq
      clear inc2
      refine wpAny_execs_nil ?_
      have es : putB d (X * n) (Y * n) (fun r p => clampI (bl.getD (r * n + p) 0 + 128) 255) mW (i + 1) = putRow d1 (Y * n + i) (X * n) (fun p => clampI (bl.getD (i * n + p) 0 + 128) 255) mW := by
        rw [← hd1]; unfold putB; rw [List.range_succ, List.foldl_append]; rfl
      refine ⟨_, _, _, _, _, rfl, fun _ _ e => e, ⟨u₂, _, _, _, rfl, rfl, rfl, ?_, ?_, ?_⟩, F9⟩
      · rw [es]; exact mr2
      · rw [es, dl2]; exact dl1
      · rw [es]; exact dw2
  case fin =>
    rintro Kq hKq B₁ led₁ l₁ h₆ t₆ inc ⟨u₁, o1, o2, o3, rfl, rfl, rfl, mr1, dl1, dw1⟩ F6
    first | refine hKq _ _ ?_ | refine hKq () _ ?_
    clear hKq Kq
    refine wpAny_execs_nil ?_
    exact ⟨.none, B₁, u₁, _, _, rfl, rfl, fun _ _ e => e, F6.pub, rfl, rfl, r, rv, p1, p2, ipl, lrv, mr1, by rw [dl1]; exact dl, dw1⟩
end
-- part LX11
section
variable {w : World} {A : Around} {E : VV → Shared → Prop} {s : Shared} {t : Nat} {G : Heap} {B : Rel} {led led' : Led} {env : Env} {pv : Led} {l : Loc} {h : Heap} {a d : Addr} {o : Obj} {vs : List VV} {u : Tok} {Q : VV → Shared → Prop}
theorem r_list_of (F : FS G B led env pv l h) (hl : Has B led a (LO vs)) (hz : vs.length ≤ sizeLine) (q : ∀ D o' h', LO vs o' → FS G B ((D, o') :: led) env pv l h' → Q (.ref D) (at_ s h' t)) : wpAny (model pw w) A (call (.type "list") [.ref a]) Q E (at_ s h t) := by
  obtain ⟨o, e, c, n, dd⟩ := F.has hl
  refine call_list_seq (s := at_ s h t) a (.inl rfl) e c dd (fun h' c' k e' => ?_) (by simpa using hz)
  have F1 := (F.alloc (o := lst vs) rfl)
  refine q h.objs.size _ h' ⟨rfl, _, rfl⟩ (?_ : FS G B ((h.objs.size, ⟨.type "list", none, .seq vs.toArray c', #[]⟩) :: led) env pv l h')
  exact F1.mono2 (fun b ob hb eb => k _ _ ((Heap.get?_push_ne _ _ _ hb).symm.trans eb)) e'
theorem r_tuple_of (F : FS G B led env pv l h) (hl : Has B led a (LO vs)) (hz : vs.length ≤ sizeLine) (q : ∀ D h', FS G B ((D, tup vs) :: led) env pv l h' → Q (.ref D) (at_ s h' t)) : wpAny (model pw w) A (call (.type "tuple") [.ref a]) Q E (at_ s h t) := by
  refine call_tuple_list (s := at_ s h t) (F.isL hl) (fun h' k => ?_) (by simpa using hz)
  exact q _ _ ((F.keeps k).alloc (o := tup vs) rfl)
theorem r_newdict {ev : Env} {pos : Pos} (g : Gr w G) (F : FS G B led env pv l h) (q : ∀ D h', (D == sysModules) = false → FS G B ((D, emptyDict) :: led) env pv l h' → Q (.ref D) (at_ s h' t)) : wpAny (model pw w) A (eval (.Dict [] [] pos) ev) Q E (at_ s h t) := by
  rw [eval_Dict_empty]
  refine wpAny_bind (wpAny_standAt (wpAny_newObj_type (q _ _ ?_ (F.alloc rfl))))
  obtain ⟨mg, _, ⟨o, _, _, e, _⟩, _⟩ := g.top
  have h1 := Heap.lt_size (F.sub _ _ e)
  have h2 : sysModules < mainGlobals := by decide
  exact beq_eq_false_iff_ne.mpr (Nat.ne_of_gt (Nat.lt_trans h2 h1))
end

/-- dicts with pairs of ints as keys -/
noncomputable abbrev TK (w : World) : HeapKind pw w (List Int) := tupleKind (intKind pw w)
noncomputable def KeyB (B : Rel) (k : List Int) (a : Addr) : Prop := ∃ vs, TB B a vs ∧ IntsAre vs k
theorem KeyB.up {B B' : Rel} {k : List Int} {a : Addr} (x : KeyB B k a) (i : Inc B B') : KeyB B' k a := let ⟨vs, b, c⟩ := x; ⟨vs, b.up i, c⟩
theorem itemsAre_of {w : World} : ∀ {vs : List VV} {k : List Int}, IntsAre vs k → ItemsAre (intKind pw w) k vs
  | _, _, .nil => .nil
  | _, _, .cons n t r => .cons (by simp [intKind, Value.isInt]) (itemsAre_of r)
theorem KeyB.is {w : World} {B : Rel} {k : List Int} {a : Addr} {h : Heap} (x : KeyB B k a) (hb : ∀ a o, B a o → h.get? a = some o) : (TK w).is h k a := by
  obtain ⟨vs, ⟨o, b, c, n, d⟩, i⟩ := x
  exact ⟨o, vs.toArray, n, hb _ _ b, c, d, by simpa using itemsAre_of i⟩
noncomputable abbrev KV := List (List Int × Addr × VV)
noncomputable def DO (w : World) (B : Rel) (xs : KV) (o : Obj) : Prop := Ex2 fun es ep => An5 (o.ExactDict) (o.data = .dict es ep) (es.toList = xs.map (entryOfKey (TK w))) ((∀ x ∈ xs, KeyB B x.1 x.2.1)) ((xs.map (·.1)).Nodup)
theorem DO.up {w : World} {B B' : Rel} {xs : KV} {o : Obj} (x : DO w B xs o) (i : Inc B B') : DO w B' xs o := let ⟨es, ep, a, b, c, d, e⟩ := x; ⟨es, ep, a, b, c, fun y hy => (d y hy).up i, e⟩
theorem DO.empty {w : World} {B : Rel} : DO w B [] emptyDict := ⟨#[], 0, ⟨rfl, rfl, rfl⟩, rfl, rfl, fun _ hx => by simp at hx, List.nodup_nil⟩
theorem DO.at {w : World} {B : Rel} {xs : KV} {o : Obj} {h : Heap} {d : Addr} (x : DO w B xs o) (e : h.get? d = some o) (hb : ∀ a o, B a o → h.get? a = some o) : h.DictOfH (TK w) d xs :=
  let ⟨es, ep, a, b, c, f, g⟩ := x; ⟨o, es, ep, e, a, b, c, fun y hy => (f y hy).is hb, g⟩
theorem mem_putAt {xs : KV} {k : List Int} {a : Addr} {v : VV} {x : List Int × Addr × VV} (h : x ∈ storedH xs k a v) : (∃ v', (x.1, x.2.1, v') ∈ xs) ∨ (x.1 = k ∧ x.2.1 = a) := by
  unfold storedH at h
  split at h
  · obtain ⟨y, hy, rfl⟩ := List.mem_map.mp h
    left
    unfold putAt
    split
    · exact ⟨y.2.2, hy⟩
    · exact ⟨y.2.2, hy⟩
  · rcases List.mem_append.mp h with h | h
    · exact .inl ⟨x.2.2, h⟩
    · simp at h; subst h; exact .inr ⟨rfl, rfl⟩
noncomputable def DB (w : World) (B : Rel) (d : Addr) (xs : KV) : Prop := ∃ o, B d o ∧ DO w B xs o
theorem DB.up {w : World} {B B' : Rel} {d : Addr} {xs : KV} (x : DB w B d xs) (i : Inc B B') : DB w B' d xs := let ⟨o, a, b⟩ := x; ⟨o, i _ _ a, b.up i⟩
section
variable {w : World} {A : Around} {E : VV → Shared → Prop} {s : Shared} {t : Nat} {G : Heap} {B : Rel} {led led' : Led} {env : Env} {pv : Led} {l : Loc} {h : Heap} {a d : Addr} {o : Obj} {vs : List VV} {u : Tok} {Q : VV → Shared → Prop} {xs : KV} {k : List Int} {v : VV}
theorem Rm.in1 {n : Nat} (R : Rm (n + 1) A) : A.in1.units < cLine := by have := R.units; show A.units + 1 < _; (first | lia | omega)
theorem r_dset {Q : Unit → Shared → Prop} {n : Nat} (R : Rm (n + 1) A) (F : FS G B led env pv l h) (hm : (d, o) ∈ led) (D : DO w B xs o) (hk : KeyB B k a) (hz : xs.length ≤ sizeLine)
    (q : ∀ o' led' h' t', DO w B (storedH xs k a v) o' → Swap d o o' led led' → FS G B led' env pv l h' → Q () (at_ s h' t')) : wpAny (model pw w) A (setItem (.ref d) (.ref a) v) Q E (at_ s h t) := by
  refine wpAny_setItem_heap (s := at_ s h t) (knd := TK w) R.in1 (hk.is F.base) (D.at (F.mem hm) F.base) (fun h' x sb => ?_) hz
  obtain ⟨o', es, ep, e, x1, x2, x3, x4, x5⟩ := x
  obtain ⟨led', sw⟩ := Swap.of_mem o' hm
  refine q o' led' h' _ ⟨es, ep, x1, x2, x3, fun y hy => ?_, x5⟩ sw (F.swap sw sb e)
  obtain ⟨_, _, _, _, _, d4, _⟩ := D
  rcases mem_putAt hy with ⟨v', hv⟩ | ⟨e1, e2⟩
  · exact d4 (y.1, y.2.1, v') hv
  · rw [e1, e2]; exact hk
theorem r_dget {value slice : Ev} {p : Addr × VV} {n : Nat} (R : Rm (n + 1) A) (F : FS G B led env pv l h) (hd : Has B led d (DO w B xs)) (hk : KeyB B k a) (hp : atKey xs k = some p)
    (q : ∀ t', Q p.2 (at_ s h t')) (hs : subscripted slice false (.ref d) (.ref a) = operate [.ref d, .ref a] (getItem (.ref d) (.ref a)) := by with_unfolding_all rfl) :
    wpAny (model pw w) A (subscriptTail value slice (.ref d) (.ref a)) Q E (at_ s h t) := by
  obtain ⟨o, e, D⟩ := F.has hd
  have X := D.at e F.base
  exact tail_any (T := "dict") (X.typeIs (s := at_ s h t)) PySem.F.slot_dict_getitem.lookup (wpAny_getItem_heap (s := at_ s h t) (knd := TK w) R.in1 (hk.is F.base) X hp (q _)) hs
end
section
variable {w : World} {A : Around} {E : VV → Shared → Prop} {s : Shared} {t : Nat} {G : Heap} {B : Rel} {led led' : Led} {env : Env} {pv : Led} {l : Loc} {h : Heap} {a d : Addr} {o : Obj} {vs : List VV} {u : Tok} {Q : VV → Shared → Prop} {kvs : List (Int × VV)} {k : Int} {v : VV}
theorem ido_empty : emptyDict.IsDictOf (intKind pw w) [] := ⟨#[], 0, ⟨rfl, rfl, rfl⟩, rfl, fun e he => by simp at he, .nil, List.nodup_nil⟩
theorem r_iset {Q : Unit → Shared → Prop} (F : FS G B led env pv l h) (hm : (d, o) ∈ led) (D : o.IsDictOf (intKind pw w) kvs) (hz : kvs.length ≤ sizeLine)
    (q : ∀ o' led' h' t', o'.IsDictOf (intKind pw w) (stored kvs k v) → Swap d o o' led led' → FS G B led' env pv l h' → Q () (at_ s h' t')) : wpAny (model pw w) A (setItem (.ref d) (.int k u) v) Q E (at_ s h t) := by
  refine wpAny_setItem_pairs (s := at_ s h t) (knd := intKind pw w) (k := k) (by simp [intKind, Value.isInt]) (Heap.dictOf_iff.mpr ⟨o, F.mem hm, D⟩) (fun h' x sb => ?_) hz
  obtain ⟨o', e, D'⟩ := Heap.dictOf_iff.mp x
  obtain ⟨led', sw⟩ := Swap.of_mem o' hm
  exact q o' led' h' _ D' sw (F.swap sw sb e)
theorem r_iget {value slice : Ev} (F : FS G B led env pv l h) (hd : Has B led d (fun o => o.IsDictOf (intKind pw w) kvs)) (hv : valueAt kvs k = some v)
    (q : ∀ t', Q v (at_ s h t')) (hs : subscripted slice false (.ref d) (.int k u) = operate [.ref d, .int k u] (getItem (.ref d) (.int k u)) := by with_unfolding_all rfl) :
    wpAny (model pw w) A (subscriptTail value slice (.ref d) (.int k u)) Q E (at_ s h t) := by
  obtain ⟨o, e, D⟩ := F.has hd
  have X : (at_ s h t).heap.DictOf (intKind pw w) d kvs := Heap.dictOf_iff.mpr ⟨o, e, D⟩
  exact tail_any (T := "dict") X.typeIs PySem.F.slot_dict_getitem.lookup (wpAny_getItem_of (s := at_ s h t) (knd := intKind pw w) (k := k) (by simp [intKind, Value.isInt]) X.mapOf hv (q _)) hs
end
-- part LX12
/-- two things that read the same data are not different -/
theorem r_ne_same {w : World} {A : Around} {E : VV → Shared → Prop} {s : Shared} {t : Nat} {h : Heap} {a b : VV} {d : PyData} {as bs : List Addr} {Q : VV → Shared → Prop} (ra : Reads h a d as) (rb : Reads h b d bs) (hd : SeqAt.shaped d = true) (hu : A.units + 64 < cLine)
    (q : Q (.bool false) (at_ s h t)) : wpAny (model pw w) A (compareOp .NotEq a b) Q E (at_ s h t) := by
  refine ne_dataH (s := at_ s h t) ra rb hd hd hu ?_
  rw [PySem.SeqAt.eqv_refl d (PySem.SeqAt.canLay_of_shaped hd)]; exact q
theorem ints_reads {h : Heap} : ∀ {vs : List VV} {r : List Int}, IntsAre vs r → ReadsAll h vs (r.map PyData.int) []
  | _, _, .nil => .nil
  | _, _, .cons n t r => ReadsAll.cons (as := []) (bs := []) (.int n t) (ints_reads r)
noncomputable abbrev rowD (r : List Int) : PyData := .list (r.map PyData.int)
theorem list_reads {h : Heap} {a : Addr} {o : Obj} {vs : List VV} {xs : List PyData} {as : List Addr} (e : h.get? a = some o) (lo : LO vs o) (r : ReadsAll h vs xs as) : Reads h (.ref a) (.list xs) (a :: as) := by
  obtain ⟨c, n, d⟩ := lo
  exact .list e c d (by simpa using r)
theorem tup_reads {h : Heap} {a : Addr} {o : Obj} {vs : List VV} {xs : List PyData} {as : List Addr} (e : h.get? a = some o) (lo : TO vs o) (r : ReadsAll h vs xs as) : Reads h (.ref a) (.tuple xs) as := by
  obtain ⟨c, n, d⟩ := lo
  exact .tuple e c d (by simpa using r)
theorem RowV.reads {B : Rel} {r : List Int} {v : VV} {h : Heap} (x : RowV B r v) (hb : ∀ a o, B a o → h.get? a = some o) : ∃ as, Reads h v (rowD r) as := by
  obtain ⟨a, vs, rfl, ⟨o, b, lo⟩, i⟩ := x
  exact ⟨_, list_reads (hb _ _ b) lo (ints_reads i)⟩
theorem each_reads {B : Rel} {h : Heap} (hb : ∀ a o, B a o → h.get? a = some o) : ∀ {d : List (List Int)} {vs : List VV}, Each (RowV B) d vs → ∃ as, ReadsAll h vs (d.map rowD) as
  | [], [], _ => ⟨_, .nil⟩
  | [], _ :: _, e => absurd e.1 (by simp)
  | _ :: _, [], e => absurd e.1 (by simp)
  | r :: d, v :: vs, e => by
    obtain ⟨v', e1, rv⟩ := e.2 0 r rfl
    simp at e1; subst e1
    obtain ⟨as, ra⟩ := rv.reads hb
    have e' : Each (RowV B) d vs := ⟨by simpa using e.1, fun k x hx => by simpa using e.2 (k + 1) x (by simpa using hx)⟩
    obtain ⟨bs, rb⟩ := each_reads hb e'
    exact ⟨_, .cons ra rb⟩
noncomputable abbrev rowsD (d : List (List Int)) : PyData := .list (d.map rowD)
theorem canLay_ints : ∀ r : List Int, PyData.canLayAll0 (r.map PyData.int) = true
  | [] => rfl
  | i :: r => by simp [PyData.canLayAll0, PyData.canLay0, canLay_ints r]
theorem depth_ints : ∀ r : List Int, PyData.depthAll (r.map PyData.int) = 0
  | [] => rfl
  | i :: r => by simp [PyData.depthAll, PyData.depth, depth_ints r]
theorem canLay_rows : ∀ d : List (List Int), PyData.canLayAll0 (d.map rowD) = true
  | [] => rfl
  | r :: d => by simp [PyData.canLayAll0, PyData.canLay0, canLay_rows d, canLay_ints]
theorem depth_rows : ∀ d : List (List Int), PyData.depthAll (d.map rowD) ≤ 1
  | [] => Nat.zero_le _
  | r :: d => by
    have := depth_rows d
    simp only [List.map_cons, PyData.depthAll, PyData.depth, depth_ints]
    (first | lia | omega)
theorem shaped_row (r : List Int) : SeqAt.shaped (rowD r) = true := by simp [SeqAt.shaped, PyData.canLay0, PyData.depth, canLay_ints, depth_ints]
theorem shaped_rows (d : List (List Int)) : SeqAt.shaped (rowsD d) = true := by
  have := depth_rows d
  simp only [SeqAt.shaped, PyData.canLay0, PyData.depth, canLay_rows, Bool.true_and]
  exact decide_eq_true (by (first | lia | omega))
theorem Rm.unit64 {n : Nat} {A : Around} (R : Rm (n + 4) A) : A.units + 64 < cLine := by have := R.units; (first | lia | omega)
/-- walking a dict's keys, whatever they are -/
theorem ktype {s : Shared} {I d : Addr} {i n ep : Nat} (x : s.heap.IsKeyIter I d i n ep) : s.TypeIs (.ref I) "dict_keyiterator" := x.typeIs
theorem dictWalk {w : World} {A : Around} (hh : A.handled = none) (I d : Addr) (hne : d ≠ I) (od : Obj) (es : Array DictEntry) (ep : Nat) (hd : od.data = .dict es ep) :
    Walks pw w A I [I, d] [I] es.size (fun i v => ∃ e, es[i]? = some e ∧ v = e.key) (fun i h => h.IsKeyIter I d i es.size ep ∧ h.get? d = some od) where
  sub := fun b hb => by simp at hb; simp [hb]
  frame := fun _ _ _ st hk => ⟨st.1.at fun o e => hk I (by simp) o e, hk d (by simp) _ st.2⟩
  item := fun i s Q E hi st hQ => by
    obtain ⟨hit, hod⟩ := st
    obtain ⟨o, ho, hc, hf⟩ := id hit
    have hT := ktype hit
    unfold pyNext
    refine wpAny_bind (wpAny_attempt (wpAny_callSpecial?_slot (name := Str.ofString "__next__") hT PySem.F.slot_dict_keyiterator_next
      (wpAny_call_entry PySem.F.slot_dict_keyiterator_next hT PySem.F.entry_dict_keyiterator_next ?_ (PySem.F.args_dict_keyiterator_next_1 _))))
    refine wpAny_bind (wpAny_pure (wpAny_bind (wpAny_bind (wpAny_bind ?_))))
    refine wpAny_typeNameOfWhole_keyiter hT (wpAny_pure (wpAny_bind (wpAny_fieldsOf ho hf ?_)))
    rw [show Builtin.Dict_items.ownsTuple "dict_keyiterator" = false by decide]
    show wpAny _ _ (if (Value.ref d == Value.none) = true then _ else _) _ _ s
    rw [if_neg (show ¬ ((Value.ref d == Value.none) = true) from Bool.false_ne_true)]
    refine wpAny_bind (wpAny_pure (wpAny_bind (wpAny_dictEntries hod hd ?_)))
    rw [if_neg (by simp)]
    refine wpAny_bind (wpAny_pure (wpAny_bind (wpAny_dictEpoch hod hd ?_)))
    rw [if_neg (by simp)]
    refine wpAny_pure ?_
    simp only [show ¬ ((i : Int) < 0) from by (first | lia | omega), if_false, Int.toNat_natCast, Array.getElem?_eq_getElem hi]
    refine wpAny_bind ?_
    refine wpAny_bind (wpAny_typeNameOfWhole_keyiter hT (wpAny_pure ?_))
    refine wpAny_bind (wpAny_isOneOf_keyiter hT ?_)
    show wpAny _ _ (setField (.ref I) 1 (rawInt ((i : Int) + 1)) >>= _) _ _ s
    refine wpAny_bind (wpAny_setField ho hf (by simp) ?_)
    have hit' : (s.heap.update I (Obj.mapFields (·.setIfInBounds 1 (rawInt ((i : Int) + 1))))).IsKeyIter I d (i + 1) es.size ep :=
      ⟨_, Heap.get?_update_self _ ho (Obj.isFreed_of_fields (Obj.data_mapFields hf _)), (Obj.cls_mapFields ..).trans hc, by rw [Obj.data_mapFields hf]; simp [rawInt]⟩
    have sb : Heap.SameBut I s.heap (s.heap.update I (Obj.mapFields (·.setIfInBounds 1 (rawInt ((i : Int) + 1))))) := Heap.SameBut.update ..
    refine wpAny_bind (wpAny_holding ?_)
    refine wpAny_bind (wpAny_isOneOf_keyiter (s := { s with heap := s.heap.update I (Obj.mapFields (·.setIfInBounds 1 (rawInt ((i : Int) + 1)))) }) hit'.typeIs ?_)
    exact wpAny_pure (wpAny_pure ⟨_, rfl, wpAny_pure (hQ _ _ s.toks ⟨es[i], by simp [hi], rfl⟩ ⟨hit', (sb.2 d hne).trans hod⟩ fun b o hb e => (sb.2 b (fun q => hb (by simp [q]))).trans e)⟩)
  done := fun s Q E st hQ => by
    obtain ⟨hit, hod⟩ := st
    obtain ⟨o, ho, hc, hf⟩ := id hit
    have hT := ktype hit
    unfold pyNext
    refine wpAny_bind (wpAny_attempt (wpAny_callSpecial?_slot (name := Str.ofString "__next__") hT PySem.F.slot_dict_keyiterator_next
      (wpAny_call_entry PySem.F.slot_dict_keyiterator_next hT PySem.F.entry_dict_keyiterator_next ?_ (PySem.F.args_dict_keyiterator_next_1 _))))
    refine wpAny_bind (wpAny_pure (wpAny_bind (wpAny_bind (wpAny_bind ?_))))
    refine wpAny_typeNameOfWhole_keyiter hT (wpAny_pure (wpAny_bind (wpAny_fieldsOf ho hf ?_)))
    rw [show Builtin.Dict_items.ownsTuple "dict_keyiterator" = false by decide]
    show wpAny _ _ (if (Value.ref d == Value.none) = true then _ else _) _ _ s
    rw [if_neg (show ¬ ((Value.ref d == Value.none) = true) from Bool.false_ne_true)]
    refine wpAny_bind (wpAny_pure (wpAny_bind (wpAny_dictEntries hod hd ?_)))
    rw [if_neg (by simp)]
    refine wpAny_bind (wpAny_pure (wpAny_bind (wpAny_dictEpoch hod hd ?_)))
    rw [if_neg (by simp)]
    refine wpAny_pure ?_
    simp only [show ¬ ((es.size : Int) < 0) from by (first | lia | omega), if_false, Int.toNat_natCast, Array.getElem?_eq_none (Nat.le_refl es.size)]
    refine wpAny_bind ?_
    refine wpAny_bind (wpAny_typeNameOfWhole_keyiter hT (wpAny_pure ?_))
    show wpAny _ _ (setField (.ref I) 0 .none >>= _) _ _ s
    refine wpAny_bind (wpAny_setField ho hf (by simp) ?_)
    show wpAny _ _ (newExc (.type "StopIteration") [] >>= _) _ _ _
    refine wpAny_bind ?_
    simp only [newExc, newTuple]
    refine wpAny_bind (wpAny_newObj_type ?_ (by size_fits))
    refine wpAny_bind (m := firstArgMember _ _) (wpAny_of_eq (a := Value.none) (by first | rfl | (simp only [firstArgMember]; rfl)) ?_)
    refine wpAny_newObj_type ?_ (by size_fits)
    simp only [raiseNew]
    refine wpAny_bind (wpAny_handled ?_)
    rw [show A.in1.handled = none from hh]
    refine wpAny_bind (wpAny_pure (wpAny_throw ?_))
    refine wpAny_bind (wpAny_isInstance (T := "StopIteration") (b := true) ⟨_, Heap.get?_push_size _ rfl, rfl⟩ isSubtype_stop ?_)
    exact wpAny_pure (hQ _ s.toks fun b o hb e => ((((Heap.SameBut.update s.heap I (Obj.mapFields (·.setIfInBounds 0 Value.none))).extBut.push _).push _) : Heap.ExtBut I s.heap _) b o (fun q => hb (by simp [q])) e)
  self := fun _ _ _ _ st hQ => wpAny_pyIter_keyiter st.1 hQ
section
variable {w : World} {A : Around} {E : VV → Shared → Prop} {s : Shared} {t : Nat} {G : Heap} {B : Rel} {led led' : Led} {env : Env} {pv : Led} {l : Loc} {h : Heap} {a d : Addr} {Q : VV → Shared → Prop} {xs : KV}
theorem r_iter_dict (hh : A.handled = none) (F : FS G B led env pv l h) (hd : DB w B d xs) (lo : (d == sysModules) = false) (q : ∀ I o h', Itr w A B I xs.length (fun i v => ∃ x, xs[i]? = some x ∧ v = .ref x.2.1) h' → FS G B ((I, o) :: led) env pv l h' → Q (.ref I) (at_ s h' t)) :
    wpAny (model pw w) A (pyIter (.ref d)) Q E (at_ s h t) := by
  obtain ⟨od, b, es, ep, d1, d2, d3, d4, d5⟩ := hd
  have hod := F.base _ _ b
  have hT : (at_ s h t).TypeIs (.ref d) "dict" := ⟨od, hod, d1.1⟩
  have hne : d ≠ h.objs.size := Nat.ne_of_lt (Heap.lt_size hod)
  have hsz : es.size = xs.length := size_of_entries d3
  refine wpAny_pyIter_slot hT PySem.F.slot_dict_iter (wpAny_call_entry PySem.F.slot_dict_iter hT PySem.F.entry_dict_iter ?_ (PySem.F.args_dict_iter_1 _))
  unfold Builtin.«dict.__iter__»
  refine wpAny_bind ?_
  unfold Builtin.Dict.dictSlotNone
  refine wpAny_bind (wpAny_notOrdered_dict hT ?_)
  show wpAny _ _ (pure (Value.ref d)) _ _ _
  refine wpAny_pure ?_
  show wpAny _ _ (Builtin.Dict.showsAll d >>= _) _ _ _
  unfold Builtin.Dict.showsAll
  rw [if_neg (by rw [lo]; exact Bool.false_ne_true)]
  refine wpAny_bind (wpAny_pure (wpAny_bind (wpAny_dictEntries hod d2 (wpAny_bind (wpAny_dictEpoch hod d2 ?_)))))
  refine wpAny_bind (wpAny_newObj_type (wpAny_pure ⟨_, rfl, "dict_keyiterator", _, ⟨_, Heap.get?_push_size _ rfl, rfl⟩, PySem.F.slot_dict_keyiterator_next.lookup, ?_⟩))
  refine q _ _ _ ⟨[h.objs.size, d], fun i h' => h'.IsKeyIter h.objs.size d i es.size ep ∧ h'.get? d = some od, ?_, ?_, ?_, ?_⟩ (F.alloc rfl)
  · have W := dictWalk (w := w) (A := A) hh h.objs.size d hne od es ep d2
    rw [← hsz]
    refine W.weaken fun i v q => ?_
    obtain ⟨e, h1, h2⟩ := q
    rw [entry_at d3 i] at h1
    cases h3 : xs[i]? with
    | none => rw [h3] at h1; cases h1
    | some x => rw [h3] at h1; cases h1; exact ⟨x, rfl, h2⟩
  · intro b hb hne'
    simp only [List.mem_cons, List.not_mem_nil, or_false] at hb
    rcases hb with e | e
    · exact absurd e hne'
    · subst e; exact ⟨od, by assumption⟩
  · rintro k h ⟨⟨o, e, c, dd⟩, _⟩
    have nc : NoCell o := by intro x q; rw [dd] at q; cases q
    exact ⟨o, _, e, nc, c, by decide⟩
  · exact ⟨⟨_, Heap.get?_push_size _ rfl, rfl, by simp [rawInt]⟩, Heap.get?_push_of_some _ hod⟩
end
-- part LX13
section
variable {w : World} {A : Around} {E : VV → Shared → Prop} {s : Shared} {t : Nat} {G : Heap} {B : Rel} {led led' : Led} {env : Env} {pv : Led} {l : Loc} {h : Heap}
theorem r_ListCompF {target elt iter cond : Ev} {scope : Scope} {pos : Pos} {cl : List (SS × Addr)} {Q : VV → Shared → Prop} (hclos : closureFor scope env = pure cl) (hk : scope.kind = .function) (hnames : ∀ y ∈ scope.names, y.2 = .local → scope.names.lookup y.1 = some .local)
    (q : wpAny (model pw w) A (eval iter env) (fun x s₁ => wpAny (model pw w) A (pyIter x) (fun it s₂ => CompTail w A E env (.ListComp elt [⟨target, iter, [cond], 0⟩] scope pos) scope cl (fun acc C => compPost (model pw w) A E none Q acc C) it s₂) E s₁) E s)
    (hs : ∀ x, foldedSetIterable iter env x = pure x := by intro _; rfl) : wpAny (model pw w) A (eval (.ListComp elt [⟨target, iter, [cond], 0⟩] scope pos) env) Q E s := by
  rw [eval_ListComp]
  exact wpAny_comprehension_free (use := none) rfl hs hclos hk hnames q
noncomputable abbrev TurnEndF (s : Shared) (G : Heap) (env : Env) (N : Rel → Led → Loc → Prop) (B₁ : Rel) (pv' : Led) : Bool → Shared → Prop := fun ok s₃ => ok = false ∧ Ex5 fun B₂ led₂ l₂ h₂ t₂ => An4 (s₃ = at_ s h₂ t₂) (Inc B₁ B₂) (N B₂ led₂ l₂) (FS G B₂ led₂ env pv' l₂ h₂)
noncomputable def TurnF (w : World) (A : Around) (s : Shared) (G : Heap) (env : Env) (x : SS) (cond : Ev) (N : Rel → Led → Loc → Prop) (B₁ : Rel) (pv' : Led) (v : VV) (h₁ : Heap) (t₁ : Nat) : Prop :=
  wpAny (model pw w) A (storeName env x v) (fun _ s₂ => wpAny (model pw w) A (isTrue cond env (eval cond env)) (TurnEndF s G env N B₁ pv') NoE s₂) NoE (at_ s h₁ t₁)
/-- a comprehension whose one test always fails -/
theorem r_compF {I : Addr} {oI : Obj} {n : Nat} {P : Nat → VV → Prop} {elt iter cond : Ev} {x : SS} {px : Pos} {scope : Scope} {pos : Pos} {cl : List (SS × Addr)} {Q : VV → Shared → Prop} (T : Itr w A B I n P h) (F : FS G B ((I, oI) :: led) env pv l h)
    (hk : scope.kind = .function) (hcell : ∀ y ∈ scope.names, y.2 ≠ .cell)
    (lc : Loc) (hlc : ∀ p ∈ lc, LcOk scope env cl l p) (hnd : (lc.map (·.1)).Nodup) (Inv : Nat → Rel → Led → Loc → Prop) (i0 : Inv 0 B led lc)
    (step : ∀ C i B₁ led₁ l₁ h₁ t₁ pv' v, i < n → Inc B B₁ → Inv i B₁ led₁ l₁ → P i v → FS G B₁ led₁ (compEnvC scope cl C env) pv' l₁ h₁ →
      TurnF w A s G (compEnvC scope cl C env) x cond (Inv (i+1)) B₁ pv' v h₁ t₁)
    (fin : ∀ K : VV → Shared → Prop, (∀ v s', Q v s' → K v s') → ∀ D B₁ led₁ l₁ h₁ t₁, Inc B B₁ → Inv n B₁ led₁ l₁ → FS G B₁ ((D, lst []) :: led₁) env pv l h₁ → K (.ref D) (at_ s h₁ t₁)) :
    CompTail w A E env (.ListComp elt [⟨.Name x px, iter, [cond], 0⟩] scope pos) scope cl (fun acc C => compPost (model pw w) A E none Q acc C) (.ref I) (at_ s h t) := by
  obtain ⟨fp, St, W, hfp, hst, h0⟩ := T
  have hhI : ∀ o h, FS G B ((I, o) :: led) env pv l h → h.get? I = some o := fun o h F => F.mem (.head _)
  have ncI : NoCell oI := by obtain ⟨o, _, e, nc, _⟩ := hst 0 _ h0; rw [hhI _ _ F] at e; cases e; exact nc
  refine wpAny_newObj_type (wpAny_newFunctionEnv hcell (by intro y hy; simp at hy) (fun h₂ hns sb => ?_) hk)
  have F1 := F.alloc (o := lst []) rfl
  have F2 := F1.alloc (o := ⟨.type (if (some env).isSome = true then "dict" else "frame"), none, .dict #[] 0, #[]⟩) rfl
  obtain ⟨oC, es, ep, c1, c2, c3, c4⟩ := hns
  have F3 := F2.mono2 (fun b ob hb e => (sb.2 b hb).trans e) c1
  have keep02 : ∀ b ∈ fp, ∀ o, h.get? b = some o → h₂.get? b = some o := by
    intro b hb o e
    by_cases hI : b = I
    · subst hI
      rw [hhI _ _ F] at e; cases e
      exact F3.mem (.tail _ (.tail _ (.head _)))
    · obtain ⟨o', ho'⟩ := hfp b hb hI
      rw [F.base _ _ ho'] at e; cases e
      exact F3.base _ _ ho'
  have st2 : St 0 h₂ := W.frame 0 _ _ h0 keep02
  obtain ⟨oL, cs, O, H⟩ := F3
  generalize hC : (h.push (lst [])).objs.size = C at *
  have Oc := O.comp (oC := oC) (C := C) (pv' := (I, oI) :: (h.objs.size, lst [] 0) :: (env.locals, oL) :: (cs ++ pv)) hlc hnd hk ⟨es, ep, c2, c3, c4⟩ (fun q m => .tail _ (.tail _ (.tail _ m)))
  have Fc : FS G B led (compEnvC scope cl C env) ((I, oI) :: (h.objs.size, lst [] 0) :: (env.locals, oL) :: (cs ++ pv)) lc h₂ := ⟨oC, [], Oc, H.perm (comp_perm _ _ _ _ _ _ _)⟩
  have loop : ∀ t₀, codeAny (model pw w) A (.compLoop (.ListComp elt [⟨.Name x px, iter, [cond], 0⟩] scope pos) 0 (.ref I) (.ref h.objs.size) (compEnvC scope cl C env)) (compPost (model pw w) A E none Q (.ref h.objs.size) C) (at_ s h₂ t₀) := by
    intro t₀
    refine codeAny_compLoop_tests (s := at_ s h₂ t₀) (fun d s' => ∃ i B₁ led₁ l₁ h₁ t₁ o, i ≤ n ∧ d = n - i ∧ s' = at_ s h₁ t₁ ∧ Inc B B₁ ∧ Inv i B₁ led₁ l₁ ∧ NoCell o ∧
      FS G B₁ led₁ (compEnvC scope cl C env) ((I, o) :: (h.objs.size, lst [] 0) :: (env.locals, oL) :: (cs ++ pv)) l₁ h₁ ∧ St i h₁) ?_ n
      ⟨0, B, led, lc, h₂, t₀, oI, Nat.zero_le _, rfl, rfl, fun _ _ e => e, i0, ncI, Fc, st2⟩
    rintro d s' ⟨i, B₁, led₁, l₁, h₁, t₁, o, hi, rfl, rfl, inc, iv, nc, F₁, st⟩
    rcases Nat.lt_or_ge i n with hlt | hge
    · refine W.item i (at_ s h₁ t₁) _ _ hlt st fun v h₃ tk pv₀ st₃ k => ?_
      obtain ⟨o₂, nm, eo, nc₂, hcl, hnm⟩ := hst _ _ st₃
      have F₂ := FS.updPv (pre := []) F₁ nc (fun b ob hb e => k b ob (by simp [hb]) e) eo
      refine wpAny_assign_Name (wpAny_mono (step C i B₁ led₁ l₁ h₃ tk _ v hlt inc iv pv₀ F₂) (fun _ s₂ q => ?_) fun _ _ q => q.elim)
      refine wpAny_tests_one (wpAny_mono q (fun ok s₃ q => ?_) fun _ _ q => q.elim)
      obtain ⟨rfl, B₄, led₄, l₄, h₄, t₄, rfl, inc₄, iv₄, F₄⟩ := q
      have st₅ : St (i + 1) h₄ := by
        refine W.frame _ _ _ st₃ fun b hb ob e => ?_
        by_cases hI : b = I
        · subst hI
          rw [F₂.pvAt (.head _)] at e; cases e
          exact F₄.pvAt (.head _)
        · obtain ⟨o', ho'⟩ := hfp b hb hI
          rw [F₂.base _ _ (inc _ _ ho')] at e; cases e
          exact F₄.base _ _ (inc₄ _ _ (inc _ _ ho'))
      show ∃ m, m < n - i ∧ _
      exact ⟨n - (i + 1), by (first | lia | omega), i + 1, B₄, led₄, l₄, h₄, t₄, o₂, by (first | lia | omega), rfl, rfl, fun a ob e => inc₄ _ _ (inc _ _ e), iv₄, nc₂, F₄, st₅⟩
    · have : i = n := by (first | lia | omega)
      subst this
      refine W.done (at_ s h₁ t₁) _ _ st fun h₃ tk k => ?_
      have F₂ := F₁.dropPv nc (fun b ob hb e => k b ob (by simp [hb]) e)
      obtain ⟨oC', cs', O', H'⟩ := F₂
      obtain ⟨es', ep', m', g1, g2, g3, _⟩ := O'.ns
      have F₃ : FS G B₁ ((C, oC') :: (h.objs.size, lst [] 0) :: led₁) env pv l h₃ := ⟨oL, cs, O, (H'.perm (comp_perm' _ _ _ _ _ _ _)).sublist (List.sublist_append_right cs' _)⟩
      exact ⟨_, ⟨oC', es', ep', F₃.mem (.head _), g1, g2, fun _ => rfl⟩, fun h' sb => fin Q (fun _ _ h => h) _ B₁ led₁ l₁ h' tk inc iv (F₃.dropBut fun b ob hb e => (sb.2 b hb).trans e)⟩
  exact codeAny_compStart_list (loop _) (W.self 0 (at_ s h₂ _) _ _ st2 (loop _))
end
-- part LF17
noncomputable def zz (n i : Nat) : List Int := if n = 1 then [0].take i else [0, 1, 2, 3].take (if i = 0 then 0 else if i = 1 then 1 else if i = 2 then 3 else 4)
theorem zz_next1 {n i : Nat} {lo hi' : Int} (hn : n = 1 ∨ n = 2) (hi : i < 2 * n - 1) (elo : (if (i : Int) - n + 1 > 0 then (i : Int) - n + 1 else 0) = lo) (ehi : (if (n : Int) - 1 < i then (n : Int) - 1 else i) = hi') (hp : (i : Int).fmod 2 = 1) :
    (zz n i ++ (List.range (hi' + 1 - lo).toNat).map fun (k : Nat) => (lo + k * 1) * n + i - (lo + k * 1)) = zz n (i + 1) := by
  have hc : (n = 1 ∧ i = 0) ∨ (n = 2 ∧ i = 0) ∨ (n = 2 ∧ i = 1) ∨ (n = 2 ∧ i = 2) := by clear elo ehi hp; walk_at "o"
  rcases hc with ⟨rfl, rfl⟩ | ⟨rfl, rfl⟩ | ⟨rfl, rfl⟩ | ⟨rfl, rfl⟩ <;> first | exact absurd hp (by decide) | (subst elo ehi; rfl)
theorem zz_next2 {n i : Nat} {lo hi' : Int} (hn : n = 1 ∨ n = 2) (hi : i < 2 * n - 1) (elo : (if (i : Int) - n + 1 > 0 then (i : Int) - n + 1 else 0) = lo) (ehi : (if (n : Int) - 1 < i then (n : Int) - 1 else i) = hi') (hp : ¬ (i : Int).fmod 2 = 1) :
    (zz n i ++ (List.range (hi' + 1 - lo).toNat).map fun (k : Nat) => (hi' + k * (-1)) * n + i - (hi' + k * (-1))) = zz n (i + 1) := by
  have hc : (n = 1 ∧ i = 0) ∨ (n = 2 ∧ i = 0) ∨ (n = 2 ∧ i = 1) ∨ (n = 2 ∧ i = 2) := by clear elo ehi hp; walk_at "o"
  rcases hc with ⟨rfl, rfl⟩ | ⟨rfl, rfl⟩ | ⟨rfl, rfl⟩ | ⟨rfl, rfl⟩ <;> first | exact absurd (by decide) hp | (subst elo ehi; rfl)
theorem zz_len {n i : Nat} : (zz n i).length ≤ 4 := by unfold zz; split <;> simp <;> walk_at "o"
section
variable {w : World} {A : Around} {G : Heap} {B : Rel}
theorem zigzag_spec (g : Gr w G) (R : Rm 6 A) {n : Nat} {tn : Tok} (hn : n = 1 ∨ n = 2) : Spec w G A (cal 391 [.int n tn]) B [] (fun v B' u' => u' = [] ∧ Ex2 fun a vs => An3 (v = .ref a) (TB B' a vs) (IntsAre vs ((List.range (n * n)).map fun (k : Nat) => (k : Int)))) := by
  intro s h t Fr Hh
  refine enter (l := [("n", some (.int n tn)), ("found", none), ("total", none), ("low", none), ("high", none), ("rows", none), ("y", none)]) g Hh k391 (by kernel_rfl) R.room (by rfl) (by kernel_rfl) (by decide +kernel) (by kernel_rfl) (by decide +kernel) (by kernel_rfl) (by kernel_rfl) (by kernel_rfl) (by kernel_rfl) ?_
  intro L h₁ t₁ F; simp only [List.nil_append] at F; refine wpAny_execs_cons ?_
  repeat' walk_at "s"
  refine wpAny_For ?_ (by intro _; rfl)
  repeat' walk_at "s"

  rename_i fd h3 F3 h4 t4 F4 u1 t5 u2 t6 u3 t7 u4 t8 ra h5 t9 ta tc F5
  refine for_rng1 (n := 2 * n - 1) R.hd F5.drop (F5.mem (.head _)) (by walk_at "o") (by walk_at "o") (fun i B₁ led₁ l₁ => Ex7 fun vs m o1 o2 o3 o4 o5 => An4 (B₁ = B) (led₁ = (fd, lst vs m) :: Fr) (l₁ = ([("n", some (.int n tn)), ("found", some (.ref fd)), ("total", o1), ("low", o2), ("high", o3), ("rows", o4), ("y", o5)] : Loc)) (IntsAre vs (zz n i))) ⟨[], 0, none, none, none, none, none, rfl, rfl, rfl, by unfold zz; split <;> exact .nil⟩ ?step ?fin
  case step =>
    rintro i B₁ led₁ l₁ h₆ t₆ pv' uu hi inc ⟨vs, m, o1, o2, o3, o4, o5, rfl, rfl, rfl, iz⟩ F6
    delta Turn
    clear inc
    have hvl : vs.length ≤ 4 := by
      rw [ints_len iz]; exact zz_len
    obtain ⟨lo, elo⟩ : ∃ lo, (if (i : Int) - n + 1 > 0 then (i : Int) - n + 1 else 0) = lo := ⟨_, rfl⟩
    obtain ⟨hi', ehi⟩ : ∃ lo, (if (n : Int) - 1 < i then (n : Int) - 1 else i) = lo := ⟨_, rfl⟩
    have blo : 0 ≤ lo ∧ lo ≤ 2 := by rw [← elo]; split <;> walk_at "o"
    have bhi : 0 ≤ hi' ∧ hi' ≤ 2 := by rw [← ehi]; split <;> walk_at "o"
    have blh : lo ≤ hi' := by rw [← elo, ← ehi]; split <;> split <;> walk_at "o"
    repeat' walk_at "s"
    · rename_i tlo _ _ _ _ _ _ _ _ _ _ thi _ _ _ _ _ _ _ _ _ _ _ _ hpar _ _ _ _ rr _ _ _ _ _ _ _
      refine wpAny_For ?_ (by intro _; rfl)
      repeat' walk_at "s"
      have F7 := ‹FS G B₁ ((_, rng _ _ (1) _ _ _) :: _) _ _ _ _›
      rw [elo, ehi] at F7
      refine r_iter_range R.hd F7.drop (F7.mem (.head _)) (by walk_at "o") (by walk_at "o") (.inl rfl) (n := (hi'+ 1 - lo).toNat) (by rw [rangeSize_nat]) fun I oI h8 T F8 => ?_
      refine r_for T F8 (fun j B₂ led₂ l₂ => Ex3 fun vs₂ m₂ o5 => An4 (B₂ = B₁) (led₂ = (fd, lst vs₂ m₂) :: Fr) (l₂ = ([("n", some (.int n tn)), ("found", some (.ref fd)), ("total", some (.int i uu)), ("low", some (.int lo tlo)), ("high", some (.int hi' thi)), ("rows", some (.ref rr)), ("y", o5)] : Loc)) (IntsAre vs₂ (zz n i ++ (List.range j).map fun (k : Nat) => (lo + k * (1)) * n + i - (lo + k * (1))))) ⟨vs, m, _, rfl, rfl, rfl, by simpa using iz⟩ ?st1 ?fi1
      case st1 =>
        rintro j B₂ led₂ l₂ h₉ t₉ pv2 v hj inc2 ⟨vs₂, m₂, o6, rfl, rfl, rfl, ij⟩ ⟨tv, rfl⟩ F9
        delta Turn
        clear inc2
        have hvl2 : vs₂.length ≤ 16 := by
          rw [ints_len ij]
          have hzl : (zz n i).length ≤ 4 := by rw [← ints_len iz]; exact hvl
          simp only [List.length_append, List.length_map, List.length_range]
          walk_at "o"
        repeat' walk_at "s"
        refine ⟨_, _, _, _, _, rfl, fun _ _ e => e, ⟨_, _, _, rfl, rfl, rfl, ?_⟩, by assumption⟩
        rw [range_snoc, ← List.append_assoc]
        exact ints_snoc ij
      case fi1 =>
        rintro Kq hKq B₂ led₂ l₂ h₉ t₉ inc2 ⟨vs₂, m₂, o6, rfl, rfl, rfl, ij⟩ F9
        first | refine hKq _ _ ?_ | refine hKq () _ ?_
        clear hKq Kq
        clear inc2
        repeat' walk_at "s"
        refine ⟨_, _, _, _, _, rfl, fun _ _ e => e, ⟨_, _, _, _, _, _, _, rfl, rfl, rfl, ?_⟩, by assumption⟩
        rw [zz_next1 hn hi elo ehi hpar] at ij; exact ij
    · rename_i tlo _ _ _ _ _ _ _ _ _ _ thi _ _ _ _ _ _ _ _ _ _ _ _ hpar _ _ _ _ _ _ _ _
      refine r_range3 (by assumption) (by decide) (by decide) fun rr _ _ _ => ?_
      repeat' walk_at "s"
      refine wpAny_For ?_ (by intro _; rfl)
      repeat' walk_at "s"
      have F7 := ‹FS G B₁ ((_, rng _ _ (-1) _ _ _) :: _) _ _ _ _›
      rw [elo, ehi] at F7
      refine r_iter_range R.hd F7.drop (F7.mem (.head _)) (by walk_at "o") (by walk_at "o") (.inr rfl) (n := (hi'+ 1 - lo).toNat) (by rw [rangeSize_downNat]; walk_at "o") fun I oI h8 T F8 => ?_
      refine r_for T F8 (fun j B₂ led₂ l₂ => Ex3 fun vs₂ m₂ o5 => An4 (B₂ = B₁) (led₂ = (fd, lst vs₂ m₂) :: Fr) (l₂ = ([("n", some (.int n tn)), ("found", some (.ref fd)), ("total", some (.int i uu)), ("low", some (.int lo tlo)), ("high", some (.int hi' thi)), ("rows", some (.ref rr)), ("y", o5)] : Loc)) (IntsAre vs₂ (zz n i ++ (List.range j).map fun (k : Nat) => (hi' + k * (-1)) * n + i - (hi' + k * (-1))))) ⟨vs, m, _, rfl, rfl, rfl, by simpa using iz⟩ ?st2 ?fi2
      case st2 =>
        rintro j B₂ led₂ l₂ h₉ t₉ pv2 v hj inc2 ⟨vs₂, m₂, o6, rfl, rfl, rfl, ij⟩ ⟨tv, rfl⟩ F9
        delta Turn
        clear inc2
        have hvl2 : vs₂.length ≤ 16 := by
          rw [ints_len ij]
          have hzl : (zz n i).length ≤ 4 := by rw [← ints_len iz]; exact hvl
          simp only [List.length_append, List.length_map, List.length_range]
          walk_at "o"
        repeat' walk_at "s"
        refine ⟨_, _, _, _, _, rfl, fun _ _ e => e, ⟨_, _, _, rfl, rfl, rfl, ?_⟩, by assumption⟩
        rw [range_snoc, ← List.append_assoc]
        exact ints_snoc ij
      case fi2 =>
        rintro Kq hKq B₂ led₂ l₂ h₉ t₉ inc2 ⟨vs₂, m₂, o6, rfl, rfl, rfl, ij⟩ F9
        first | refine hKq _ _ ?_ | refine hKq () _ ?_
        clear hKq Kq
        clear inc2
        repeat' walk_at "s"
        refine ⟨_, _, _, _, _, rfl, fun _ _ e => e, ⟨_, _, _, _, _, _, _, rfl, rfl, rfl, ?_⟩, by assumption⟩
        rw [zz_next2 hn hi elo ehi hpar] at ij; exact ij
  case fin =>
    rintro Kq hKq B₁ led₁ l₁ h₆ t₆ inc ⟨vs, m, o1, o2, o3, o4, o5, rfl, rfl, rfl, iz⟩ F6
    first | refine hKq _ _ ?_ | refine hKq () _ ?_
    clear hKq Kq
    clear inc
    refine wpAny_execs_cons ?_
    have hvl : vs.length ≤ 4 := by
      rw [ints_len iz]; exact zz_len
    repeat' walk_at "s"
    refine r_tuple_of (by assumption) (Has.m LO.of (by walk_at "mem")) (by rw [sizeLine_eq]; walk_at "o") fun D h7 F7 => ?_
    refine ⟨_, _, [], _, _, rfl, rfl, fun _ _ e => .inl e, (F7.frz .head).drop.pub, rfl, D, vs, rfl, ⟨_, Badd.new, TO.of⟩, ?_⟩
    rcases hn with rfl | rfl <;> exact iz
end
-- part LF18
theorem map_set (m i : Nat) (f g : Nat → Int) (h : ∀ k, k ≠ i → f k = g k) : ((List.range m).map f).set i (g i) = (List.range m).map g := by
  apply List.ext_getElem
  · simp
  · intro k h1 h2
    rw [List.getElem_set]
    split
    · rename_i e; subst e; simp
    · rename_i e; simp [h k (fun q => e q.symm)]
theorem map_getD (r : List Int) : ((List.range r.length).map fun (k : Nat) => r.getD k 0) = r := by
  apply List.ext_getElem
  · simp
  · intro k h1 h2; simp at h1; simp [List.getD, h1]
section
variable {w : World} {A : Around} {G : Heap} {B : Rel}
theorem order_spec (g : Gr w G) (R : Rm 8 A) {n : Nat} {tn : Tok} (hn : n = 1 ∨ n = 2) : Spec w G A (cal 616 [.int n tn]) B [] (fun v B' u' => u' = [] ∧ Ex2 fun a vs => An3 (v = .ref a) (TB B' a vs) (IntsAre vs ((List.range (n * n)).map fun (k : Nat) => (k : Int)))) := by
  intro s h t Fr Hh
  refine enter (l := [("n", some (.int n tn))]) g Hh k616 (by kernel_rfl) R.room (by rfl) (by kernel_rfl) (by decide +kernel) (by kernel_rfl) (by decide +kernel) (by kernel_rfl) (by kernel_rfl) (by kernel_rfl) (by kernel_rfl) ?_
  intro L h₁ t₁ F; simp only [List.nil_append] at F; refine wpAny_execs_cons ?_
  repeat' walk_at "s"
  all_goals try walk_at "o"
  refine r_call (used := []) (by assumption) (zigzag_spec g (Rm.less (R.deeper _) (by decide)) hn) ?_
  rintro Kq hKq v B₁ u₁ h₂ t₂ inc ⟨rfl, p⟩ F1
  first | refine hKq _ _ ?_ | refine hKq () _ ?_
  clear hKq Kq
  exact ⟨_, _, [], _, _, rfl, rfl, inc, F1.pub, rfl, p⟩
theorem to_block_spec (g : Gr w G) (R : Rm 12 A) {rw : Addr} {rs : List VV} {r : List Int} {n : Nat} {tn : Tok} (lr : LB B rw rs) (ir : IntsAre rs r) (hn : n = 1 ∨ n = 2) (hr : r.length = n * n) : Spec w G A (cal 623 [.ref rw, .int n tn]) B [] (RowP r) := by
  intro s h t Fr Hh
  refine enter (l := [("row", some (.ref rw)), ("n", some (.int n tn)), ("found", none), ("rank", none), ("place", none)]) g Hh k623 (by kernel_rfl) R.room (by rfl) (by kernel_rfl) (by decide +kernel) (by kernel_rfl) (by decide +kernel) (by kernel_rfl) (by kernel_rfl) (by kernel_rfl) (by kernel_rfl) ?_
  intro L h₁ t₁ F; simp only [List.nil_append] at F; refine wpAny_execs_cons ?_
  have hnn : ((n : Int) * n) = ((n * n : Nat) : Int) := (Int.natCast_mul _ _).symm
  have hm4 := nn4 hn
  repeat' walk_at "s"
  rename_i t0 _ a0 h2 F2 u3 _
  refine r_mul_list F2 (F2.mem (.head _)) (by walk_at "o") (by walk_at "o") fun fd h9 F3 => ?_
  have F4 := F3.sublist (led' := (fd, lst (List.replicate (n * n) (.int 0 t0))) :: Fr) (by rw [hnn, Int.toNat_natCast]; exact List.Sublist.cons_cons _ (List.sublist_cons_self _ _))
  clear F3
  repeat' walk_at "s"
  refine wpAny_For ?_ (by intro _; rfl)
  repeat' walk_at "s"
  rename_i tr _ h10 t10 F5
  refine r_call (used := []) F5 (order_spec g (Rm.less (R.deeper _) (by decide)) hn) ?_
  rintro Kq hKq v B₁ u₁ h₂ t₂ inc ⟨rfl, tp, ps, rfl, tb, ips⟩ F6
  first | refine hKq _ _ ?_ | refine hKq () _ ?_
  clear hKq Kq
  simp only [List.nil_append] at F6
  have lr1 := lr.up inc
  have hpl := ints_len ips
  simp only [List.length_map, List.length_range] at hpl
  refine for_tup R.hd F6 tb (fun i B₂ led₂ l₂ => Ex4 fun o vs tk op => An5 (B₂ = B₁) (led₂ = (fd, o) :: Fr) (l₂ = ([("row", some (.ref rw)), ("n", some (.int n tn)), ("found", some (.ref fd)), ("rank", some (.int i tk)), ("place", op)] : Loc)) (LO vs o) (IntsAre vs ((List.range (n * n)).map fun (k : Nat) => if k < i then r.getD k 0 else 0))) ⟨_, _, tr, none, rfl, rfl, rfl, LO.of, ?i0⟩ ?step ?fin
  case i0 =>
    have := ints_rep (n * n) 0 t0
    rcases hn with rfl | rfl <;> exact this
  case step =>
    rintro i B₂ led₂ l₂ h₃ t₃ pv' v hi inc2 ⟨o, vs, tk, op, rfl, rfl, rfl, lo, iv⟩ hv F7
    delta Turn
    clear inc2
    have hi' : i < n * n := by walk_at "o"
    obtain ⟨u1, e1⟩ := ints_at ips i (by simpa using hi')
    obtain rfl : v = .int i u1 := by
      have := hv.symm.trans e1
      cases this
      simp [List.getD, hi']
    obtain ⟨u2, e2⟩ := ints_at ir i (by walk_at "o")
    have e2' : rs[((i : Nat) : Int).toNat]? = some (.int (r.getD i 0) u2) := by simpa using e2
    have hvl := ints_len iv
    simp only [List.length_map, List.length_range] at hvl
    repeat' walk_at "s"
    refine ⟨_, _, _, _, _, rfl, fun _ _ e => e, ⟨_, _, _, _, rfl, rfl, rfl, ‹LO _ _›, ?_⟩, ‹FS G B₂ _ _ _ _ _›⟩
    have := ints_set iv i (r.getD i 0) u2
    rw [Int.toNat_natCast]
    have e5 := map_set (n * n) i (fun (k : Nat) => if k < i then r.getD k 0 else 0) (fun (k : Nat) => if k < i + 1 then r.getD k 0 else 0) (fun k hk => by
      by_cases c : k < i
      · simp [c, show k < i + 1 by walk_at "o"]
      · simp [c, show ¬ k < i + 1 by walk_at "o"])
    simp only [show i < i + 1 by walk_at "o", if_true] at e5
    rw [← e5]; exact this
  case fin =>
    rintro Kq hKq B₂ led₂ l₂ h₃ t₃ inc2 ⟨o, vs, tk, op, rfl, rfl, rfl, lo, iv⟩ F7
    first | refine hKq _ _ ?_ | refine hKq () _ ?_
    clear hKq Kq
    clear inc2
    refine wpAny_execs_cons ?_
    repeat' walk_at "s"
    refine ⟨_, _, [], _, _, rfl, rfl, fun _ _ e => .inl (inc _ _ e), (F7.frz .head).pub, rfl, fd, vs, rfl, ⟨_, Badd.new, lo⟩, ?_⟩
    have e6 : ((List.range (n * n)).map fun (k : Nat) => if k < ps.length then r.getD k 0 else 0) = r := by
      rw [hpl, ← hr]
      refine Eq.trans (List.map_congr_left fun k hk => ?_) (map_getD r)
      simp at hk
      simp [hk]
    rw [e6] at iv; exact iv
end
-- part LF19
noncomputable def cof (r q : List Int) (k : Nat) : Int := r.getD k 0 * q.getD k 0
noncomputable def sampI (n : Nat) (r q : List Int) : List Int := if n = 2 then [cof r q 0 + cof r q 1 + cof r q 2 + cof r q 3, cof r q 0 - cof r q 1 + cof r q 2 - cof r q 3, cof r q 0 + cof r q 1 - cof r q 2 - cof r q 3, cof r q 0 - cof r q 1 - cof r q 2 + cof r q 3].map fun x => (x + 1).fdiv 2 else [cof r q 0]
theorem sampI_len (n : Nat) (hn : n = 1 ∨ n = 2) (r q : List Int) : (sampI n r q).length = n * n := by rcases hn with rfl | rfl <;> rfl
section
variable {w : World} {A : Around} {G : Heap} {B : Rel}
theorem sample_block_spec (g : Gr w G) (R : Rm 16 A) {v : VV} {qw : Addr} {qs : List VV} {r q : List Int} {n : Nat} {tn : Tok} (hv : RowV B r v) (lq : TB B qw qs) (iq : IntsAre qs q) (hn : n = 1 ∨ n = 2) (hr : r.length = n * n) (hq : q.length = n * n) (hs : SmallI q) :
    Spec w G A (cal 630 [v, .ref qw, .int n tn]) B [] (RowP (sampI n r q)) := by
  intro s h t Fr Hh
  refine enter (l := [("row", some v), ("qtable", some (.ref qw)), ("n", some (.int n tn))]) g Hh k630 (by kernel_rfl) R.room (by rfl) (by kernel_rfl) (by decide +kernel) (by kernel_rfl) (by decide +kernel) (by kernel_rfl) (by kernel_rfl) (by kernel_rfl) (by kernel_rfl) ?_
  intro L h₁ t₁ F; simp only [List.nil_append] at F; refine wpAny_execs_cons ?_
  obtain ⟨rw', vs, rfl, lr, ir⟩ := hv
  have hm4 := nn4 hn
  repeat' walk_at "s"
  refine r_call (used := []) (by assumption) (dequantise_spec g (Rm.less (R.deeper _) (by decide)) lr ir lq iq (by walk_at "o") (by walk_at "o") hs) ?_
  rintro Kq hKq v B₁ u₁ h₂ t₂ inc1 ⟨rfl, a1, vs1, rfl, l1, i1⟩ F1
  first | refine hKq _ _ ?_ | refine hKq () _ ?_
  clear hKq Kq
  simp only [List.nil_append] at F1
  have hd : (deqI r q).length = n * n := by unfold deqI; rw [List.length_map, List.length_range, hr]
  repeat' walk_at "s"
  refine r_call (used := []) (by assumption) (to_block_spec g (Rm.less (R.deeper _) (by decide)) l1 i1 hn hd) ?_
  rintro Kq hKq v B₂ u₂ h₃ t₃ inc2 ⟨rfl, a2, vs2, rfl, l2, i2⟩ F2
  first | refine hKq _ _ ?_ | refine hKq () _ ?_
  clear hKq Kq
  simp only [List.nil_append] at F2
  repeat' walk_at "s"
  rcases hn with rfl | rfl
  · have e : deqI r q = [cof r q 0] := by unfold deqI; rw [hr]; rfl
    rw [e] at i2
    refine r_call (used := []) (by assumption) (inverse1_spec g (Rm.less (R.deeper _) (by decide)) l2 i2) ?_
    rintro Kq hKq v B₃ u₃ h₄ t₄ inc3 ⟨rfl, rv⟩ F3
    first | refine hKq _ _ ?_ | refine hKq () _ ?_
    clear hKq Kq
    exact ⟨_, _, [], _, _, rfl, rfl, fun a o e => inc3 _ _ (inc2 _ _ (inc1 _ _ e)), F3.pub, rfl, rv⟩
  · have e : deqI r q = [cof r q 0, cof r q 1, cof r q 2, cof r q 3] := by unfold deqI; rw [hr]; rfl
    rw [e] at i2
    refine r_call (used := []) (by assumption) (inverse2_spec g (Rm.less (R.deeper _) (by decide)) l2 i2) ?_
    rintro Kq hKq v B₃ u₃ h₄ t₄ inc3 ⟨rfl, rv⟩ F3
    first | refine hKq _ _ ?_ | refine hKq () _ ?_
    clear hKq Kq
    exact ⟨_, _, [], _, _, rfl, rfl, fun a o e => inc3 _ _ (inc2 _ _ (inc1 _ _ e)), F3.pub, rfl, rv⟩
end
-- part LF20
theorem ints_snoc' {vs : List VV} {xs ys : List Int} {i : Int} {u : Tok} (x : IntsAre vs xs) (e : ys = xs ++ [i]) : IntsAre (vs ++ [.int i u]) ys := e ▸ ints_snoc x
section
variable {w : World} {A : Around} {G : Heap} {B : Rel}
theorem take_snoc {α : Type} [Inhabited α] {xs : List α} {i : Nat} (d : α) (h : i < xs.length) : xs.take (i + 1) = xs.take i ++ [xs.getD i d] := by
  rw [List.take_add_one, List.getElem?_eq_getElem h]; simp [List.getD, h]
theorem law_block_spec (g : Gr w G) (R : Rm 4 A) {v : VV} {qw : Addr} {qs : List VV} {r q : List Int} {n : Nat} {tn : Tok} (hv : RowV B r v) (lq : TB B qw qs) (iq : IntsAre qs q) (hn : n = 1 ∨ n = 2) (hr : r.length = n * n) (hq : q.length = n * n) (hs : SmallI q) :
    Spec w G A (cal 802 [v, .ref qw, .int n tn]) B [] (RowP (sampI n r q)) := by
  intro s h t Fr Hh
  refine enter (l := [("figures", some v), ("divisors", some (.ref qw)), ("side", some (.int n tn)), ("told", none), ("found", none), ("low", none), ("high", none)]) g Hh k802 (by kernel_rfl) R.room (by rfl) (by kernel_rfl) (by decide +kernel) (by kernel_rfl) (by decide +kernel) (by kernel_rfl) (by kernel_rfl) (by kernel_rfl) (by kernel_rfl) ?_
  intro L h₁ t₁ F; simp only [List.nil_append] at F
  obtain ⟨fw, fs, rfl, lr, ir⟩ := hv
  have hnn : ((n : Int) * n) = ((n * n : Nat) : Int) := (Int.natCast_mul _ _).symm
  have hm4 := nn4 hn
  refine' wpAny_execs_cons (r_AssignComp (cl := _) ?sw ?cl (by rfl) (by decide +kernel) ?_ (by intro _; rfl))
  case sw => with_unfolding_all rfl
  case cl => with_unfolding_all rfl
  repeat' walk_at "s"
  have F2 := ‹FS G B ((_, rng _ _ _ _ _ _) :: _) _ _ _ _›
  refine iter_rng1 R.hd F2.drop (F2.mem (.head _)) hnn (by walk_at "o") fun I oI h7 T F10 => ?_
  refine r_compA T F10 ?hk ?hc ?hn ?hgo [("at", none), ("figures", some (.ref fw)), ("divisors", some (.ref qw))] ?hlc ?hnd
    (fun i B₂ led₂ l₂ cv => Ex1 fun ov => An4 (led₂ = Fr) (B₂ = B) (l₂ = ([("at", ov), ("figures", some (.ref fw)), ("divisors", some (.ref qw))] : Loc)) (IntsAre cv ((List.range i).map (cof r q)))) ⟨none, rfl, rfl, rfl, .nil⟩ ?ky
    (fun v => [("figures", some (.ref fw)), ("divisors", some (.ref qw)), ("side", some (.int n tn)), ("told", some v), ("found", none), ("low", none), ("high", none)]) ?put ?step ?fin
  case hk => rfl
  case hc => decide +kernel
  case hn => rw [sizeLine_eq]; walk_at "o"
  case hgo => exact .inl ⟨_, _, rfl⟩
  case hlc => walk_at "lc"
  case hnd => simp; decide
  case ky => kernel_rfl
  case put => intro v; walk_at "put"
  case step =>
    rintro C i B₂ led₂ l₂ cs h₂ t₂ pv' v hi inc2 ⟨ov2, rfl, rfl, rfl, ei⟩ hlen ⟨ti, rfl⟩ F11
    delta TurnC
    clear inc2
    have e0 : (0 : Int) + (i : Int) * 1 = i := by walk_at "o"
    rw [e0]
    obtain ⟨u1, e1⟩ := ints_at ir i (by walk_at "o")
    obtain ⟨u2, e2⟩ := ints_at iq i (by walk_at "o")
    have e1' : fs[((i : Nat) : Int).toNat]? = some (.int (r.getD i 0) u1) := by simpa using e1
    have e2' : qs[((i : Nat) : Int).toNat]? = some (.int (q.getD i 0) u2) := by simpa using e2
    have hsi : (q.getD i 0).natAbs < 18446744073709551616 := hs i
    repeat' walk_at "s"
    refine ⟨_, _, _, _, _, rfl, fun _ _ e => e, ⟨_, rfl, rfl, rfl, ?_⟩, by assumption⟩
    rw [range_snoc]
    exact ints_snoc ei
  case fin =>
    rintro Kq hKq D B₂ led₂ l₂ cs h₂ t₂ inc2 ⟨ov2, hl2, hB2, rfl, ei⟩ hlen F11
    first | refine hKq _ _ ?_ | refine hKq () _ ?_
    clear hKq Kq
    subst hl2 hB2
    clear inc2
    refine wpAny_execs_cons ?_
    rcases hn with rfl | rfl
    · repeat' walk_at "s"
      all_goals try walk_at "o"
      exact row_back (fun _ _ e => e) (by assumption) ei
    · obtain ⟨u0, u1, u2, u3, rfl⟩ := ints4 (a := cof r q 0) (b := cof r q 1) (c := cof r q 2) (d := cof r q 3) ei
      have F12 := F11.frz .head
      have lD : LB (Badd B₂ D (lst [Value.int (cof r q 0) u0, Value.int (cof r q 1) u1, Value.int (cof r q 2) u2, Value.int (cof r q 3) u3] (2 * 2))) D _ := ⟨_, Badd.new, LO.of⟩
      generalize hB3 : Badd B₂ D (lst [Value.int (cof r q 0) u0, Value.int (cof r q 1) u1, Value.int (cof r q 2) u2, Value.int (cof r q 3) u3] (2 * 2)) = B3 at *
      clear F11
      repeat' walk_at "s"
      all_goals try walk_at "o"
      refine wpAny_For ?_ (by intro _; rfl)
      repeat' walk_at "s"
      rename_i fd h4 F4 h5 t5 F5 u6 t6 u7 t7 u8 t8 tp h9 F9
      have hsl : (sampI 2 r q).length = 4 := rfl
      refine for_tup R.hd (F9.frz .head) (a := tp) ⟨_, Badd.new, TO.of⟩ (fun i B₃ led₃ l₃ => Ex4 fun vs m o1 o2 => An3 (led₃ = (fd, lst vs m) :: led₂) (l₃ = ([("figures", some (.ref fw)), ("divisors", some (.ref qw)), ("side", some (.int 2 tn)), ("told", some (.ref D)), ("found", some (.ref fd)), ("low", o1), ("high", o2)] : Loc)) (IntsAre vs ((sampI 2 r q).take (2 * i)))) ⟨[], 0, none, none, rfl, rfl, .nil⟩ ?st1 ?fi1
      case st1 =>
        rintro i B₃ led₃ l₃ h11 t11 pv' v hi inc3 ⟨vs, m, o1, o2, rfl, rfl, iv⟩ hv F13
        delta Turn
        have lD3 := (lD.up (Badd.inc (a := tp) (o := _))).up inc3
        have hi2 : i = 0 ∨ i = 1 := by simp at hi; walk_at "o"
        rcases hi2 with rfl | rfl
        · simp at hv; subst hv
          repeat' walk_at "s"
          refine wpAny_For ?_ (by intro _; rfl)
          repeat' walk_at "s"
          have F14 := ‹FS G B₃ ((_, tup _) :: _) _ _ _ _›
          rename_i tq _ _
          refine for_tup R.hd (F14.frz .head) (a := tq) ⟨_, Badd.new, TO.of⟩ (fun j B₄ led₄ l₄ => Ex3 fun vs m o2 => An3 (led₄ = (fd, lst vs m) :: led₂) (l₄ = ([("figures", some (.ref fw)), ("divisors", some (.ref qw)), ("side", some (.int 2 tn)), ("told", some (.ref D)), ("found", some (.ref fd)), ("low", some (.int 1 u6)), ("high", o2)] : Loc)) (IntsAre vs ((sampI 2 r q).take (2 * 0 + j)))) ⟨vs, m, o2, rfl, rfl, iv⟩ ?st2 ?fi2
          case st2 =>
            rintro j B₄ led₄ l₄ h12 t12 pv2 v2 hj inc4 ⟨vs2, m2, o3, rfl, rfl, iv2⟩ hv2 F15
            delta Turn
            have lD4 := (lD3.up (Badd.inc (a := tq) (o := _))).up inc4
            have hvl2 : vs2.length ≤ 4 := by rw [ints_len iv2, List.length_take, hsl]; walk_at "o"
            have hj2 : j = 0 ∨ j = 1 := by simp at hj; walk_at "o"
            clear inc4 inc3
            rcases hj2 with rfl | rfl
            · simp at hv2; subst hv2
              repeat' walk_at "s"
              refine ⟨_, _, _, _, _, rfl, fun _ _ e => e, ⟨_, _, _, rfl, rfl, ints_snoc' iv2 ?_⟩, by assumption⟩
              rw [← Nat.add_assoc, take_snoc 0 (by rw [hsl]; walk_at "o")]
              refine congrArg (fun z => _ ++ [z]) ?_
              show Int.fdiv _ 2 = Int.fdiv _ 2
              congr 1; walk_at "o"
            · simp at hv2; subst hv2
              repeat' walk_at "s"
              refine ⟨_, _, _, _, _, rfl, fun _ _ e => e, ⟨_, _, _, rfl, rfl, ints_snoc' iv2 ?_⟩, by assumption⟩
              rw [← Nat.add_assoc, take_snoc 0 (by rw [hsl]; walk_at "o")]
              refine congrArg (fun z => _ ++ [z]) ?_
              show Int.fdiv _ 2 = Int.fdiv _ 2
              congr 1; walk_at "o"
          case fi2 =>
            rintro Kq hKq B₄ led₄ l₄ h12 t12 inc4 ⟨vs2, m2, o3, rfl, rfl, iv2⟩ F15
            first | refine hKq _ _ ?_ | refine hKq () _ ?_
            clear hKq Kq
            repeat' walk_at "s"
            exact ⟨_, _, _, _, _, rfl, fun _ _ e => inc4 _ _ (.inl e), ⟨_, _, _, _, rfl, rfl, iv2⟩, F15⟩
        · simp at hv; subst hv
          repeat' walk_at "s"
          refine wpAny_For ?_ (by intro _; rfl)
          repeat' walk_at "s"
          have F14 := ‹FS G B₃ ((_, tup _) :: _) _ _ _ _›
          rename_i tq _ _
          refine for_tup R.hd (F14.frz .head) (a := tq) ⟨_, Badd.new, TO.of⟩ (fun j B₄ led₄ l₄ => Ex3 fun vs m o2 => An3 (led₄ = (fd, lst vs m) :: led₂) (l₄ = ([("figures", some (.ref fw)), ("divisors", some (.ref qw)), ("side", some (.int 2 tn)), ("told", some (.ref D)), ("found", some (.ref fd)), ("low", some (.int (-1) u8)), ("high", o2)] : Loc)) (IntsAre vs ((sampI 2 r q).take (2 * 1 + j)))) ⟨vs, m, o2, rfl, rfl, iv⟩ ?st3 ?fi3
          case st3 =>
            rintro j B₄ led₄ l₄ h12 t12 pv2 v2 hj inc4 ⟨vs2, m2, o3, rfl, rfl, iv2⟩ hv2 F15
            delta Turn
            have lD4 := (lD3.up (Badd.inc (a := tq) (o := _))).up inc4
            have hvl2 : vs2.length ≤ 4 := by rw [ints_len iv2, List.length_take, hsl]; walk_at "o"
            have hj2 : j = 0 ∨ j = 1 := by simp at hj; walk_at "o"
            clear inc4 inc3
            rcases hj2 with rfl | rfl
            · simp at hv2; subst hv2
              repeat' walk_at "s"
              refine ⟨_, _, _, _, _, rfl, fun _ _ e => e, ⟨_, _, _, rfl, rfl, ints_snoc' iv2 ?_⟩, by assumption⟩
              rw [← Nat.add_assoc, take_snoc 0 (by rw [hsl]; walk_at "o")]
              refine congrArg (fun z => _ ++ [z]) ?_
              show Int.fdiv _ 2 = Int.fdiv _ 2
              congr 1; walk_at "o"
            · simp at hv2; subst hv2
              repeat' walk_at "s"
              refine ⟨_, _, _, _, _, rfl, fun _ _ e => e, ⟨_, _, _, rfl, rfl, ints_snoc' iv2 ?_⟩, by assumption⟩
              rw [← Nat.add_assoc, take_snoc 0 (by rw [hsl]; walk_at "o")]
              refine congrArg (fun z => _ ++ [z]) ?_
              show Int.fdiv _ 2 = Int.fdiv _ 2
              congr 1; walk_at "o"
          case fi3 =>
            rintro Kq hKq B₄ led₄ l₄ h12 t12 inc4 ⟨vs2, m2, o3, rfl, rfl, iv2⟩ F15
            first | refine hKq _ _ ?_ | refine hKq () _ ?_
            clear hKq Kq
            repeat' walk_at "s"
            exact ⟨_, _, _, _, _, rfl, fun _ _ e => inc4 _ _ (.inl e), ⟨_, _, _, _, rfl, rfl, iv2⟩, F15⟩
      case fi1 =>
        rintro Kq hKq B₃ led₃ l₃ h11 t11 inc3 ⟨vs, m, o1, o2, rfl, rfl, iv⟩ F13
        first | refine hKq _ _ ?_ | refine hKq () _ ?_
        clear hKq Kq
        refine wpAny_execs_cons ?_
        repeat' walk_at "s"
        refine row_back (fun _ _ e => inc3 _ _ (.inl ?_)) F13 iv
        rw [← hB3]; exact .inl e
end
-- part LX14
/-- a cell of the grid: none stands for zeros -/
noncomputable def zeros (n : Nat) : List Int := List.replicate (n * n) 0
noncomputable def CellV (B : Rel) (n : Nat) (r : List Int) (v : VV) : Prop := (v = .none ∧ r = zeros n) ∨ RowV B r v
theorem CellV.up {B B' : Rel} {n : Nat} {r : List Int} {v : VV} (x : CellV B n r v) (i : Inc B B') : CellV B' n r v := x.imp id fun y => y.up i
noncomputable def CellsV (B : Rel) (n w : Nat) (c : Nat → List Int) (vs : List VV) : Prop := vs.length = w ∧ ∀ x, x < w → ∃ v, vs[x]? = some v ∧ CellV B n (c x) v
theorem CellsV.up {B B' : Rel} {n w : Nat} {c : Nat → List Int} {vs : List VV} (x : CellsV B n w c vs) (i : Inc B B') : CellsV B' n w c vs := ⟨x.1, fun k hk => let ⟨v, a, b⟩ := x.2 k hk; ⟨v, a, b.up i⟩⟩
noncomputable def GRows (B : Rel) (n w hg : Nat) (c : Nat → Nat → List Int) (rv : List VV) (u : Led) : Prop := rv.length = hg ∧ u.length = hg ∧ ∀ y, y < hg → ∃ a o vs, rv[y]? = some (.ref a) ∧ u[y]? = some (a, o) ∧ LO vs o ∧ CellsV B n w (c y) vs
theorem GRows.up {B B' : Rel} {n w hg : Nat} {c : Nat → Nat → List Int} {rv : List VV} {u : Led} (x : GRows B n w hg c rv u) (i : Inc B B') : GRows B' n w hg c rv u :=
  ⟨x.1, x.2.1, fun y hy => let ⟨a, o, vs, e1, e2, e3, e4⟩ := x.2.2 y hy; ⟨a, o, vs, e1, e2, e3, e4.up i⟩⟩
noncomputable abbrev Dims := List (Nat × Nat)
noncomputable abbrev Cof := Nat → Nat → Nat → List Int
noncomputable def GPl (B : Rel) (n : Nat) (dims : Dims) (c : Cof) (pv : List VV) (us : List Led) : Prop := pv.length = dims.length ∧ us.length = dims.length ∧
  ∀ k d, dims[k]? = some d → ∃ ap rv uk, pv[k]? = some (.ref ap) ∧ us[k]? = some uk ∧ LB B ap rv ∧ GRows B n d.1 d.2 (c k) rv uk
theorem GPl.up {B B' : Rel} {n : Nat} {dims : Dims} {c : Cof} {pv : List VV} {us : List Led} (x : GPl B n dims c pv us) (i : Inc B B') : GPl B' n dims c pv us :=
  ⟨x.1, x.2.1, fun k d hd => let ⟨ap, rv, uk, e1, e2, e3, e4⟩ := x.2.2 k d hd; ⟨ap, rv, uk, e1, e2, e3.up i, e4.up i⟩⟩
noncomputable def MGrid (B : Rel) (n : Nat) (dims : Dims) (c : Cof) (x : Addr) (us : List Led) : Prop := Ex3 fun pl pv tm => An3 (IB B x 767 [("planes", some (.ref pl)), ("many", some (.int ((n : Int) * n) tm))]) (LB B pl pv) (GPl B n dims c pv us)
theorem MGrid.up {B B' : Rel} {n : Nat} {dims : Dims} {c : Cof} {x : Addr} {us : List Led} (y : MGrid B n dims c x us) (i : Inc B B') : MGrid B' n dims c x us := let ⟨pl, pv, tm, a, b, e⟩ := y; ⟨pl, pv, tm, a.up i, b.up i, e.up i⟩
/-- the grid when nothing changes it any more -/
noncomputable def GRowsF (B : Rel) (n w hg : Nat) (c : Nat → Nat → List Int) (rv : List VV) : Prop := ∀ y, y < hg → ∃ a vs, rv[y]? = some (.ref a) ∧ LB B a vs ∧ CellsV B n w (c y) vs
noncomputable def GridV (B : Rel) (n : Nat) (dims : Dims) (c : Cof) (x : Addr) : Prop := Ex3 fun pl pv tm => An3 (IB B x 767 [("planes", some (.ref pl)), ("many", some (.int ((n : Int) * n) tm))]) (LB B pl pv) (∀ k d, dims[k]? = some d → ∃ ap rv, pv[k]? = some (.ref ap) ∧ LB B ap rv ∧ GRowsF B n d.1 d.2 (c k) rv)
theorem GridV.up {B B' : Rel} {n : Nat} {dims : Dims} {c : Cof} {x : Addr} (y : GridV B n dims c x) (i : Inc B B') : GridV B' n dims c x :=
  let ⟨pl, pv, tm, a, b, e⟩ := y
  ⟨pl, pv, tm, a.up i, b.up i, fun k d hd => let ⟨ap, rv, e1, e2, e3⟩ := e k d hd; ⟨ap, rv, e1, e2.up i, fun y hy => let ⟨a, vs, f1, f2, f3⟩ := e3 y hy; ⟨a, vs, f1, f2.up i, f3.up i⟩⟩⟩
/-- freezing a part of the ledger -/
noncomputable def Ball (B : Rel) (u : Led) : Rel := fun a o => B a o ∨ (a, o) ∈ u
theorem HS.freezeAll {G : Heap} {h : Heap} : ∀ {u rest : Led} {B : Rel}, HS G B (u ++ rest) h → HS G (Ball B u) rest h
  | [], rest, B, H => ⟨fun a o e => .inl (H.gb a o e), fun a o e => e.elim (H.base a o) (fun q => nomatch q), H.mem, H.nd, fun p hp o e => e.elim (H.off p hp o) (fun q => nomatch q)⟩
  | (a, o) :: u, rest, B, H => by
    have H1 := HS.freezeAll (u := u) (HS.freeze H)
    have e : Ball B ((a, o) :: u) = Ball (Badd B a o) u := by
      funext b ob
      apply propext
      constructor
      · rintro (q | q)
        · exact .inl (.inl q)
        · rcases List.mem_cons.mp q with q | q
          · cases q; exact .inl (.inr ⟨rfl, rfl⟩)
          · exact .inr q
      · rintro ((q | ⟨rfl, rfl⟩) | q)
        · exact .inl q
        · exact .inr (.head _)
        · exact .inr (.tail _ q)
    rw [e]; exact H1
theorem FS.frzAll {G : Heap} {B : Rel} {u rest : Led} {env : Env} {pv : Led} {l : Loc} {h : Heap} (F : FS G B (u ++ rest) env pv l h) : FS G (Ball B u) rest env pv l h := by
  obtain ⟨Fr, H, back⟩ := FS.lend (used := u) (rest := rest) F
  exact back _ [] _ H.freezeAll
theorem Ball.inc {B : Rel} {u : Led} : Inc B (Ball B u) := fun _ _ e => .inl e
theorem MPlane.frz {B : Rel} {W H : Int} {d : List (List Int)} {x : Addr} {u : Led} (m : MPlane B W H d x u) : PlaneV (Ball B u) W H d x := by
  obtain ⟨r, rv, t1, t2, a, b, ⟨c1, c2, c3⟩, e, f⟩ := m
  refine ⟨r, rv, t1, t2, a.up Ball.inc, b.up Ball.inc, ⟨c1, fun k row hk => ?_⟩, e, f⟩
  obtain ⟨a, o, vs, e1, e2, e3, e4⟩ := c3 k row hk
  exact ⟨.ref a, e1, a, vs, rfl, ⟨o, .inr (List.mem_of_getElem? e2), e3⟩, e4⟩
theorem MGrid.frz {B : Rel} {n : Nat} {dims : Dims} {c : Cof} {x : Addr} {us : List Led} (m : MGrid B n dims c x us) : GridV (Ball B us.flatten) n dims c x := by
  obtain ⟨pl, pv, tm, a, b, _, _, e⟩ := m
  refine ⟨pl, pv, tm, a.up Ball.inc, b.up Ball.inc, fun k d hd => ?_⟩
  obtain ⟨ap, rv, uk, e1, e2, e3, _, _, e4⟩ := e k d hd
  refine ⟨ap, rv, e1, e3.up Ball.inc, fun y hy => ?_⟩
  obtain ⟨a, o, vs, f1, f2, f3, f4⟩ := e4 y hy
  exact ⟨a, vs, f1, ⟨o, .inr (List.mem_flatten.mpr ⟨uk, List.mem_of_getElem? e2, List.mem_of_getElem? f2⟩), f3⟩, f4.up Ball.inc⟩
theorem swap_flat {a : Addr} {o : Obj} (o' : Obj) {Y : Nat} : ∀ {us : List Led} {rest : Led} {k : Nat} {uk : Led}, us[k]? = some uk → uk[Y]? = some (a, o) → Swap a o o' (us.flatten ++ rest) ((us.set k (uk.set Y (a, o'))).flatten ++ rest)
  | [], _, _, _, h, _ => by simp at h
  | u :: us, rest, 0, uk, h, hy => by
    simp at h; subst h
    rw [List.set_cons_zero, List.flatten_cons, List.flatten_cons, List.append_assoc, List.append_assoc]
    exact swap_set o' hy
  | u :: us, rest, k + 1, uk, h, hy => by
    simp at h
    rw [List.set_cons_succ, List.flatten_cons, List.flatten_cons, List.append_assoc, List.append_assoc]
    have key : ∀ (p : Led) {l l' : Led}, Swap a o o' l l' → Swap a o o' (p ++ l) (p ++ l') := by
      intro p
      induction p with
      | nil => intro l l' q; exact q
      | cons z p ih => intro l l' q; exact Swap.tail (ih q)
    exact key u (swap_flat o' h hy)
noncomputable def updC (c : Cof) (k y x : Nat) (r : List Int) : Cof := fun k' y' x' => if k' = k ∧ y' = y ∧ x' = x then r else c k' y' x'
theorem CellsV.set {B : Rel} {n w : Nat} {c c' : Nat → List Int} {vs : List VV} {X : Nat} {v : VV} (m : CellsV B n w c vs) (hv : CellV B n (c' X) v) (hc : ∀ x, x ≠ X → c' x = c x) : CellsV B n w c' (vs.set X v) := by
  obtain ⟨m1, m2⟩ := m
  refine ⟨by simp [m1], fun x hx => ?_⟩
  by_cases e : X = x
  · subst e; exact ⟨v, by simp [m1, hx], hv⟩
  · obtain ⟨v', e1, e2⟩ := m2 x hx
    exact ⟨v', by rw [List.getElem?_set_ne e]; exact e1, by rw [hc x (fun q => e q.symm)]; exact e2⟩
theorem GPl.set {B : Rel} {n : Nat} {dims : Dims} {c : Cof} {pv : List VV} {us : List Led} (m : GPl B n dims c pv us) {k X Y : Nat} {uk : Led} {a : Addr} {o o' : Obj} {vs : List VV} {v : VV} {r : List Int} {rv : List VV} {ap : Addr}
    (hp : pv[k]? = some (.ref ap)) (lr : LB B ap rv) (hrv : rv[Y]? = some (.ref a))
    (huk : us[k]? = some uk) (hu : uk[Y]? = some (a, o)) (lo : LO vs o) (lo' : LO (vs.set X v) o') (hv : RowV B r v)
    (uniq : ∀ rv', LB B ap rv' → rv' = rv) (ouniq : ∀ vs', LO vs' o → vs' = vs) : GPl B n dims (updC c k Y X r) pv (us.set k (uk.set Y (a, o'))) := by
  obtain ⟨m1, m2, m3⟩ := m
  refine ⟨m1, by simp [m2], fun j d hd => ?_⟩
  obtain ⟨ap', rv', uj, e1, e2, e3, e4, e5, e6⟩ := m3 j d hd
  by_cases e : k = j
  · subst e
    have : ap' = ap := by rw [hp] at e1; cases e1; rfl
    subst this
    have : uj = uk := by rw [huk] at e2; cases e2; rfl
    subst this
    have := uniq _ e3
    subst this
    have hk : k < us.length := by rcases Nat.lt_or_ge k us.length with q | q; exact q; rw [List.getElem?_eq_none q] at huk; cases huk
    refine ⟨ap', rv', uj.set Y (a, o'), e1, by simp [hk], e3, e4, by simp [e5], fun y hy => ?_⟩
    obtain ⟨b, ob, ws, f1, f2, f3, f4⟩ := e6 y hy
    by_cases ey : Y = y
    · subst ey
      have : b = a := by rw [hrv] at f1; cases f1; rfl
      subst this
      have : ob = o := by rw [hu] at f2; cases f2; rfl
      subst this
      have := ouniq _ f3
      subst this
      refine ⟨b, o', _, f1, by simp [e5, hy], lo', f4.set (.inr ?_) fun x hx => ?_⟩
      · simp [updC]; exact hv
      · simp [updC, hx]
    · refine ⟨b, ob, ws, f1, by rw [List.getElem?_set_ne ey]; exact f2, f3, ?_⟩
      have : updC c k Y X r k y = c k y := by funext x; simp [updC, show ¬ y = Y from fun q => ey q.symm]
      rw [this]; exact f4
  · refine ⟨ap', rv', uj, e1, by rw [List.getElem?_set_ne e]; exact e2, e3, e4, e5, ?_⟩
    have : updC c k Y X r j = c j := by funext y x; simp [updC, show ¬ j = k from fun q => e q.symm]
    rw [this]; exact e6
theorem LO.uniq {vs ws : List VV} {o : Obj} (a : LO vs o) (b : LO ws o) : vs = ws := by
  obtain ⟨_, n, e⟩ := a
  obtain ⟨_, m, f⟩ := b
  rw [e] at f; injection f with f _
  simpa using f
theorem LB.uniq {B : Rel} {a : Addr} {vs ws : List VV} {h : Heap} (hb : ∀ a o, B a o → h.get? a = some o) (x : LB B a vs) (y : LB B a ws) : vs = ws := by
  obtain ⟨o, b, l⟩ := x
  obtain ⟨o', b', l'⟩ := y
  have : o = o' := by have := (hb _ _ b).symm.trans (hb _ _ b'); cases this; rfl
  subst this
  exact l.uniq l'
theorem GPl.snoc {B : Rel} {n : Nat} {dims : Dims} {c : Cof} {pv : List VV} {us : List Led} {d : Nat × Nat} {ap : Addr} {rv : List VV} {uk : Led} (m : GPl B n dims c pv us) (lb : LB B ap rv) (g : GRows B n d.1 d.2 (c dims.length) rv uk) : GPl B n (dims ++ [d]) c (pv ++ [.ref ap]) (us ++ [uk]) := by
  obtain ⟨m1, m2, m3⟩ := m
  refine ⟨by simp [m1], by simp [m2], fun k e he => ?_⟩
  rcases snoc_get he with ⟨q, e1⟩ | ⟨rfl, rfl⟩
  · obtain ⟨ap', rv', uk', f1, f2, f3, f4⟩ := m3 k e e1
    exact ⟨ap', rv', uk', by rw [List.getElem?_append_left (by (first | lia | omega))]; exact f1, by rw [List.getElem?_append_left (by (first | lia | omega))]; exact f2, f3, f4⟩
  · exact ⟨ap, rv, uk, by rw [← m1]; simp, by rw [← m2]; simp, lb, g⟩
theorem GRows.snoc {B : Rel} {n w hg : Nat} {c : Nat → Nat → List Int} {rv : List VV} {u : Led} {a : Addr} {o : Obj} {vs : List VV} (m : GRows B n w hg c rv u) (lo : LO vs o) (g : CellsV B n w (c hg) vs) : GRows B n w (hg + 1) c (rv ++ [.ref a]) (u ++ [(a, o)]) := by
  obtain ⟨m1, m2, m3⟩ := m
  refine ⟨by simp [m1], by simp [m2], fun y hy => ?_⟩
  rcases Nat.lt_or_ge y hg with q | q
  · obtain ⟨a', o', vs', e1, e2, e3, e4⟩ := m3 y q
    exact ⟨a', o', vs', by rw [List.getElem?_append_left (by (first | lia | omega))]; exact e1, by rw [List.getElem?_append_left (by (first | lia | omega))]; exact e2, e3, e4⟩
  · have : y = hg := by (first | lia | omega)
    subst this
    exact ⟨a, o, vs, by rw [← m1]; simp, by rw [← m2]; simp, lo, g⟩
theorem r_is_none {w : World} {A : Around} {E : VV → Shared → Prop} {s : Shared} {t : Nat} {h : Heap} {v : VV} {Q : VV → Shared → Prop} (q : Q (.bool (v == .none)) (at_ s h t)) : wpAny (model pw w) A (compareOp .Is v .none) Q E (at_ s h t) := is_none_gen q
-- part LF21
section
variable {w : World} {A : Around} {G : Heap} {B : Rel}
theorem get_spec (g : Gr w G) (R : Rm 4 A) {n : Nat} {dims : Dims} {c : Cof} {x : Addr} (gv : GridV B n dims c x) (hn : n = 1 ∨ n = 2) {k X Y : Nat} {d : Nat × Nat} (hd : dims[k]? = some d) (hX : X < d.1) (hY : Y < d.2) (hk1 : k < 1000 ∧ X < 1000 ∧ Y < 1000) {t1 t2 t3 : Tok} :
    Spec w G A (cal 757 [.ref x, .int k t1, .int X t2, .int Y t3]) B [] (RowP (c k Y X)) := by
  intro s h t Fr Hh
  refine enter (l := [("self", some (.ref x)), ("place", some (.int k t1)), ("x", some (.int X t2)), ("y", some (.int Y t3)), ("row", none)]) g Hh k757 (by kernel_rfl) R.room (by rfl) (by kernel_rfl) (by decide +kernel) (by kernel_rfl) (by decide +kernel) (by kernel_rfl) (by kernel_rfl) (by kernel_rfl) (by kernel_rfl) ?_
  intro L h₁ t₁ F; simp only [List.nil_append] at F; refine wpAny_execs_cons ?_
  obtain ⟨pl, pv, tm, ib, lb, e⟩ := gv
  obtain ⟨ap, rv, e1, e2, e3⟩ := e k d hd
  obtain ⟨a, vs, f1, f2, f3⟩ := e3 Y hY
  obtain ⟨v, g1, g2⟩ := f3.2 X hX
  have e1' : pv[((k : Nat) : Int).toNat]? = some (.ref ap) := by simpa using e1
  have f1' : rv[((Y : Nat) : Int).toNat]? = some (.ref a) := by simpa using f1
  have g1' : vs[((X : Nat) : Int).toNat]? = some v := by simpa using g1
  rcases g2 with ⟨rfl, hz⟩ | rv'
  · repeat' walk_at "s"
    refine r_is_none ?_
    rw [show ((Value.none : VV) == Value.none) = true from rfl]
    repeat' walk_at "s"
    rename_i u0 _ D h5 F5 _
    have hm4 := nnI hn
    refine r_mul_list F5 (F5.mem (.head _)) hm4.2.1 hm4.1 fun D2 h6 F6 => ?_
    rw [hm4.2.2] at F6
    repeat' walk_at "s"
    refine ⟨_, _, [], _, _, rfl, rfl, fun _ _ e => .inl e, (F6.frz .head).drop.pub, rfl, D2, _, rfl, ⟨_, Badd.new, LO.of⟩, ?_⟩
    rw [hz]; exact ints_rep _ _ _
  · obtain ⟨ra, ws, rfl, l1, i1⟩ := rv'
    repeat' walk_at "s"
    refine r_is_none ?_
    rw [show ((Value.ref ra : VV) == Value.none) = false from rfl]
    repeat' walk_at "s"
    refine ⟨_, _, [], _, _, rfl, rfl, fun _ _ e => e, FS.pub (by assumption), rfl, ra, ws, rfl, l1, i1⟩
theorem put_spec (g : Gr w G) (R : Rm 4 A) {n : Nat} {dims : Dims} {c : Cof} {x : Addr} {us : List Led} (mg : MGrid B n dims c x us) {k X Y : Nat} {d : Nat × Nat} (hd : dims[k]? = some d) (hX : X < d.1) (hY : Y < d.2) (hk1 : k < 1000 ∧ X < 1000 ∧ Y < 1000) {t1 t2 t3 : Tok} {rw : Addr} {rs : List VV} {r : List Int} (lr : LB B rw rs) (ir : IntsAre rs r) (hr : r.length ≤ 4) :
    Spec w G A (cal 764 [.ref x, .int k t1, .int X t2, .int Y t3, .ref rw]) B us.flatten (fun v B' u' => v = .none ∧ ∃ us', u' = us'.flatten ∧ MGrid B' n dims (updC c k Y X r) x us') := by
  intro s h t Fr Hh
  refine enter (l := [("self", some (.ref x)), ("place", some (.int k t1)), ("x", some (.int X t2)), ("y", some (.int Y t3)), ("row", some (.ref rw))]) g Hh k764 (by kernel_rfl) R.room (by rfl) (by kernel_rfl) (by decide +kernel) (by kernel_rfl) (by decide +kernel) (by kernel_rfl) (by kernel_rfl) (by kernel_rfl) (by kernel_rfl) ?_
  intro L h₁ t₁ F; refine wpAny_execs_cons ?_
  obtain ⟨pl, pv, tm, ib, lb, gp⟩ := id mg
  obtain ⟨ap, rv, uk, e1, e2, e3, e4, e5, e6⟩ := gp.2.2 k d hd
  obtain ⟨a, o, vs, f1, f2, f3, f4⟩ := e6 Y hY
  have e1' : pv[((k : Nat) : Int).toNat]? = some (.ref ap) := by simpa using e1
  have f1' : rv[((Y : Nat) : Int).toNat]? = some (.ref a) := by simpa using f1
  have hrs := ints_len ir
  repeat' walk_at "s"
  refine r_list_of F (Has.lb lr) (by rw [sizeLine_eq]; walk_at "o") fun D oD h2 lD F2 => ?_
  have F3 := F2.frz .head
  have inc : Inc B (Badd B D oD) := Badd.inc
  have lD' : LB (Badd B D oD) D rs := ⟨_, Badd.new, lD⟩
  generalize Badd B D oD = B3 at *
  have ib3 := ib.up inc
  have lb3 := lb.up inc
  have e33 := e3.up inc
  clear F2
  repeat' walk_at "s"
  have hvl := f4.1
  refine r_setitemS (vs := vs) F3 f3 (fun o' => swap_flat o' e2 f2) (by walk_at "o") (by walk_at "o") (by walk_at "o") fun o' h4 lo F4 => ?_
  repeat' walk_at "s"
  rw [Int.toNat_natCast] at lo
  refine ⟨_, _, _, _, _, rfl, rfl, inc, F4.pub, rfl, _, rfl, pl, pv, tm, ib3, lb3, (gp.up inc).set e1 e33 f1 e2 f2 f3 lo ⟨D, rs, rfl, lD', ir⟩ (fun rv' q => LB.uniq F4.base q e33) fun vs' q => LO.uniq q f3⟩
end
-- part LF22
noncomputable def gdims (z : Sizes) (W H n : Int) : Dims := z.map fun p => ((mcuA z W n * p.1).toNat, (mcuD z H n * p.2).toNat)
noncomputable def zeroC (n : Nat) : Cof := fun _ _ _ => zeros n
theorem tabM : ∀ W ∈ ([1, 2, 3, 4, 5] : List Int), ∀ n ∈ ([1, 2] : List Int), ∀ m ∈ ([1, 2] : List Int), 1 ≤ partsI W (n * m) ∧ partsI W (n * m) ≤ 5 := by decide
theorem mcu_small {z : Sizes} {H W n : Int} (ok : OkSizes z) (hz : 0 < z.length) (hn : n = 1 ∨ n = 2) (hH : 1 ≤ H ∧ H ≤ 4) (hW : 1 ≤ W ∧ W ≤ 5) : (1 ≤ mcuA z W n ∧ mcuA z W n ≤ 5) ∧ (1 ≤ mcuD z H n ∧ mcuD z H n ≤ 5) :=
  ⟨tabM _ (mem5 hW) _ (mem2 hn) _ (mem2 (mostA_or ok hz)), tabM _ (mem5 ⟨hH.1, by walk_at "o"⟩) _ (mem2 hn) _ (mem2 (mostD_or ok hz))⟩
theorem mcuN {a b : Int} (ha : 1 ≤ a ∧ a ≤ 5) (hb : b = 1 ∨ b = 2) : ∃ n : Nat, a * b = n ∧ n < 1000 := by
  refine ⟨(a * b).toNat, ?_, ?_⟩ <;> rcases hb with rfl | rfl <;> walk_at "o"
theorem perm_init {α : Type} (x : α) (uk : List α) (us : List (List α)) (Fr : List α) : (uk.reverse ++ (x :: (us.flatten ++ Fr))).Perm (x :: ((us ++ [uk]).flatten ++ Fr)) := by
  classical
  rw [List.perm_iff_count]; intro y
  simp only [List.count_cons, List.count_append, List.flatten_append, List.flatten_cons, List.flatten_nil, List.count_reverse, List.append_nil]; walk_at "o"
section
variable {w : World} {A : Around} {G : Heap} {B : Rel}
theorem grid_make (g : Gr w G) (R : Rm 16 A) {H W : Int} {n : Nat} {z : Sizes} {fr : Addr} (hf : FrameV B H W n z fr) (okz : OkSizes z) (hz : 0 < z.length) (hz' : z.length ≤ 4) (hn : n = 1 ∨ n = 2) (hH : 1 ≤ H ∧ H ≤ 4) (hW : 1 ≤ W ∧ W ≤ 5) :
    Spec w G A (cal 767 [.ref fr]) B [] (fun v B' u' => ∃ x us, v = .ref x ∧ u' = us.flatten ∧ MGrid B' n (gdims z W H n) (zeroC n) x us) := by
  refine make_spec (fI := 750) g (by kernel_rfl) (by kernel_rfl) (by kernel_rfl) fun x dx od D => ?_
  intro s h t Fr Hh
  have R := R.under (args := ⟨.ref 767 :: [.ref fr], []⟩)
  have hnI : (n : Int) = 1 ∨ (n : Int) = 2 := by walk_at "o"
  refine enter (l := [("self", some (.ref x)), ("frame", some (.ref fr)), ("place", none), ("across", none), ("down", none)]) g Hh k750 (by kernel_rfl) R.room (by rfl) (by kernel_rfl) (by decide +kernel) (by kernel_rfl) (by decide +kernel) (by kernel_rfl) (by kernel_rfl) (by kernel_rfl) (by kernel_rfl) ?_
  intro L h₁ t₁ F; simp only [List.cons_append, List.nil_append] at F; refine wpAny_execs_cons ?_
  obtain ⟨cc, cv, vk, t1, t2, t3, t4, ib, lb, ec⟩ := id hf
  have hcv := ec.1
  have hnn := abs12 hn
  repeat' walk_at "s"
  rename_i tm _ od1 _ _ _ _ pl _ _ od2 h3 _ D2 F2
  have F3 := (F2.frz (.tail .head)).frz (.tail .head)
  have ibg : IB (Badd (Badd B x (instObj 767 dx)) dx od2) x 767 [("planes", some (.ref pl)), ("many", some (.int ((n : Int) * n) tm))] := ⟨dx, od2, .inl (.inr ⟨rfl, rfl⟩), .inr ⟨rfl, rfl⟩, D2⟩
  have inc0 : Inc B (Badd (Badd B x (instObj 767 dx)) dx od2) := fun _ _ e => .inl (.inl e)
  generalize Badd (Badd B x (instObj 767 dx)) dx od2 = B0 at *
  clear F2 D2
  have ib0 := ib.up inc0
  have lb0 := lb.up inc0
  have hf0 := hf.up inc0
  refine wpAny_For ?_ (by intro _; rfl)
  repeat' walk_at "s"
  have F4 := ‹FS G B0 ((_, rng _ _ _ _ _ _) :: _) _ _ _ _›
  refine for_rng1 (n := z.length) R.hd F4.drop (F4.mem (.head _)) (by rw [hcv]) (by walk_at "o") (fun i B₁ led₁ l₁ => Ex6 fun us pv m o1 o2 o3 => An3 (led₁ = (pl, lst pv m) :: (us.flatten ++ Fr)) (l₁ = ([("self", some (.ref x)), ("frame", some (.ref fr)), ("place", o1), ("across", o2), ("down", o3)] : Loc)) (GPl B₁ n ((gdims z W H n).take i) (zeroC n) pv us)) ⟨[], [], 0, none, none, none, rfl, rfl, rfl, rfl, fun k d hd => by simp at hd⟩ ?step ?fin
  case step =>
    rintro i B₁ led₁ l₁ h₆ t₆ pv' uu hi inc ⟨us, pv, m, o1, o2, o3, rfl, rfl, gp⟩ F6
    delta Turn
    have ib1 := ib0.up inc
    have ibg1 := ibg.up inc
    have hf1 := hf0.up inc
    obtain ⟨p, hp⟩ : ∃ p, z[i]? = some p := ⟨_, List.getElem?_eq_getElem hi⟩
    have okp := okz p (List.mem_of_getElem? hp)
    have ms := mcu_small okz hz hnI hH hW
    have hpvl : pv.length ≤ 4 := by have := gp.1; rw [List.length_take] at this; walk_at "o"
    clear inc
    repeat' walk_at "s"
    refine r_call (used := []) (by assumption) (padded_spec g (Rm.less (R.deeper _) (by decide)) hf1 okz hz hz' hnI hp) ?_
    rintro Kq hKq v B₂ u₂ h₇ t₇ inc2 ⟨rfl, r, ta, tb, rfl, tbr⟩ F7
    first | refine hKq _ _ ?_ | refine hKq () _ ?_
    clear hKq Kq
    simp only [List.nil_append] at F7
    have ibg2 := ibg1.up inc2
    have gp2 := gp.up inc2
    repeat' walk_at "s"
    refine' r_ListComp (cl := _) ?cl (by rfl) (by decide +kernel) ?_ (by intro _; rfl)
    case cl => with_unfolding_all rfl
    have qA := mcuN ms.1 okp.1
    have qD := mcuN ms.2 okp.2
    generalize hA : mcuA z W n * p.1 = mA at *
    generalize hD : mcuD z H n * p.2 = mD at *
    obtain ⟨nA, eA, zA⟩ := qA
    obtain ⟨nD, eD, zD⟩ := qD
    subst eA eD
    repeat' walk_at "s"
    have F9 := ‹FS G B₂ ((_, rng _ _ _ _ _ _) :: _) _ _ _ _›
    refine iter_rng1 R.hd F9.drop (F9.mem (.head _)) rfl (by walk_at "o") fun I oI h8 T F10 => ?_
    refine r_comp T F10 ?hk ?hc ?hn ?hgo [("y", none), ("across", some (.int nA ta))] ?hlc ?hnd
      (fun j B₃ led₃ l₃ cs => Ex2 fun ov uk => An4 (led₃ = uk.reverse ++ ((pl, lst pv m) :: (us.flatten ++ Fr))) (B₃ = B₂) (l₃ = ([("y", ov), ("across", some (.int nA ta))] : Loc)) (GRows B₂ n nA j (zeroC n i) cs uk)) ⟨none, [], rfl, rfl, rfl, rfl, rfl, fun y hy => by walk_at "o"⟩ ?step2 ?fin2
    case hk => rfl
    case hc => decide +kernel
    case hn => rw [sizeLine_eq]; walk_at "o"
    case hgo => exact .inl ⟨_, _, rfl⟩
    case hlc => walk_at "lc"
    case hnd => simp; decide
    case step2 =>
      rintro C j B₃ led₃ l₃ cs h₉ t₉ pv3 v hj inc3 ⟨ov, uk, rfl, rfl, rfl, gr⟩ hlen ⟨tj, rfl⟩ F11
      delta TurnC
      clear inc3
      repeat' walk_at "s"
      have F12 := ‹FS G B₃ ((_, lst [.none]) :: _) _ _ _ _›
      refine r_mul_list F12 (F12.mem (.head _)) (by walk_at "o") (by walk_at "o") fun E2 h10 F13 => ?_
      rw [Int.toNat_natCast] at F13
      have F14 := FS.sublist (led' := (uk ++ [(E2, lst (List.replicate nA .none))]).reverse ++ ((pl, lst pv m) :: (us.flatten ++ Fr))) F13 (by
        rw [List.reverse_append]; exact List.Sublist.cons_cons _ (List.sublist_cons_self _ _))
      refine ⟨_, _, _, _, _, rfl, fun _ _ e => e, ⟨_, _, rfl, rfl, rfl, ?_⟩, F14⟩
      exact gr.snoc LO.of ⟨by simp, fun x hx => ⟨.none, by simp [hx], .inl ⟨rfl, rfl⟩⟩⟩
    case fin2 =>
      rintro Kq hKq D B₃ led₃ l₃ cs h₉ t₉ inc3 ⟨ov, uk, rfl, rfl, rfl, gr⟩ hlen F11
      refine hKq _ _ ?_
      clear hKq Kq inc3
      have F12 := F11.frz .head
      have F13 : FS G (Badd B₃ D (lst cs nD)) ((pl, lst pv m) :: ((us ++ [uk]).flatten ++ Fr)) _ _ _ _ := F12.perm (perm_init _ _ _ _)
      repeat' walk_at "s"
      refine ⟨_, _, _, _, _, rfl, fun _ _ e => Badd.inc _ _ (inc2 _ _ e), ⟨us ++ [uk], pv ++ [.ref D], m + 1, _, _, _, rfl, rfl, ?_⟩, by assumption⟩
      have ed : (gdims z W H n).take (i + 1) = (gdims z W H n).take i ++ [(nA, nD)] := by
        have : (gdims z W H n)[i]? = some (nA, nD) := by
          unfold gdims
          rw [List.getElem?_map, hp]
          show some ((mcuA z W n * p.1).toNat, (mcuD z H n * p.2).toNat) = _
          rw [hA, hD, Int.toNat_natCast, Int.toNat_natCast]
        rw [List.take_add_one, this]; rfl
      rw [ed]
      have hli : ((gdims z W H n).take i).length = i := by
        rw [List.length_take]; unfold gdims; rw [List.length_map]; walk_at "o"
      exact (gp2.up Badd.inc).snoc (d := (nA, nD)) ⟨_, Badd.new, LO.of⟩ (hli.symm ▸ gr.up Badd.inc)
  case fin =>
    rintro Kq hKq B₁ led₁ l₁ h₆ t₆ inc ⟨us, pv, m, o1, o2, o3, rfl, rfl, gp⟩ F6
    first | refine hKq _ _ ?_ | refine hKq () _ ?_
    clear hKq Kq
    refine wpAny_execs_nil ?_
    have F7 := F6.frz .head
    rw [List.take_of_length_le (by simp [gdims])] at gp
    refine ⟨_, _, us.flatten, _, _, rfl, rfl, fun _ _ e => .inl (inc _ _ (inc0 _ _ e)), F7.pub, rfl, x, us, rfl, rfl, pl, pv, tm, (ibg.up inc).up Badd.inc, ⟨_, Badd.new, LO.of⟩, gp.up Badd.inc⟩
end
-- part LX15
noncomputable def pixN (d : List (List Int)) (x y : Nat) : Int := (d.getD y []).getD x 0
noncomputable def Dim (d : List (List Int)) (W H : Nat) : Prop := d.length = H ∧ ∀ row ∈ d, row.length = W
theorem Dim.row {d : List (List Int)} {W H y : Nat} (h : Dim d W H) (hy : y < H) : (d.getD y []).length = W := by
  have hy' : y < d.length := by rw [h.1]; exact hy
  have e : d.getD y [] = d[y] := by simp [List.getD, hy']
  rw [e]; exact h.2 _ (List.getElem_mem hy')
theorem pix_setD {d : List (List Int)} {W H r c : Nat} {v : Int} (h : Dim d W H) (hr : r < H) (hc : c < W) : Dim (setD d r c v) W H ∧ ∀ x y, pixN (setD d r c v) x y = if y = r ∧ x = c then v else pixN d x y := by
  have hr' : r < d.length := by rw [h.1]; exact hr
  have hl := h.row hr
  refine ⟨⟨by simp [setD, h.1], fun row hrow => ?_⟩, fun x y => ?_⟩
  · unfold setD at hrow
    rcases List.mem_or_eq_of_mem_set hrow with h1 | h1
    · exact h.2 _ h1
    · subst h1; rw [List.length_set]; exact hl
  · unfold setD pixN
    by_cases e : y = r
    · subst e
      have e1 : (d.set y ((d.getD y []).set c v)).getD y [] = (d.getD y []).set c v := by simp [List.getD, hr']
      rw [e1]
      by_cases f : x = c
      · subst f
        have : x < (d.getD y []).length := by rw [hl]; exact hc
        rw [if_pos ⟨rfl, rfl⟩]
        simp only [List.getD_eq_getElem?_getD, List.getElem?_set_self' ] at this ⊢
        simp [this]
      · rw [if_neg (fun q => f q.2)]
        simp only [List.getD_eq_getElem?_getD]
        rw [List.getElem?_set_ne (fun q => f q.symm)]
    · rw [if_neg (fun q => e q.1)]
      have e1 : (d.set r ((d.getD r []).set c v)).getD y [] = d.getD y [] := by
        simp only [List.getD_eq_getElem?_getD]
        rw [List.getElem?_set_ne (fun q => e q.symm)]
      rw [e1]
theorem pix_putRow {d : List (List Int)} {W H r x0 : Nat} {f : Nat → Int} (h : Dim d W H) (hr : r < H) : ∀ m, x0 + m ≤ W → Dim (putRow d r x0 f m) W H ∧ ∀ x y, pixN (putRow d r x0 f m) x y = if y = r ∧ x0 ≤ x ∧ x < x0 + m then f (x - x0) else pixN d x y
  | 0, _ => ⟨h, fun x y => by rw [if_neg (by (first | lia | omega))]; rfl⟩
  | m + 1, hm => by
    obtain ⟨i1, i2⟩ := pix_putRow (x0 := x0) (f := f) h hr m (by (first | lia | omega))
    have e : putRow d r x0 f (m + 1) = setD (putRow d r x0 f m) r (x0 + m) (f m) := by unfold putRow; rw [List.range_succ, List.foldl_append]; rfl
    obtain ⟨j1, j2⟩ := pix_setD (r := r) (c := x0 + m) (v := f m) i1 hr (by (first | lia | omega))
    rw [e]
    refine ⟨j1, fun x y => ?_⟩
    rw [j2, i2]
    by_cases c1 : y = r ∧ x = x0 + m
    · obtain ⟨rfl, rfl⟩ := c1
      rw [if_pos ⟨rfl, rfl⟩, if_pos (by (first | lia | omega)), show x0 + m - x0 = m by (first | lia | omega)]
    · rw [if_neg c1]
      by_cases c2 : y = r ∧ x0 ≤ x ∧ x < x0 + m
      · rw [if_pos c2, if_pos (by (first | lia | omega))]
      · rw [if_neg c2, if_neg (by (first | lia | omega))]
theorem pix_putB {d : List (List Int)} {W H x0 y0 m : Nat} {f : Nat → Nat → Int} (h : Dim d W H) (hm : x0 + m ≤ W) : ∀ k, y0 + k ≤ H → Dim (putB d x0 y0 f m k) W H ∧ ∀ x y, pixN (putB d x0 y0 f m k) x y = if (y0 ≤ y ∧ y < y0 + k) ∧ x0 ≤ x ∧ x < x0 + m then f (y - y0) (x - x0) else pixN d x y
  | 0, _ => ⟨h, fun x y => by rw [if_neg (by (first | lia | omega))]; rfl⟩
  | k + 1, hk => by
    obtain ⟨i1, i2⟩ := pix_putB (y0 := y0) (m := m) (f := f) h hm k (by (first | lia | omega))
    have e : putB d x0 y0 f m (k + 1) = putRow (putB d x0 y0 f m k) (y0 + k) x0 (f k) m := by unfold putB; rw [List.range_succ, List.foldl_append]; rfl
    obtain ⟨j1, j2⟩ := pix_putRow (r := y0 + k) (x0 := x0) (f := f k) i1 (by (first | lia | omega)) m hm
    rw [e]
    refine ⟨j1, fun x y => ?_⟩
    rw [j2, i2]
    by_cases c1 : y = y0 + k ∧ x0 ≤ x ∧ x < x0 + m
    · obtain ⟨rfl, c1⟩ := c1
      rw [if_pos ⟨rfl, c1⟩, if_pos (by (first | lia | omega)), show y0 + k - y0 = k by (first | lia | omega)]
    · rw [if_neg c1]
      by_cases c2 : (y0 ≤ y ∧ y < y0 + k) ∧ x0 ≤ x ∧ x < x0 + m
      · rw [if_pos c2, if_pos (by (first | lia | omega))]
      · rw [if_neg c2, if_neg (by (first | lia | omega))]
/-- what a place of a plane is due -/
noncomputable def dueP (n : Nat) (c : Nat → Nat → List Int) (q : List Int) (x y : Nat) : Int := clampI ((sampI n (c (y / n) (x / n)) q).getD ((y % n) * n + x % n) 0 + 128) 255
noncomputable def dueR (n : Nat) (c : Nat → Nat → List Int) (q : List Int) (W H : Nat) : List (List Int) := (List.range H).map fun y => (List.range W).map fun x => dueP n c q x y
theorem dim_due {n : Nat} {c : Nat → Nat → List Int} {q : List Int} {W H : Nat} : Dim (dueR n c q W H) W H := ⟨by simp [dueR], fun row h => by unfold dueR at h; obtain ⟨y, _, rfl⟩ := List.mem_map.mp h; simp⟩
theorem pix_due {n : Nat} {c : Nat → Nat → List Int} {q : List Int} {W H x y : Nat} (hx : x < W) (hy : y < H) : pixN (dueR n c q W H) x y = dueP n c q x y := by
  unfold pixN dueR; simp [List.getD, hx, hy]
theorem Dim.ext {d e : List (List Int)} {W H : Nat} (h : Dim d W H) (k : Dim e W H) (p : ∀ x y, x < W → y < H → pixN d x y = pixN e x y) : d = e := by
  apply List.ext_getElem (by rw [h.1, k.1])
  intro y h1 h2
  have hy : y < H := by rw [← h.1]; exact h1
  have a1 := h.2 _ (List.getElem_mem h1)
  have a2 := k.2 _ (List.getElem_mem h2)
  apply List.ext_getElem (by rw [a1, a2])
  intro x g1 g2
  have hx : x < W := by rw [← a1]; exact g1
  have := p x y hx hy
  unfold pixN at this
  simpa [List.getD, h1, h2, g1, g2] using this
/-- the blocks before (X, Y) are as due -/
noncomputable def DueTo (n : Nat) (c : Nat → Nat → List Int) (q : List Int) (W H X Y : Nat) (d : List (List Int)) : Prop := Dim d W H ∧ ∀ x y, x < W → y < H → (y / n < Y ∨ (y / n = Y ∧ x / n < X)) → pixN d x y = dueP n c q x y
theorem due_step {n : Nat} {c : Nat → Nat → List Int} {q : List Int} {W H X Y : Nat} {d : List (List Int)} (hn : n = 1 ∨ n = 2) (h : DueTo n c q W H X Y d) {mW mH : Nat} (hX : X * n < W) (hY : Y * n < H) (eW : mW = min n (W - X * n)) (eH : mH = min n (H - Y * n)) :
    DueTo n c q W H (X + 1) Y (putB d (X * n) (Y * n) (fun r p => clampI ((sampI n (c Y X) q).getD (r * n + p) 0 + 128) 255) mW mH) := by
  obtain ⟨h1, h2⟩ := h
  obtain ⟨i1, i2⟩ := pix_putB (x0 := X * n) (y0 := Y * n) (m := mW) (f := fun r p => clampI ((sampI n (c Y X) q).getD (r * n + p) 0 + 128) 255) h1 (by (first | lia | omega)) mH (by (first | lia | omega))
  refine ⟨i1, fun x y hx hy hb => ?_⟩
  rw [i2]
  have hpos : 0 < n := by (first | lia | omega)
  by_cases c1 : y / n = Y ∧ x / n = X
  · obtain ⟨a, b⟩ := c1
    have e1 := Nat.div_add_mod y n
    have e2 := Nat.div_add_mod x n
    have l1 := Nat.mod_lt y hpos
    have l2 := Nat.mod_lt x hpos
    rw [a, Nat.mul_comm] at e1
    rw [b, Nat.mul_comm] at e2
    rw [if_pos (by (first | lia | omega))]
    unfold dueP
    rw [a, b, show y - Y * n = y % n by (first | lia | omega), show x - X * n = x % n by (first | lia | omega)]
  · have c2 : ¬ ((Y * n ≤ y ∧ y < Y * n + mH) ∧ X * n ≤ x ∧ x < X * n + mW) := by
      rintro ⟨⟨a1, a2⟩, a3, a4⟩
      apply c1
      constructor
      · exact Nat.div_eq_of_lt_le (by (first | lia | omega)) (by rw [Nat.succ_mul]; (first | lia | omega))
      · exact Nat.div_eq_of_lt_le (by (first | lia | omega)) (by rw [Nat.succ_mul]; (first | lia | omega))
    rw [if_neg c2]
    refine h2 x y hx hy ?_
    rcases hb with hb | ⟨hb, hc⟩
    · exact .inl hb
    · exact .inr ⟨hb, by have : x / n ≠ X := fun e => c1 ⟨hb, e⟩; (first | lia | omega)⟩
theorem due_row {n : Nat} {c : Nat → Nat → List Int} {q : List Int} {W H X Y : Nat} {d : List (List Int)} (h : DueTo n c q W H X Y d) (hX : ∀ x, x < W → x / n < X) : DueTo n c q W H 0 (Y + 1) d :=
  ⟨h.1, fun x y hx hy hb => h.2 x y hx hy (by
    rcases hb with hb | ⟨_, hb⟩
    · rcases Nat.lt_or_ge (y / n) Y with k | k
      · exact .inl k
      · exact .inr ⟨by (first | lia | omega), hX x hx⟩
    · exact absurd hb (Nat.not_lt_zero _))⟩
theorem due_all {n : Nat} {c : Nat → Nat → List Int} {q : List Int} {W H Y : Nat} {d : List (List Int)} (h : DueTo n c q W H 0 Y d) (hY : ∀ y, y < H → y / n < Y) : d = dueR n c q W H :=
  h.1.ext dim_due fun x y hx hy => by rw [h.2 x y hx hy (.inl (hY y hy)), pix_due hx hy]
theorem due_zero {n : Nat} {c : Nat → Nat → List Int} {q : List Int} {W H : Nat} : DueTo n c q W H 0 0 (List.replicate H (List.replicate W 0)) :=
  ⟨⟨by simp, fun row h => by rw [List.eq_of_mem_replicate h]; simp⟩, fun x y hx hy hb => hb.elim (fun h => absurd h (Nat.not_lt_zero _)) fun h => absurd h.2 (Nat.not_lt_zero _)⟩
section
variable {w : World} {A : Around} {E : VV → Shared → Prop} {s : Shared} {t : Nat} {G : Heap} {B : Rel} {led led' : Led} {env : Env} {pv : Led} {l : Loc} {h : Heap}
theorem r_unpackT {r : Addr} {vs : List VV} {n : Nat} {Q : List VV → Shared → Prop} (hh : A.handled = none) (F : FS G B led env pv l h) (hl : Has B led r (TO vs)) (hn : n = vs.length) (q : ∀ h', FS G B led env pv l h' → Q vs (at_ s h' t)) : wpAny (model pw w) A (unpackItems (.ref r) n none) Q E (at_ s h t) := by
  have hT := F.isT hl
  have : n = vs.toArray.size := by simpa using hn
  subst this
  refine unpackItems_tuple (s := at_ s h t) hh hT fun h' he => ?_
  have F' : FS G B led env pv l h' := F.keeps fun c o hc => he c o (Nat.ne_of_lt (Heap.lt_size hc)) hc
  simpa using q h' F'
end
-- part LF23
theorem parts_nat {n w : Nat} (hn : n = 1 ∨ n = 2) (hw : 1 ≤ w ∧ w ≤ 10) : ∃ a : Nat, partsI w n = a ∧ (∀ x, x < w → x / n < a) ∧ (∀ X, X < a → X * n < w) ∧ a ≤ 10 := by
  rcases hn with rfl | rfl
  · refine ⟨w, ?_, fun x hx => by walk_at "o", fun X hX => by walk_at "o", by walk_at "o"⟩
    unfold partsI; rw [Int.fdiv_eq_ediv_of_nonneg _ (by decide)]; walk_at "o"
  · refine ⟨(w + 1) / 2, ?_, fun x hx => by walk_at "o", fun X hX => by walk_at "o", by walk_at "o"⟩
    unfold partsI; rw [Int.fdiv_eq_ediv_of_nonneg _ (by decide)]; walk_at "o"
theorem cut_nat {n w X : Nat} (h : X * n < w) : cutI n ((w : Int) - (X : Int) * n) = ((min n (w - X * n) : Nat) : Int) := by
  have e : ((X * n : Nat) : Int) = (X : Int) * n := Int.natCast_mul _ _
  rw [← e]; unfold cutI; split <;> walk_at "o"
theorem tabF : ∀ W ∈ ([1, 2, 3, 4, 5] : List Int), ∀ p ∈ ([1, 2] : List Int), ∀ m ∈ ([1, 2] : List Int), ∀ n ∈ ([1, 2] : List Int), p ≤ m → partsI (partsI (W * p) m) n ≤ partsI W (n * m) * p := by decide
theorem parts_fit {n W H : Int} {z : Sizes} {p : Int × Int} (ok : OkSizes z) (hp : p ∈ z) (hn : n = 1 ∨ n = 2) (hH : 1 ≤ H ∧ H ≤ 4) (hW : 1 ≤ W ∧ W ≤ 5) : partsI (planeW z W p) n ≤ mcuA z W n * p.1 ∧ partsI (planeH z H p) n ≤ mcuD z H n * p.2 :=
  have hz : 0 < z.length := List.length_pos_of_mem hp
  ⟨tabF _ (mem5 hW) _ (mem2 (ok p hp).1) _ (mem2 (mostA_or ok hz)) _ (mem2 hn) (le_mostA hp), tabF _ (mem5 ⟨hH.1, by walk_at "o"⟩) _ (mem2 (ok p hp).2) _ (mem2 (mostD_or ok hz)) _ (mem2 hn) (le_mostD hp)⟩
theorem gdims_at {z : Sizes} {W H n : Int} {k : Nat} {p : Int × Int} (hp : z[k]? = some p) : (gdims z W H n)[k]? = some ((mcuA z W n * p.1).toNat, (mcuD z H n * p.2).toNat) := by
  unfold gdims; rw [List.getElem?_map, hp]; rfl
theorem MPlane.dim {B : Rel} {W H : Nat} {d : List (List Int)} {x : Addr} {u : Led} (m : MPlane B W H d x u) : Dim d W H := by
  obtain ⟨_, _, _, _, _, _, _, a, b⟩ := m
  exact ⟨by walk_at "o", fun row h => by have := b row h; walk_at "o"⟩
theorem MPlane.up {B B' : Rel} {W H : Int} {d : List (List Int)} {x : Addr} {u : Led} (m : MPlane B W H d x u) (i : Inc B B') : MPlane B' W H d x u :=
  let ⟨r, rv, t1, t2, a, b, c, e, f⟩ := m; ⟨r, rv, t1, t2, a.up i, b.up i, c, e, f⟩
section
variable {w : World} {A : Around} {G : Heap} {B : Rel}
theorem plane_of_spec (g : Gr w G) (R : Rm 24 A) {H W : Int} {n : Nat} {z : Sizes} {fr gr qw : Addr} (hf : FrameV B H W n z fr) (okz : OkSizes z) (hz : 0 < z.length) (hz' : z.length ≤ 4) (hn : n = 1 ∨ n = 2) (hH : 1 ≤ H ∧ H ≤ 4) (hW : 1 ≤ W ∧ W ≤ 5) {c : Cof} (gv : GridV B n (gdims z W H n) c gr)
    {k : Nat} {tk : Tok} {p : Int × Int} (hp : z[k]? = some p) {qs : List VV} {q : List Int} (lq : TB B qw qs) (iq : IntsAre qs q) (hq : q.length = n * n) (hs : SmallI q) (hc : ∀ y x, (c k y x).length = n * n) {wN hN : Nat} (eW : planeW z W p = wN) (eH : planeH z H p = hN) :
    Spec w G A (cal 637 [.ref fr, .ref gr, .int k tk, .ref qw]) B [] (PlaneP wN hN (dueR n (c k) q wN hN)) := by
  intro s h t Fr Hh
  refine enter (l := [("frame", some (.ref fr)), ("grid", some (.ref gr)), ("place", some (.int k tk)), ("qtable", some (.ref qw)), ("width", none), ("height", none), ("across", none), ("down", none), ("centre", none), ("most", none), ("plane", none), ("y", none), ("x", none)]) g Hh k637 (by kernel_rfl) R.room (by rfl) (by kernel_rfl) (by decide +kernel) (by kernel_rfl) (by decide +kernel) (by kernel_rfl) (by kernel_rfl) (by kernel_rfl) (by kernel_rfl) ?_
  intro L h₁ t₁ F; simp only [List.nil_append] at F; refine wpAny_execs_cons ?_
  have hnI := int12 hn
  obtain ⟨pm, hk⟩ : p ∈ z ∧ k < z.length := ⟨List.mem_of_getElem? hp, by rcases Nat.lt_or_ge k z.length with c | c; exact c; rw [List.getElem?_eq_none c] at hp; cases hp⟩
  have ps := plane_small (n := n) okz hz pm hH hW
  rw [eW, eH] at ps
  obtain ⟨aN, eA, a1, a2, a3⟩ := parts_nat (w := wN) hn (by walk_at "o")
  obtain ⟨dN, eD, d1, d2, d3⟩ := parts_nat (w := hN) hn (by walk_at "o")
  obtain ⟨f1, f2⟩ := parts_fit okz pm hnI hH hW
  rw [eW, eA] at f1
  rw [eH, eD] at f2
  obtain ⟨pl, pv, tm, ibg, lbg, _⟩ := id gv
  obtain ⟨cc, cv, vk, t1, t2, t3, t4, ib, lb, ec⟩ := id hf
  repeat' walk_at "s"
  refine r_call (used := []) (by assumption) (plane_size_spec g (Rm.less (R.deeper _) (by decide)) hf okz hz hz' hH hW hp) ?_
  rintro Kq hKq v B₁ u₁ h₂ t₂ inc1 ⟨rfl, r1, ta, tb, rfl, tb1⟩ F1
  refine hKq _ _ ?_
  clear hKq Kq
  simp only [List.nil_append] at F1
  rw [eW, eH] at tb1
  replace hf := hf.up inc1
  replace gv := gv.up inc1
  replace ib := ib.up inc1
  replace ibg := ibg.up inc1
  replace lq := lq.up inc1
  repeat' walk_at "s"
  refine r_call (used := []) (by assumption) (blocks_spec g (Rm.less (R.deeper _) (by decide)) hf okz hz hz' hH hW hnI hp) ?_
  rintro Kq hKq v B₂ u₂ h₃ t₃ inc2 ⟨rfl, r2, tc, td, rfl, tb2⟩ F2
  refine hKq _ _ ?_
  clear hKq Kq
  simp only [List.nil_append] at F2
  rw [eW, eH, eA, eD] at tb2
  replace hf := hf.up inc2
  replace gv := gv.up inc2
  replace ib := ib.up inc2
  replace ibg := ibg.up inc2
  replace lq := lq.up inc2
  repeat' walk_at "s"
  refine' Assign_Tuple_swapped (names := _) ?_ ?hs ?hw
  case hs => with_unfolding_all rfl
  case hw => with_unfolding_all rfl
  repeat' walk_at "s"
  refine r_unpackT R.hd (by assumption) (Has.m TO.of (.head _)) rfl fun h5 F5 => ?_
  refine assignInOrder_cons (bindName_ ?_)
  repeat' walk_at "s"
  refine assignInOrder_cons (bindName_ ?_)
  repeat' walk_at "s"
  refine assignInOrder_nil ?_
  repeat' walk_at "s"
  rename_i tcen _ _ _ _ _ _ _ _ tmost _ tpa _ _ _ _ _ _ _ F6 tz _
  have F7 := F6.drop
  rw [show (1 * 2 ^ ((8 : Int) - 1).toNat : Int) = 128 from by decide, show (1 * 2 ^ Int.toNat 8 - 1 : Int) = 255 from by decide] at F7
  clear F6
  refine r_call (used := []) F7 (blank_spec g (Rm.less (R.deeper _) (by decide)) (nW := wN) (nH := hN) rfl rfl (by walk_at "o") (by walk_at "o")) ?_
  rintro Kq hKq v B₃ u₃ h₆ t₆ inc3 ⟨px, rfl, mp⟩ F8
  refine hKq _ _ ?_
  clear hKq Kq F7
  replace hf := hf.up inc3
  replace gv := gv.up inc3
  replace ib := ib.up inc3
  replace ibg := ibg.up inc3
  replace lq := lq.up inc3
  repeat' walk_at "s"
  refine wpAny_For ?_ (by intro _; rfl)
  repeat' walk_at "s"
  have F9 := ‹FS G B₃ ((_, rng _ _ _ _ _ _) :: _) _ _ _ _›
  refine for_rng1 (n := dN) R.hd F9.drop (F9.mem (.head _)) rfl (by walk_at "o") (fun i B₄ led₄ l₄ => Ex4 fun u d o1 o2 => An4 (MPlane B₄ wN hN d px u) (DueTo n (c k) q wN hN 0 i d) (led₄ = u ++ Fr) (l₄ = ([("frame", some (.ref fr)), ("grid", some (.ref gr)), ("place", some (.int k tk)), ("qtable", some (.ref qw)), ("width", some (.int wN ta)), ("height", some (.int hN tb)), ("across", some (.int aN tc)), ("down", some (.int dN td)), ("centre", some (.int 128 tcen)), ("most", some (.int 255 tmost)), ("plane", some (.ref px)), ("y", o1), ("x", o2)] : Loc))) ⟨_, _, _, _, mp, due_zero, rfl, rfl⟩ ?step ?fin
  case step =>
    rintro i B₄ led₄ l₄ h₇ t₇ pv' ty hi inc4 ⟨u, d, o1, o2, mp1, du, rfl, rfl⟩ F10
    delta Turn
    replace hf := hf.up inc4
    replace gv := gv.up inc4
    replace ib := ib.up inc4
    replace ibg := ibg.up inc4
    replace lq := lq.up inc4
    clear inc4
    repeat' walk_at "s"
    refine wpAny_For ?_ (by intro _; rfl)
    repeat' walk_at "s"
    have F11 := ‹FS G B₄ ((_, rng _ _ _ _ _ _) :: _) _ _ _ _›
    refine for_rng1 (n := aN) R.hd F11.drop (F11.mem (.head _)) rfl (by walk_at "o") (fun j B₅ led₅ l₅ => Ex3 fun u d o2 => An4 (MPlane B₅ wN hN d px u) (DueTo n (c k) q wN hN j i d) (led₅ = u ++ Fr) (l₅ = ([("frame", some (.ref fr)), ("grid", some (.ref gr)), ("place", some (.int k tk)), ("qtable", some (.ref qw)), ("width", some (.int wN ta)), ("height", some (.int hN tb)), ("across", some (.int aN tc)), ("down", some (.int dN td)), ("centre", some (.int 128 tcen)), ("most", some (.int 255 tmost)), ("plane", some (.ref px)), ("y", some (.int i ty)), ("x", o2)] : Loc))) ⟨_, _, _, mp1, du, rfl, rfl⟩ ?step2 ?fin2
    case step2 =>
      rintro j B₅ led₅ l₅ h₈ t₈ pv2 tx hj inc5 ⟨u, d, o2, mp2, du2, rfl, rfl⟩ F12
      delta Turn
      replace hf := hf.up inc5
      replace gv := gv.up inc5
      replace ib := ib.up inc5
      replace ibg := ibg.up inc5
      replace lq := lq.up inc5
      clear inc5
      repeat' walk_at "s"
      refine r_call (used := []) (by assumption) (get_spec g (Rm.less (R.deeper _) (by decide)) gv hn (gdims_at hp) (X := j) (Y := i) (by walk_at "o") (by walk_at "o") (by walk_at "o")) ?_
      rintro Kq hKq v B₆ u₆ h₉ t₉ inc6 ⟨rfl, rv⟩ F13
      refine hKq _ _ ?_
      clear hKq Kq
      simp only [List.nil_append] at F13
      replace ib := ib.up inc6
      replace lq := lq.up inc6
      replace mp2 := mp2.up inc6
      obtain ⟨ga, gvs, rfl, lg, ig⟩ := id rv
      repeat' walk_at "s"
      refine r_call (used := []) (by assumption) (sample_block_spec g (Rm.less (R.deeper _) (by decide)) rv lq iq hn (hc i j) hq hs) ?_
      rintro Kq hKq v B₇ u₇ h₁₀ t₁₀ inc7 ⟨rfl, sa, svs, rfl, ls, is⟩ F14
      refine hKq _ _ ?_
      clear hKq Kq
      simp only [List.nil_append] at F14
      replace ib := ib.up inc7
      replace mp2 := mp2.up inc7
      repeat' walk_at "s"
      have F15 := ‹FS G B₇ (u ++ Fr) _ _ _ _›
      have qX := d2 i hi
      have qW := a2 j hj
      refine r_call (used := u) F15 (put_block_spec g (Rm.less (R.deeper _) (by decide)) mp2 ls is (X := j) (Y := i) hn (sampI_len n hn _ _) (by rw [← Int.natCast_mul]; walk_at "o") (by rw [← Int.natCast_mul]; walk_at "o") (by walk_at "o") (by walk_at "o") (cut_nat qW) (cut_nat qX)) ?_
      rintro Kq hKq v B₈ u₈ h₁₁ t₁₁ inc8 ⟨rfl, rfl, mp3⟩ F16
      refine hKq _ _ ?_
      clear hKq Kq inc8
      repeat' walk_at "s"
      exact ⟨_, _, _, _, _, rfl, fun _ _ e => inc7 _ _ (inc6 _ _ e), ⟨_, _, _, mp3, due_step hn du2 qW qX rfl rfl, rfl, rfl⟩, by assumption⟩
    case fin2 =>
      rintro Kq hKq B₅ led₅ l₅ h₈ t₈ inc5 ⟨u, d, o2, mp2, du2, rfl, rfl⟩ F12
      refine hKq _ _ ?_
      clear hKq Kq
      repeat' walk_at "s"
      exact ⟨_, _, _, _, _, rfl, inc5, ⟨_, _, _, _, mp2, due_row du2 a1, rfl, rfl⟩, by assumption⟩
  case fin =>
    rintro Kq hKq B₄ led₄ l₄ h₇ t₇ inc4 ⟨u, d, o1, o2, mp1, du, rfl, rfl⟩ F10
    refine hKq _ _ ?_
    clear hKq Kq
    refine wpAny_execs_cons ?_
    repeat' walk_at "s"
    have e := due_all du d1
    subst e
    exact ⟨_, _, [], _, _, rfl, rfl, fun _ _ e => Ball.inc _ _ (inc4 _ _ (inc3 _ _ (inc2 _ _ (inc1 _ _ e)))), F10.frzAll.pub, rfl, px, rfl, mp1.frz⟩
end
-- part LF24
/-- the tables of divisors, by place -/
noncomputable def TabsV (w : World) (B : Rel) (qs : List (List Int)) (d : Addr) : Prop := Ex2 fun o kvs => An3 (B d o) (o.IsDictOf (intKind pw w) kvs) (∀ (k : Nat) q, qs[k]? = some q → ∃ a vs, valueAt kvs (k : Int) = some (.ref a) ∧ TB B a vs ∧ IntsAre vs q)
theorem TabsV.up {w : World} {B B' : Rel} {qs : List (List Int)} {d : Addr} (x : TabsV w B qs d) (i : Inc B B') : TabsV w B' qs d := let ⟨o, kvs, a, b, c⟩ := x; ⟨o, kvs, i _ _ a, b, fun k q h => let ⟨a, vs, e, f, g⟩ := c k q h; ⟨a, vs, e, f.up i, g⟩⟩
noncomputable def OkTab (n : Nat) (q : List Int) : Prop := q.length = n * n ∧ SmallI q
noncomputable def dueZ (n : Nat) (c : Cof) (z : Sizes) (H W : Int) (k : Nat) (p : Int × Int) (q : List Int) : List (List Int) := dueR n (c k) q (planeW z W p).toNat (planeH z H p).toNat
noncomputable def shownZ (n : Nat) (c : Cof) (z : Sizes) (H W : Int) (k : Nat) (p : Int × Int) (q : List Int) : List (List Int) := repI (dueZ n c z H W k p q) (planeW z W p) (planeH z H p) ((mostA z).fdiv p.1) ((mostD z).fdiv p.2) W.toNat H.toNat
theorem fact_or {m p : Int} (hm : m = 1 ∨ m = 2) (hp : p = 1 ∨ p = 2) (h : p ≤ m) : m.fdiv p = 1 ∨ m.fdiv p = 2 := by
  rcases hm with rfl | rfl <;> rcases hp with rfl | rfl <;> first | (exfalso; walk_at "o") | decide
/-- a list of shown planes -/
noncomputable def ShownV (B : Rel) (n : Nat) (c : Cof) (z : Sizes) (H W : Int) (qs : List (List Int)) (m : Nat) (vs : List VV) : Prop := vs.length = m ∧ ∀ (k : Nat) p q, k < m → z[k]? = some p → qs[k]? = some q → ∃ a, vs[k]? = some (.ref a) ∧ PlaneV B W H (shownZ n c z H W k p q) a
theorem ShownV.up {B B' : Rel} {n : Nat} {c : Cof} {z : Sizes} {H W : Int} {qs : List (List Int)} {m : Nat} {vs : List VV} (x : ShownV B n c z H W qs m vs) (i : Inc B B') : ShownV B' n c z H W qs m vs := ⟨x.1, fun k p q a b d => let ⟨e, f, g⟩ := x.2 k p q a b d; ⟨e, f, g.up i⟩⟩
theorem ShownV.snoc {B : Rel} {n : Nat} {c : Cof} {z : Sizes} {H W : Int} {qs : List (List Int)} {m : Nat} {vs : List VV} {a : Addr} {p : Int × Int} {q : List Int} (x : ShownV B n c z H W qs m vs) (hp : z[m]? = some p) (hq : qs[m]? = some q) (r : PlaneV B W H (shownZ n c z H W m p q) a) : ShownV B n c z H W qs (m + 1) (vs ++ [.ref a]) := by
  refine ⟨by simp [x.1], fun k p' q' hk e f => ?_⟩
  rcases Nat.lt_or_ge k m with c1 | c1
  · obtain ⟨b, g1, g2⟩ := x.2 k p' q' c1 e f
    exact ⟨b, by rw [List.getElem?_append_left (by rw [x.1]; exact c1)]; exact g1, g2⟩
  · obtain rfl : k = m := by walk_at "o"
    rw [hp] at e; rw [hq] at f; cases e; cases f
    exact ⟨a, by rw [← x.1]; simp, r⟩
section
variable {w : World} {A : Around} {G : Heap} {B : Rel}
theorem kept_picture_spec (g : Gr w G) (R : Rm 30 A) {H W : Int} {n : Nat} {z : Sizes} {fr gr qd : Addr} (hf : FrameV B H W n z fr) (okz : OkSizes z) (hz : 0 < z.length) (hz' : z.length ≤ 4) (hn : n = 1 ∨ n = 2) (hH : 1 ≤ H ∧ H ≤ 4) (hW : 1 ≤ W ∧ W ≤ 5) {c : Cof} (gv : GridV B n (gdims z W H n) c gr)
    {qs : List (List Int)} (tq : TabsV w B qs qd) (hql : qs.length = z.length) (hq : ∀ q ∈ qs, OkTab n q) (hc : ∀ k y x, (c k y x).length = n * n) {mv : VV} :
    Spec w G A (cal 644 [.ref fr, .ref gr, .ref qd, mv, .bool false]) B [] (fun v B' u' => u' = [] ∧ Ex4 fun x pl vs t => An4 (v = .ref x) (IB B' x 148 [("planes", some (.ref pl)), ("precision", some (.int 8 t)), ("model", some mv)]) (LB B' pl vs) (ShownV B' n c z H W qs z.length vs)) := by
  intro s h t Fr Hh
  refine enter (l := [("frame", some (.ref fr)), ("grid", some (.ref gr)), ("quant", some (.ref qd)), ("model", some mv), ("fancy", some (.bool false)), ("planes", none), ("place", none), ("plane", none), ("across", none), ("down", none)]) g Hh k644 (by kernel_rfl) R.room (by rfl) (by kernel_rfl) (by decide +kernel) (by kernel_rfl) (by decide +kernel) (by kernel_rfl) (by kernel_rfl) (by kernel_rfl) (by kernel_rfl) ?_
  intro L h₁ t₁ F; simp only [List.nil_append] at F; refine wpAny_execs_cons ?_
  obtain ⟨cc, cv, vk, t1, t2, t3, t4, ib, lb, ec⟩ := id hf
  have hcv := ec.1
  repeat' walk_at "s"
  refine wpAny_For ?_ (by intro _; rfl)
  repeat' walk_at "s"
  have F9 := ‹FS G B ((_, rng _ _ _ _ _ _) :: _) _ _ _ _›
  rename_i pl _ _ _ _ _ _ _ _ _ _ _ _ _ _
  refine for_rng1 (n := z.length) R.hd F9.drop (F9.mem (.head _)) (by rw [hcv]) (by walk_at "o") (fun i B₄ led₄ l₄ => Ex5 fun vs o1 o2 o3 o4 => An3 (ShownV B₄ n c z H W qs i vs) (led₄ = (pl, lst vs i) :: Fr) (l₄ = ([("frame", some (.ref fr)), ("grid", some (.ref gr)), ("quant", some (.ref qd)), ("model", some mv), ("fancy", some (.bool false)), ("planes", some (.ref pl)), ("place", o1), ("plane", o2), ("across", o3), ("down", o4)] : Loc))) ⟨[], none, none, none, none, ⟨rfl, fun k p q h => absurd h (Nat.not_lt_zero _)⟩, rfl, rfl⟩ ?step ?fin
  case step =>
    rintro i B₄ led₄ l₄ h₇ t₇ pv' ty hi inc4 ⟨vs, o1, o2, o3, o4, sv, rfl, rfl⟩ F10
    delta Turn
    replace hf := hf.up inc4
    replace gv := gv.up inc4
    replace ib := ib.up inc4
    replace tq := tq.up inc4
    clear inc4
    obtain ⟨p, hp⟩ : ∃ p, z[i]? = some p := ⟨_, List.getElem?_eq_getElem hi⟩
    obtain ⟨q, hqi⟩ : ∃ q, qs[i]? = some q := ⟨_, List.getElem?_eq_getElem (by walk_at "o")⟩
    have hqo := hq q (List.mem_of_getElem? hqi)
    have pm := List.mem_of_getElem? hp
    have ps := plane_small (n := n) okz hz pm hH hW
    have okp := okz p pm
    have fa := fact_or (mostA_or okz hz) okp.1 (le_mostA pm)
    have fd := fact_or (mostD_or okz hz) okp.2 (le_mostD pm)
    obtain ⟨qo, kvs, qb, qi, qa⟩ := id tq
    obtain ⟨qw, qvs, qv, ql, qn⟩ := qa i q hqi
    have hvl := sv.1
    have eW : planeW z W p = ((planeW z W p).toNat : Int) := by walk_at "o"
    have eH : planeH z H p = ((planeH z H p).toNat : Int) := by walk_at "o"
    repeat' walk_at "s"
    with_reducible show wpAny _ _ (subscriptTail _ _ _ _) _ _ _
    refine r_iget (kvs := kvs) (by assumption) ⟨qo, qi, .inl qb⟩ qv fun _ => ?_
    repeat' walk_at "s"
    refine r_call (used := []) (by assumption) (plane_of_spec g (Rm.less (R.deeper _) (by decide)) hf okz hz hz' hn hH hW gv hp ql qn hqo.1 hqo.2 (fun y x => hc i y x) eW eH) ?_
    rintro Kq hKq v B₅ u₅ h₈ t₈ inc5 ⟨rfl, pa, rfl, pv5⟩ F11
    refine hKq _ _ ?_
    clear hKq Kq
    simp only [List.nil_append] at F11
    rw [← eW, ← eH] at pv5
    replace hf := hf.up inc5
    replace ib := ib.up inc5
    replace sv := sv.up inc5
    repeat' walk_at "s"
    refine r_call (used := []) (by assumption) (factors_spec g (Rm.less (R.deeper _) (by decide)) hf okz hz hz' hp) ?_
    rintro Kq hKq v B₆ u₆ h₉ t₉ inc6 ⟨rfl, r, ta, tb, rfl, tb1⟩ F12
    refine hKq _ _ ?_
    clear hKq Kq
    simp only [List.nil_append] at F12
    replace ib := ib.up inc6
    replace sv := sv.up inc6
    replace pv5 := pv5.up inc6
    repeat' walk_at "s"
    refine r_call (used := []) (by assumption) (grown_spec g (Rm.less (R.deeper _) (by decide)) pv5 (by walk_at "o") (by walk_at "o") fa fd (nW := W.toNat) (nH := H.toNat) (by walk_at "o") (by walk_at "o") (by walk_at "o") (by walk_at "o")) ?_
    rintro Kq hKq v B₇ u₇ h₁₀ t₁₀ inc7 ⟨rfl, ga, rfl, pv7⟩ F13
    refine hKq _ _ ?_
    clear hKq Kq
    simp only [List.nil_append] at F13
    replace sv := sv.up inc7
    repeat' walk_at "s"
    exact ⟨_, _, _, _, _, rfl, fun _ _ e => inc7 _ _ (inc6 _ _ (inc5 _ _ e)), ⟨_, _, _, _, _, sv.snoc hp hqi pv7, rfl, rfl⟩, by assumption⟩
  case fin =>
    rintro Kq hKq B₄ led₄ l₄ h₇ t₇ inc4 ⟨vs, o1, o2, o3, o4, sv, rfl, rfl⟩ F10
    refine hKq _ _ ?_
    clear hKq Kq
    have F11 := F10.frz .head
    have ib4 := (ib.up inc4).up (Badd.inc (a := pl) (o := lst vs z.length))
    refine wpAny_execs_cons ?_
    repeat' walk_at "s"
    refine r_call (used := []) F11 (picture_make g (Rm.less (R.deeper _) (by decide))) ?_
    rintro Kq hKq v B₅ u₅ h₈ t₈ inc5 ⟨rfl, x, rfl, ibx⟩ F12
    refine hKq _ _ ?_
    clear hKq Kq
    exact ⟨_, _, [], _, _, rfl, rfl, fun _ _ e => inc5 _ _ (.inl (inc4 _ _ e)), F12.pub, rfl, x, pl, vs, _, rfl, ibx, LB.up ⟨_, Badd.new, LO.of⟩ inc5, (sv.up Badd.inc).up inc5⟩
end
-- part LF25
/-- the law's own record of a component's blocks -/
noncomputable def LotV (w : World) (B : Rel) (c : Nat → Nat → List Int) (aN dN : Nat) (d : Addr) : Prop := Ex1 fun xs => An4 (DB w B d xs) ((∀ X Y, X < aN → Y < dN → ∃ p, atKey xs [(X : Int), (Y : Int)] = some p ∧ RowV B (c Y X) p.2)) ((∀ x ∈ xs, ∃ X Y : Nat, X < aN ∧ Y < dN ∧ x.1 = [(X : Int), (Y : Int)])) ((d == sysModules) = false)
theorem LotV.up {w : World} {B B' : Rel} {c : Nat → Nat → List Int} {aN dN : Nat} {d : Addr} (x : LotV w B c aN dN d) (i : Inc B B') : LotV w B' c aN dN d :=
  let ⟨xs, a, b, e, f⟩ := x; ⟨xs, a.up i, fun X Y hX hY => let ⟨p, g, h⟩ := b X Y hX hY; ⟨p, g, h.up i⟩, e, f⟩
theorem fdivN {x n : Nat} : ((x : Int)).fdiv (n : Int) = ((x / n : Nat) : Int) := by rw [Int.fdiv_eq_ediv_of_nonneg _ (by walk_at "o")]; rfl
theorem fmodN {x n : Nat} : ((x : Int)).fmod (n : Int) = ((x % n : Nat) : Int) := by rw [Int.fmod_eq_emod_of_nonneg _ (by walk_at "o")]; rfl
theorem idxN {x y n : Nat} : ((y : Int)).fmod n * n + ((x : Int)).fmod n = (((y % n) * n + x % n : Nat) : Int) := by rw [fmodN, fmodN, Int.natCast_add, Int.natCast_mul]
theorem idx_lt {x y n : Nat} (hn : n = 1 ∨ n = 2) : (y % n) * n + x % n < n * n := idx12 hn (Nat.mod_lt _ (by walk_at "o")) (Nat.mod_lt _ (by walk_at "o"))
noncomputable abbrev RowsP (d : List (List Int)) : VV → Rel → Led → Prop := fun v B' u' => u' = [] ∧ Ex2 fun a vs => An3 (v = .ref a) (LB B' a vs) (Each (RowV B') d vs)
section
variable {w : World} {A : Around} {G : Heap} {B : Rel}
theorem law_plane_spec (g : Gr w G) (R : Rm 10 A) {n : Nat} (hn : n = 1 ∨ n = 2) {c : Nat → Nat → List Int} {aN dN wN hN : Nat} {lot sz qw : Addr} (lv : LotV w B c aN dN lot) (hX : ∀ x, x < wN → x / n < aN) (hY : ∀ y, y < hN → y / n < dN) (zW : wN ≤ 10) (zH : hN ≤ 10)
    (hc : ∀ y x, (c y x).length = n * n) {qs : List VV} {q : List Int} (lq : TB B qw qs) (iq : IntsAre qs q) (ok : OkTab n q) {tn t1 t2 : Tok} (ts : TB B sz [.int wN t1, .int hN t2]) :
    Spec w G A (cal 814 [.ref lot, .ref qw, .int n tn, .ref sz]) B [] (RowsP (dueR n c q wN hN)) := by
  intro s h t Fr Hh
  refine enter (l := [("lot", some (.ref lot)), ("divisors", some (.ref qw)), ("side", some (.int n tn)), ("size", some (.ref sz)), ("found", none), ("y", none), ("line_here", none), ("x", none), ("worth", none)]) g Hh k814 (by kernel_rfl) R.room (by rfl) (by kernel_rfl) (by decide +kernel) (by kernel_rfl) (by decide +kernel) (by kernel_rfl) (by kernel_rfl) (by kernel_rfl) (by kernel_rfl) ?_
  intro L h₁ t₁ F; simp only [List.nil_append] at F; refine wpAny_execs_cons ?_
  repeat' walk_at "s"
  refine wpAny_For ?_ (by intro _; rfl)
  have e1 : ([Value.int (wN : Int) t1, Value.int (hN : Int) t2] : List VV)[(1 : Int).toNat]? = some (.int (hN : Int) t2) := rfl
  have e0 : ([Value.int (wN : Int) t1, Value.int (hN : Int) t2] : List VV)[(0 : Int).toNat]? = some (.int (wN : Int) t1) := rfl
  repeat' walk_at "s"
  have F9 := ‹FS G B ((_, rng _ _ _ _ _ _) :: _) _ _ _ _›
  rename_i fd _ _ _ _ _ _ _ _ _ _ _ _ _
  refine for_rng1 (n := hN) R.hd F9.drop (F9.mem (.head _)) rfl (by walk_at "o") (fun i B₄ led₄ l₄ => Ex5 fun rs o1 o2 o3 o4 => An3 (Each (RowV B₄) (dueR n c q wN i) rs) (led₄ = (fd, lst rs i) :: Fr) (l₄ = ([("lot", some (.ref lot)), ("divisors", some (.ref qw)), ("side", some (.int n tn)), ("size", some (.ref sz)), ("found", some (.ref fd)), ("y", o1), ("line_here", o2), ("x", o3), ("worth", o4)] : Loc))) ⟨[], none, none, none, none, Each.nil, rfl, rfl⟩ ?step ?fin
  case step =>
    rintro i B₄ led₄ l₄ h₇ t₇ pv' ty hi inc4 ⟨rs, o1, o2, o3, o4, er, rfl, rfl⟩ F10
    delta Turn
    replace lv := lv.up inc4
    replace lq := lq.up inc4
    replace ts := ts.up inc4
    clear inc4
    have hrl := er.1
    simp only [dueR, List.length_map, List.length_range] at hrl
    repeat' walk_at "s"
    refine wpAny_For ?_ (by intro _; rfl)
    repeat' walk_at "s"
    have F11 := ‹FS G B₄ ((_, rng _ _ _ _ _ _) :: _) _ _ _ _›
    rename_i ln _ _ _ _ _ _ _ _ _ _ _ _ _
    refine for_rng1 (n := wN) R.hd F11.drop (F11.mem (.head _)) rfl (by walk_at "o") (fun j B₅ led₅ l₅ => Ex3 fun vs o3 o4 => An3 (IntsAre vs ((List.range j).map fun (x : Nat) => dueP n c q x i)) (led₅ = (ln, lst vs j) :: (fd, lst rs i) :: Fr) (l₅ = ([("lot", some (.ref lot)), ("divisors", some (.ref qw)), ("side", some (.int n tn)), ("size", some (.ref sz)), ("found", some (.ref fd)), ("y", some (.int i ty)), ("line_here", some (.ref ln)), ("x", o3), ("worth", o4)] : Loc))) ⟨[], _, _, .nil, rfl, rfl⟩ ?step2 ?fin2
    case step2 =>
      rintro j B₅ led₅ l₅ h₈ t₈ pv2 tx hj inc5 ⟨vs, o3, o4, iv, rfl, rfl⟩ F12
      delta Turn
      replace lv := lv.up inc5
      replace lq := lq.up inc5
      clear inc5
      have hvl := ints_len iv
      simp only [List.length_map, List.length_range] at hvl
      obtain ⟨xs, db, lk, _, _⟩ := id lv
      obtain ⟨pr, pk, rv⟩ := lk (j / n) (i / n) (hX j hj) (hY i hi)
      have hnz : (n : Int) ≠ 0 ∧ (n : Int).natAbs < 100 := by walk_at "o"
      repeat' walk_at "s"
      rename_i u1 _ u2 _ ka _ F13
      rw [fdivN, fdivN] at F13
      have F14 := F13.frz .head
      have kb : KeyB (Badd B₅ ka (tup [.int ((j / n : Nat) : Int) u1, .int ((i / n : Nat) : Int) u2])) [((j / n : Nat) : Int), ((i / n : Nat) : Int)] ka := ⟨_, ⟨_, Badd.new, TO.of⟩, .cons _ _ (.cons _ _ .nil)⟩
      have inc6 : Inc B₅ (Badd B₅ ka (tup [.int ((j / n : Nat) : Int) u1, .int ((i / n : Nat) : Int) u2])) := Badd.inc
      generalize Badd B₅ ka (tup [.int ((j / n : Nat) : Int) u1, .int ((i / n : Nat) : Int) u2]) = B6 at *
      clear F13
      obtain ⟨dob, db1, db2⟩ := db.up inc6
      replace rv := rv.up inc6
      replace lq := lq.up inc6
      refine r_dget (xs := xs) (Rm.less (R.deeper _) (by decide) : Rm 1 _) F14 ⟨dob, db2, .inl db1⟩ kb pk fun _ => ?_
      repeat' walk_at "s"
      refine r_call (used := []) (by assumption) (law_block_spec g (Rm.less (R.deeper _) (by decide)) rv lq iq hn (hc _ _) ok.1 ok.2) ?_
      rintro Kq hKq v B₇ u₇ h₉ t₉ inc7 ⟨rfl, ba, bvs, rfl, lb, ib⟩ F15
      refine hKq _ _ ?_
      clear hKq Kq
      simp only [List.nil_append] at F15
      have hix := idx_lt (x := j) (y := i) hn
      have h4 := nn4 hn
      obtain ⟨ub, eb⟩ := ints_at ib ((i % n) * n + j % n) (by rw [sampI_len n hn]; exact hix)
      repeat' walk_at "s"
      rw [idxN]
      refine r_item (by assumption) (Has.lb lb) (by walk_at "o") (by walk_at "o") (by rw [Int.toNat_natCast]; exact eb) ?_
      obtain ⟨wv, hwv⟩ : ∃ wv, (sampI n (c (i / n) (j / n)) q).getD ((i % n) * n + j % n) 0 = wv := ⟨_, rfl⟩
      rw [hwv]
      have hdue : ∀ v : Int, (if wv + 128 < 0 then 0 else if 255 < wv + 128 then 255 else wv + 128) = v → (List.range (j + 1)).map (fun (x : Nat) => dueP n c q x i) = (List.range j).map (fun (x : Nat) => dueP n c q x i) ++ [v] := by
        intro v hv
        rw [range_snoc, ← hv, ← hwv]; rfl
      repeat' walk_at "s"
      · refine ⟨_, _, _, _, _, rfl, fun _ _ e => inc7 _ _ (inc6 _ _ e), ⟨_, _, _, ints_snoc' iv (hdue _ ?_), rfl, rfl⟩, by assumption⟩
        rw [if_pos (by walk_at "o")]
      · refine ⟨_, _, _, _, _, rfl, fun _ _ e => inc7 _ _ (inc6 _ _ e), ⟨_, _, _, ints_snoc' iv (hdue _ ?_), rfl, rfl⟩, by assumption⟩
        rw [if_neg (by walk_at "o"), if_pos (by walk_at "o")]
      · refine ⟨_, _, _, _, _, rfl, fun _ _ e => inc7 _ _ (inc6 _ _ e), ⟨_, _, _, ints_snoc' iv (hdue _ ?_), rfl, rfl⟩, by assumption⟩
        rw [if_neg (by walk_at "o"), if_neg (by walk_at "o")]
    case fin2 =>
      rintro Kq hKq B₅ led₅ l₅ h₈ t₈ inc5 ⟨vs, o3, o4, iv, rfl, rfl⟩ F12
      refine hKq _ _ ?_
      clear hKq Kq
      repeat' walk_at "s"
      have F13 := ‹FS G B₅ ((ln, _) :: _) _ _ _ _›
      refine ⟨_, _, _, _, _, rfl, fun _ _ e => Badd.inc _ _ (inc5 _ _ e), ⟨rs ++ [.ref ln], _, _, _, _, ?_, rfl, rfl⟩, F13.frz .head⟩
      have e5 : dueR n c q wN (i + 1) = dueR n c q wN i ++ [(List.range wN).map fun (x : Nat) => dueP n c q x i] := by
        unfold dueR; rw [range_snoc]
      rw [e5]
      exact (er.imp fun _ _ e => (e.up inc5).up Badd.inc).snoc ⟨ln, vs, rfl, ⟨_, Badd.new, LO.of⟩, iv⟩
  case fin =>
    rintro Kq hKq B₄ led₄ l₄ h₇ t₇ inc4 ⟨rs, o1, o2, o3, o4, er, rfl, rfl⟩ F10
    refine hKq _ _ ?_
    clear hKq Kq
    refine wpAny_execs_cons ?_
    repeat' walk_at "s"
    exact ⟨_, _, [], _, _, rfl, rfl, fun _ _ e => .inl (inc4 _ _ e), (F10.frz .head).pub, rfl, fd, rs, rfl, ⟨_, Badd.new, LO.of⟩, er.imp fun _ _ e => e.up Badd.inc⟩
end
-- part LX16
theorem atKey_snoc {xs : KV} {k k' : List Int} {a : Addr} {v : VV} (h : atKey xs k = none) : atKey (xs ++ [(k, a, v)]) k' = if k' = k then some (a, v) else atKey xs k' := by
  unfold atKey at *
  rw [List.find?_append]
  by_cases e : k' = k
  · subst e
    rw [if_pos rfl]
    cases q : xs.find? fun x => decide (x.1 = k') with
    | none => simp
    | some y => rw [q] at h; cases h
  · rw [if_neg e]
    have : ([(k, a, v)] : KV).find? (fun x => decide (x.1 = k')) = none := by simp; exact fun q => e q.symm
    rw [this]; simp
theorem atKey_cons {x : List Int × Addr × VV} {xs : KV} {k : List Int} : atKey (x :: xs) k = if x.1 = k then some x.2 else atKey xs k := by
  unfold atKey
  rw [List.find?_cons]
  by_cases e : x.1 = k
  · simp [e]
  · simp [e]
theorem atKey_put {xs : KV} {k k' : List Int} {v : VV} : atKey (xs.map (putAt k v)) k' = if k' = k then (atKey xs k).map (fun p => (p.1, v)) else atKey xs k' := by
  induction xs with
  | nil => simp [atKey]
  | cons x xs ih =>
    rw [List.map_cons, atKey_cons, atKey_cons, atKey_cons, ih]
    by_cases e : x.1 = k
    · have e1 : putAt k v x = (x.1, x.2.1, v) := by unfold putAt; rw [if_pos e]
      rw [e1]
      by_cases f : k' = k
      · rw [if_pos f, if_pos f, if_pos e, if_pos (e.trans f.symm)]; rfl
      · rw [if_neg f, if_neg f, if_neg (fun q => f (q.symm.trans e)), if_neg (fun q => f (q.symm.trans e))]
    · have e1 : putAt k v x = x := by unfold putAt; rw [if_neg e]
      rw [e1]
      by_cases f : k' = k
      · subst f; rw [if_pos rfl, if_pos rfl, if_neg e, if_neg e]
      · rw [if_neg f, if_neg f]
theorem atKey_none {xs : KV} {k : List Int} (h : ∀ x ∈ xs, x.1 ≠ k) : atKey xs k = none := by
  unfold atKey
  have : xs.find? (fun x => decide (x.1 = k)) = none := by
    rw [List.find?_eq_none]; intro x hx; simpa using h x hx
  rw [this]; rfl
noncomputable abbrev kXY (x y : Nat) : List Int := [(x : Int), (y : Int)]
theorem kXY_inj {x y x' y' : Nat} (h : kXY x y = kXY x' y') : x = x' ∧ y = y' := by
  simp [kXY] at h; (first | lia | omega)
/-- a record filled up to the block (X, Y) -/
noncomputable def LotTo (B : Rel) (c : Nat → Nat → List Int) (aN X Y : Nat) (xs : KV) : Prop :=
  (∀ x y, x < aN → (y < Y ∨ (y = Y ∧ x < X)) → ∃ p, atKey xs (kXY x y) = some p ∧ RowV B (c y x) p.2) ∧ (∀ e ∈ xs, ∃ x y : Nat, x < aN ∧ (y < Y ∨ (y = Y ∧ x < X)) ∧ e.1 = kXY x y) ∧ xs.length ≤ 10 * Y + X
theorem LotTo.up {B B' : Rel} {c : Nat → Nat → List Int} {aN X Y : Nat} {xs : KV} (h : LotTo B c aN X Y xs) (i : Inc B B') : LotTo B' c aN X Y xs :=
  ⟨fun x y hx hy => let ⟨p, a, b⟩ := h.1 x y hx hy; ⟨p, a, b.up i⟩, h.2.1, h.2.2⟩
theorem LotTo.zero {B : Rel} {c : Nat → Nat → List Int} {aN : Nat} : LotTo B c aN 0 0 [] := ⟨fun x y _ h => by (first | lia | omega), fun e he => by simp at he, by simp⟩
theorem LotTo.new {B : Rel} {c : Nat → Nat → List Int} {aN X Y : Nat} {xs : KV} (h : LotTo B c aN X Y xs) (hX : X < aN) {a : Addr} {v : VV} (rv : RowV B (c Y X) v) : LotTo B c aN (X + 1) Y (storedH xs (kXY X Y) a v) := by
  obtain ⟨h1, h2, h3⟩ := h
  have hn : atKey xs (kXY X Y) = none := atKey_none fun x hx e => by
    obtain ⟨x', y', _, b, f⟩ := h2 x hx
    obtain ⟨rfl, rfl⟩ := kXY_inj (f.symm.trans e)
    (first | lia | omega)
  rw [storedH_new hn]
  refine ⟨fun x y hx hy => ?_, fun e he => ?_, by rw [List.length_append]; simp; (first | lia | omega)⟩
  · rw [atKey_snoc hn]
    by_cases q : kXY x y = kXY X Y
    · obtain ⟨rfl, rfl⟩ := kXY_inj q
      rw [if_pos rfl]; exact ⟨_, rfl, rv⟩
    · rw [if_neg q]
      refine h1 x y hx ?_
      rcases hy with hy | ⟨rfl, hy⟩
      · exact .inl hy
      · exact .inr ⟨rfl, by have : x ≠ X := fun e => q (e ▸ rfl); (first | lia | omega)⟩
  · rcases List.mem_append.mp he with he | he
    · obtain ⟨x, y, a1, a2, a3⟩ := h2 e he
      exact ⟨x, y, a1, by (first | lia | omega), a3⟩
    · simp at he; subst he; exact ⟨X, Y, hX, by (first | lia | omega), rfl⟩
theorem LotTo.again {B : Rel} {c c' : Nat → Nat → List Int} {aN X Y : Nat} {xs : KV} (h : LotTo B c aN (X + 1) Y xs) (hX : X < aN) {a : Addr} {v : VV} (rv : RowV B (c' Y X) v) (hc : ∀ y x, ¬ (y = Y ∧ x = X) → c' y x = c y x) :
    LotTo B c' aN (X + 1) Y (storedH xs (kXY X Y) a v) ∧ ∃ a', atKey (storedH xs (kXY X Y) a v) (kXY X Y) = some (a', v) := by
  obtain ⟨h1, h2, h3⟩ := h
  obtain ⟨p, e, _⟩ := h1 X Y hX (by (first | lia | omega))
  rw [storedH_old e]
  refine ⟨⟨fun x y hx hy => ?_, fun e' he => ?_, by rw [List.length_map]; exact h3⟩, p.1, ?_⟩
  · rw [atKey_put]
    by_cases q : kXY x y = kXY X Y
    · obtain ⟨rfl, rfl⟩ := kXY_inj q
      rw [if_pos rfl, e]; exact ⟨_, rfl, rv⟩
    · rw [if_neg q, hc y x (fun k => q (by rw [k.1, k.2]))]
      exact h1 x y hx hy
  · obtain ⟨x, hx, rfl⟩ := List.mem_map.mp he
    obtain ⟨x', y', b1, b2, b3⟩ := h2 x hx
    refine ⟨x', y', b1, b2, ?_⟩
    unfold putAt; split <;> exact b3
  · rw [atKey_put, if_pos rfl, e]; rfl
theorem LotTo.row {B : Rel} {c : Nat → Nat → List Int} {aN Y : Nat} {xs : KV} (h : LotTo B c aN aN Y xs) (ha : aN ≤ 10) : LotTo B c aN 0 (Y + 1) xs :=
  ⟨fun x y hx hy => h.1 x y hx (by (first | lia | omega)), fun e he => let ⟨x, y, a, b, d⟩ := h.2.1 e he; ⟨x, y, a, by (first | lia | omega), d⟩, by have := h.2.2; (first | lia | omega)⟩
theorem LotTo.congr {B : Rel} {c c' : Nat → Nat → List Int} {aN X Y : Nat} {xs : KV} (h : LotTo B c aN X Y xs) (e : c' = c) : LotTo B c' aN X Y xs := e ▸ h
section
variable {w : World} {A : Around} {E : VV → Shared → Prop} {s : Shared} {t : Nat} {G : Heap} {B : Rel} {led : Led} {env : Env} {pv : Led} {l : Loc} {h : Heap} {a d : Addr} {o : Obj} {vs : List VV} {u : Tok} {xs : KV} {k : List Int} {v : VV}
theorem Swap.mem {o' : Obj} {l l' : Led} (s : Swap a o o' l l') : (a, o) ∈ l := by obtain ⟨x, y, e, _⟩ := s.split; rw [e]; simp
theorem r_dsetS {led' : Obj → Led} {Q : Unit → Shared → Prop} {n : Nat} (R : Rm (n + 1) A) (F : FS G B led env pv l h) (hsw : ∀ o', Swap d o o' led (led' o')) (D : DO w B xs o) (hk : KeyB B k a) (hz : xs.length ≤ sizeLine)
    (q : ∀ o' h' t', DO w B (storedH xs k a v) o' → FS G B (led' o') env pv l h' → Q () (at_ s h' t')) : wpAny (model pw w) A (setItem (.ref d) (.ref a) v) Q E (at_ s h t) := by
  refine wpAny_setItem_heap (s := at_ s h t) (knd := TK w) R.in1 (hk.is F.base) (D.at (F.mem (hsw o).mem) F.base) (fun h' x sb => ?_) hz
  obtain ⟨o', es, ep, e, x1, x2, x3, x4, x5⟩ := x
  refine q o' h' _ ⟨es, ep, x1, x2, x3, fun y hy => ?_, x5⟩ (F.swap (hsw o') sb e)
  obtain ⟨_, _, _, _, _, d4, _⟩ := D
  rcases mem_putAt hy with ⟨v', hv⟩ | ⟨e1, e2⟩
  · exact d4 (y.1, y.2.1, v') hv
  · rw [e1, e2]; exact hk
theorem r_isetS {led' : Obj → Led} {Q : Unit → Shared → Prop} {kvs : List (Int × VV)} {i : Int} (F : FS G B led env pv l h) (hsw : ∀ o', Swap d o o' led (led' o')) (D : o.IsDictOf (intKind pw w) kvs) (hz : kvs.length ≤ sizeLine)
    (q : ∀ o' h' t', o'.IsDictOf (intKind pw w) (stored kvs i v) → FS G B (led' o') env pv l h' → Q () (at_ s h' t')) : wpAny (model pw w) A (setItem (.ref d) (.int i u) v) Q E (at_ s h t) := by
  refine wpAny_setItem_pairs (s := at_ s h t) (knd := intKind pw w) (k := i) (by simp [intKind, Value.isInt]) (Heap.dictOf_iff.mpr ⟨o, F.mem (hsw o).mem, D⟩) (fun h' x sb => ?_) hz
  obtain ⟨o', e, D'⟩ := Heap.dictOf_iff.mp x
  exact q o' h' _ D' (F.swap (hsw o') sb e)
end
-- part LF26
/-- the cells not yet reached are zeros -/
noncomputable def ZeroFrom (n : Nat) (c : Cof) (k Y X : Nat) : Prop := ∀ k' y x, (k < k' ∨ (k' = k ∧ (Y < y ∨ (y = Y ∧ X ≤ x)))) → c k' y x = zeros n
noncomputable def AllLen (n : Nat) (c : Cof) : Prop := ∀ k y x, (c k y x).length = n * n
noncomputable def LotsV (w : World) (B : Rel) (n : Nat) (c : Cof) (z : Sizes) (H W : Int) (m : Nat) (vs : List VV) : Prop := vs.length = m ∧ ∀ (k : Nat) p, k < m → z[k]? = some p → ∃ a aN dN, vs[k]? = some (.ref a) ∧ LotV w B (c k) aN dN a ∧ partsI (planeW z W p) n = (aN : Nat) ∧ partsI (planeH z H p) n = (dN : Nat)
theorem LotsV.up {w : World} {B B' : Rel} {n : Nat} {c : Cof} {z : Sizes} {H W : Int} {m : Nat} {vs : List VV} (x : LotsV w B n c z H W m vs) (i : Inc B B') : LotsV w B' n c z H W m vs :=
  ⟨x.1, fun k p a b => let ⟨d, aN, dN, e, f, g⟩ := x.2 k p a b; ⟨d, aN, dN, e, f.up i, g⟩⟩
theorem LotsV.upd {w : World} {B : Rel} {n : Nat} {c : Cof} {z : Sizes} {H W : Int} {m : Nat} {vs : List VV} (x : LotsV w B n c z H W m vs) {y' x' : Nat} {r : List Int} : LotsV w B n (updC c m y' x' r) z H W m vs :=
  ⟨x.1, fun k p a b => let ⟨d, aN, dN, e, f, g⟩ := x.2 k p a b; ⟨d, aN, dN, e, (by
    have : updC c m y' x' r k = c k := by funext y x; unfold updC; rw [if_neg (by walk_at "o")]
    rw [this]; exact f), g⟩⟩
theorem perm_pen {α : Type} (x p : α) (ys Fr : List α) : (x :: (ys ++ (p :: Fr))).Perm (p :: x :: (ys ++ Fr)) := (List.Perm.cons _ List.perm_middle).trans (List.Perm.swap _ _ _)
theorem perm_put {α : Type} (a b c : α) (us Fr : List α) : (a :: b :: c :: (us ++ Fr)).Perm (us ++ (a :: b :: c :: Fr)) := by
  classical
  rw [List.perm_iff_count]; intro x
  simp only [List.count_append, List.count_cons]; walk_at "o"
theorem perm_put' {α : Type} (a b c : α) (us Fr : List α) : (us ++ (a :: b :: c :: Fr)).Perm (b :: a :: c :: (us ++ Fr)) := by
  classical
  rw [List.perm_iff_count]; intro x
  simp only [List.count_append, List.count_cons]; walk_at "o"
theorem zeros_len (n : Nat) : (zeros n).length = n * n := by simp [zeros]
section
variable {w : World} {A : Around} {G : Heap} {B : Rel}
noncomputable abbrev FilledP (w : World) (n : Nat) (z : Sizes) (H W : Int) (pn : Addr) : VV → Rel → Led → Prop := fun v B' u' => (∃ o', u' = [(pn, o')] ∧ PenO o') ∧ Ex5 fun a gr lt vs c => An6 (v = .ref a) (TB B' a [.ref gr, .ref lt]) (GridV B' n (gdims z W H n) c gr) (LB B' lt vs) (LotsV w B' n c z H W z.length vs) (AllLen n c)
theorem law_filled_spec (g : Gr w G) (R : Rm 20 A) {pn : Addr} {o : Obj} (ho : PenO o) {H W : Int} {n : Nat} {z : Sizes} {fr : Addr} (hf : FrameV B H W n z fr) (okz : OkSizes z) (hz : 0 < z.length) (hz' : z.length ≤ 4) (hn : n = 1 ∨ n = 2) (hH : 1 ≤ H ∧ H ≤ 4) (hW : 1 ≤ W ∧ W ≤ 5) {tn : Tok} :
    Spec w G A (cal 807 [.ref pn, .ref fr, .int n tn]) B [(pn, o)] (FilledP w n z H W pn) := by
  intro s h t Fr Hh
  refine enter (l := [("pen", some (.ref pn)), ("frame_here", some (.ref fr)), ("side", some (.int n tn)), ("grid_here", none), ("lots", none), ("place_here", none), ("wide_here", none), ("high_here", none), ("some", none), ("y", none), ("x", none)]) g Hh k807 (by kernel_rfl) R.room (by rfl) (by kernel_rfl) (by decide +kernel) (by kernel_rfl) (by decide +kernel) (by kernel_rfl) (by kernel_rfl) (by kernel_rfl) (by kernel_rfl) ?_
  intro L h₁ t₁ F; simp only [List.cons_append, List.nil_append] at F; refine wpAny_execs_cons ?_
  have hnI := int12 hn
  obtain ⟨cc, cv, vk, t1, t2, t3, t4, ib, lb, ec⟩ := id hf
  have hcv := ec.1
  refine' Assign_Tuple_swapped (names := _) ?_ ?hs ?hw
  case hs => with_unfolding_all rfl
  case hw => with_unfolding_all rfl
  repeat' walk_at "s"
  refine r_call (used := []) (by assumption) (grid_make g (Rm.less (R.deeper _) (by decide)) hf okz hz hz' hn hH hW) ?_
  rintro Kq hKq v B₁ u₁ h₂ t₂ inc1 ⟨gr, us, rfl, rfl, mg⟩ F1
  refine hKq _ _ ?_
  clear hKq Kq
  replace hf := hf.up inc1
  replace ib := ib.up inc1
  replace lb := lb.up inc1
  repeat' walk_at "s"
  refine r_unpackT R.hd (by assumption) (Has.m TO.of (.head _)) rfl fun h5 F5 => ?_
  refine assignInOrder_cons (bindName_ ?_)
  repeat' walk_at "s"
  refine assignInOrder_cons (bindName_ ?_)
  repeat' walk_at "s"
  refine assignInOrder_nil ?_
  repeat' walk_at "s"
  refine wpAny_For ?_ (by intro _; rfl)
  repeat' walk_at "s"
  rename_i lt _ _ _ _ _ _ _ _ _ _ _ _ _ _ _ _ _ _ _ F6
  have F7 : FS G B₁ ((pn, o) :: (lt, lst []) :: (us.flatten ++ Fr)) _ _ _ _ := F6.drop.drop.perm (perm_pen _ _ _ _)
  have hm6 := F6.mem (.head _)
  clear F6
  refine for_rng1 (n := z.length) R.hd F7 hm6 (by rw [hcv]) (by walk_at "o") (fun i B₄ led₄ l₄ => Ex10 fun c us o' vs o1 o2 o3 o4 o5 o6 => An7 (MGrid B₄ n (gdims z W H n) c gr us) (PenO o') (AllLen n c) (ZeroFrom n c i 0 0) (LotsV w B₄ n c z H W i vs) (led₄ = (pn, o') :: (lt, lst vs i) :: (us.flatten ++ Fr)) (l₄ = ([("pen", some (.ref pn)), ("frame_here", some (.ref fr)), ("side", some (.int n tn)), ("grid_here", some (.ref gr)), ("lots", some (.ref lt)), ("place_here", o1), ("wide_here", o2), ("high_here", o3), ("some", o4), ("y", o5), ("x", o6)] : Loc)))
    ⟨zeroC n, us, o, [], none, none, none, none, none, none, mg, ho, fun _ _ _ => zeros_len n, fun _ _ _ _ => rfl, ⟨rfl, fun k p h => absurd h (Nat.not_lt_zero _)⟩, rfl, rfl⟩ ?step ?fin
  case step =>
    rintro i B₄ led₄ l₄ h₇ t₇ pv' ty hi inc4 ⟨c, us, o', vs, o1, o2, o3, o4, o5, o6, mg4, ho4, al, zf, lv, rfl, rfl⟩ F10
    delta Turn
    replace hf := hf.up inc4
    replace ib := ib.up inc4
    clear inc4
    obtain ⟨p, hp⟩ : ∃ p, z[i]? = some p := ⟨_, List.getElem?_eq_getElem hi⟩
    have pm := List.mem_of_getElem? hp
    have ps := plane_small (n := n) okz hz pm hH hW
    obtain ⟨pf1, pf2⟩ := parts_fit okz pm hnI hH hW
    obtain ⟨wN, eW⟩ : ∃ wN : Nat, planeW z W p = wN := ⟨(planeW z W p).toNat, by walk_at "o"⟩
    obtain ⟨hN, eH⟩ : ∃ hN : Nat, planeH z H p = hN := ⟨(planeH z H p).toNat, by walk_at "o"⟩
    rw [eW, eH] at ps
    rw [eW] at pf1
    rw [eH] at pf2
    obtain ⟨aN, eA, a1, a2, a3⟩ := parts_nat (w := wN) hn (by walk_at "o")
    obtain ⟨dN, eD, d1, d2, d3⟩ := parts_nat (w := hN) hn (by walk_at "o")
    rw [eA] at pf1
    rw [eD] at pf2
    have hvl := lv.1
    repeat' walk_at "s"
    refine r_call (used := []) (by assumption) (plane_size_spec g (Rm.less (R.deeper _) (by decide)) hf okz hz hz' hH hW hp) ?_
    rintro Kq hKq v B₅ u₅ h₈ t₈ inc5 ⟨rfl, r, ta, tb, rfl, tb1⟩ F11
    refine hKq _ _ ?_
    clear hKq Kq
    simp only [List.nil_append] at F11
    rw [eW, eH] at tb1
    replace ib := ib.up inc5
    replace mg4 := mg4.up inc5
    replace lv := lv.up inc5
    repeat' walk_at "s"
    refine r_newdict g (by assumption) fun sm _ lo _ => ?_
    repeat' walk_at "s"
    refine wpAny_For ?_ (by intro _; rfl)
    repeat' walk_at "s"
    have F12 := ‹FS G B₅ ((_, rng _ _ _ _ _ _) :: _) _ _ _ _›
    refine for_rng1 (n := dN) R.hd F12.drop (F12.mem (.head _)) eD (by walk_at "o") (fun iy B₆ led₆ l₆ => Ex7 fun c us o' xs od o5 o6 => An9 (MGrid B₆ n (gdims z W H n) c gr us) (PenO o') (AllLen n c) (ZeroFrom n c i iy 0) (LotsV w B₆ n c z H W i vs) (DO w B₆ xs od) (LotTo B₆ (c i) aN 0 iy xs) (led₆ = (sm, od) :: (pn, o') :: (lt, lst vs i) :: (us.flatten ++ Fr)) (l₆ = ([("pen", some (.ref pn)), ("frame_here", some (.ref fr)), ("side", some (.int n tn)), ("grid_here", some (.ref gr)), ("lots", some (.ref lt)), ("place_here", some (.int i ty)), ("wide_here", some (.int wN ta)), ("high_here", some (.int hN tb)), ("some", some (.ref sm)), ("y", o5), ("x", o6)] : Loc)))
      ⟨c, us, o', [], emptyDict, _, _, mg4, ho4, al, zf, lv, DO.empty, LotTo.zero, rfl, rfl⟩ ?step2 ?fin2
    clear F12 F11
    case step2 =>
      rintro iy B₆ led₆ l₆ h₉ t₉ pv2 tyy hy inc6 ⟨c, us, o', xs, od, o5, o6, mg6, ho6, al, zf, lv, D, lt6, rfl, rfl⟩ F13
      delta Turn
      clear mg4 tb1 ib
      repeat' walk_at "s"
      refine wpAny_For ?_ (by intro _; rfl)
      repeat' walk_at "s"
      have F14 := ‹FS G B₆ ((_, rng _ _ _ _ _ _) :: _) _ _ _ _›
      refine for_rng1 (n := aN) R.hd F14.drop (F14.mem (.head _)) eA (by walk_at "o") (fun jx B₇ led₇ l₇ => Ex6 fun c us o' xs od o6 => An9 (MGrid B₇ n (gdims z W H n) c gr us) (PenO o') (AllLen n c) (ZeroFrom n c i iy jx) (LotsV w B₇ n c z H W i vs) (DO w B₇ xs od) (LotTo B₇ (c i) aN jx iy xs) (led₇ = (sm, od) :: (pn, o') :: (lt, lst vs i) :: (us.flatten ++ Fr)) (l₇ = ([("pen", some (.ref pn)), ("frame_here", some (.ref fr)), ("side", some (.int n tn)), ("grid_here", some (.ref gr)), ("lots", some (.ref lt)), ("place_here", some (.int i ty)), ("wide_here", some (.int wN ta)), ("high_here", some (.int hN tb)), ("some", some (.ref sm)), ("y", some (.int iy tyy)), ("x", o6)] : Loc)))
        ⟨c, us, o', xs, od, _, mg6, ho6, al, zf, lv, D, lt6, rfl, rfl⟩ ?step3 ?fin3
      clear F14
      case step3 =>
        rintro jx B₇ led₇ l₇ h₁₀ t₁₀ pv3 txx hx inc7 ⟨c, us, o', xs, od, o6, mg7, ho7, al, zf, lv, D, lt7, rfl, rfl⟩ F15
        delta Turn
        clear mg6 inc6 lt6
        have hnn := nnI hn
        have h4 := nn4 hn
        have hmul := abs12 hn
        have hxl := lt7.2.2
        repeat' walk_at "s"
        rename_i t0 _ l1 h16 F16 u3 _
        refine r_mul_list F16 (F16.mem (.head _)) hnn.2.1 hnn.1 fun zl h17 F17 => ?_
        rw [hnn.2.2] at F17
        have F18 := (F17.frz .head).drop
        have rz : RowV (Badd B₇ zl (lst (List.replicate (n * n) (.int 0 t0)))) (zeros n) (.ref zl) := ⟨zl, _, rfl, ⟨_, Badd.new, LO.of⟩, ints_rep _ _ _⟩
        have inc8 : Inc B₇ (Badd B₇ zl (lst (List.replicate (n * n) (.int 0 t0)))) := Badd.inc
        generalize Badd B₇ zl (lst (List.replicate (n * n) (.int 0 t0))) = B8 at *
        clear F17 F16
        repeat' walk_at "s"
        rename_i ka _ F19
        have F20 := F19.frz .head
        have kb : KeyB (Badd B8 ka (tup [.int (jx : Int) txx, .int (iy : Int) tyy])) (kXY jx iy) ka := ⟨_, ⟨_, Badd.new, TO.of⟩, .cons _ _ (.cons _ _ .nil)⟩
        have inc9 : Inc B₇ (Badd B8 ka (tup [.int (jx : Int) txx, .int (iy : Int) tyy])) := fun _ _ e => .inl (inc8 _ _ e)
        replace rz := rz.up (Badd.inc (a := ka) (o := tup [.int (jx : Int) txx, .int (iy : Int) tyy]))
        generalize Badd B8 ka (tup [.int (jx : Int) txx, .int (iy : Int) tyy]) = B9 at *
        clear F19 F18 inc8
        refine r_dsetS (Rm.less (R.deeper _) (by decide) : Rm 1 _) F20 (fun o' => Swap.head) (D.up inc9) kb (by rw [sizeLine_eq]; walk_at "o") fun od2 h20 _ D2 F21 => ?_
        have L2 := (lt7.up inc9).new hx (a := ka) (v := .ref zl) (by rw [zf i iy jx (by walk_at "o")]; exact rz)
        have zf2 : ZeroFrom n c i iy (jx + 1) := fun k' y x hh => zf k' y x (by walk_at "o")
        clear F20 kb
        repeat' walk_at "s"
        · refine' r_ListComp (cl := _) ?cl4 (by rfl) (by decide +kernel) ?_ (by intro _; rfl)
          case cl4 => with_unfolding_all rfl
          repeat' walk_at "s"
          have F22 := ‹FS G B9 ((_, rng _ _ _ _ _ _) :: _) _ _ _ _›
          refine iter_rng1 R.hd F22.drop (F22.mem (.head _)) (Int.natCast_mul _ _).symm (by walk_at "o") fun I oI h8 T F23 => ?_
          refine r_comp T F23 ?hk ?hc ?hn ?hgo [("at", none), ("pen", some (.ref pn))] ?hlc ?hnd
            (fun j B₃ led₃ l₃ cs => Ex3 fun ov o3 r => An6 (led₃ = (pn, o3) :: (sm, od2) :: (lt, lst vs i) :: (us.flatten ++ Fr)) (B₃ = B9) (l₃ = ([("at", ov), ("pen", some (.ref pn))] : Loc)) (PenO o3) (IntsAre cs r) (r.length = j)) ⟨none, _, [], rfl, rfl, rfl, by assumption, .nil, rfl⟩ ?step4 ?fin4
          case hk => rfl
          case hc => decide +kernel
          case hn => rw [sizeLine_eq]; walk_at "o"
          case hgo => exact .inl ⟨_, _, rfl⟩
          case hlc => walk_at "lc"
          case hnd => simp; decide
          case step4 =>
            rintro C j B₃ led₃ l₃ cs h₉ t₉ pv3 v hj inc3 ⟨ov, o3, r, rfl, rfl, rfl, ho3, iv, hl⟩ hlen ⟨tj, rfl⟩ F24
            delta TurnC
            clear inc3
            repeat' walk_at "s"
            rename_i dd _ o4 _ _ dd0 dd1 ho4 F25
            refine r_itemAny F25 (Has.m LO.of (by walk_at "mem")) dd0 (by simp; walk_at "o") (by simp) ?_
            intro x hx
            obtain ⟨e, u, rfl⟩ : ∃ e u, x = .int e u := by
              simp at hx; rcases hx with rfl | rfl | rfl | rfl | rfl <;> exact ⟨_, _, rfl⟩
            exact ⟨_, _, _, _, _, rfl, fun _ _ e => e, ⟨_, o4, r ++ [e], rfl, rfl, rfl, ho4, ints_snoc iv, by simp [hl]⟩, F25.sublist (List.Sublist.cons_cons _ (List.sublist_cons_self _ _))⟩
          case fin4 =>
            rintro Kq hKq D3 B₃ led₃ l₃ cs h₉ t₉ inc3 ⟨ov, o3, r, rfl, hB3, rfl, ho3, iv, hl⟩ hlen F24
            refine hKq _ _ ?_
            clear hKq Kq
            subst hB3
            clear inc3
            have F25 := F24.frz .head
            have rr : RowV (Badd B₃ D3 (lst cs (n * n))) r (.ref D3) := ⟨D3, _, rfl, ⟨_, Badd.new, LO.of⟩, iv⟩
            have inc10 : Inc B₃ (Badd B₃ D3 (lst cs (n * n))) := Badd.inc
            generalize Badd B₃ D3 (lst cs (n * n)) = B10 at *
            clear F24
            repeat' walk_at "s"
            rename_i ka2 _ F26
            have F27 := F26.frz .head
            have kb2 : KeyB (Badd B10 ka2 (tup [.int (jx : Int) txx, .int (iy : Int) tyy])) (kXY jx iy) ka2 := ⟨_, ⟨_, Badd.new, TO.of⟩, .cons _ _ (.cons _ _ .nil)⟩
            have inc11 : Inc B₃ (Badd B10 ka2 (tup [.int (jx : Int) txx, .int (iy : Int) tyy])) := fun _ _ e => .inl (inc10 _ _ e)
            replace rr := rr.up (Badd.inc (a := ka2) (o := tup [.int (jx : Int) txx, .int (iy : Int) tyy]))
            generalize Badd B10 ka2 (tup [.int (jx : Int) txx, .int (iy : Int) tyy]) = B11 at *
            clear F26 F25 inc10
            refine r_dsetS (Rm.less (R.deeper _) (by decide) : Rm 1 _) F27 (fun o' => Swap.tail Swap.head) (D2.up inc11) kb2 (by rw [sizeLine_eq]; have := L2.2.2; walk_at "o") fun od3 h27 _ D4 F28 => ?_
            have rr' : RowV B11 (updC c i iy jx r i iy jx) (.ref D3) := by
              have : updC c i iy jx r i iy jx = r := by unfold updC; rw [if_pos ⟨rfl, rfl, rfl⟩]
              rw [this]; exact rr
            obtain ⟨L3, a', ak⟩ := (L2.up inc11).again (c' := updC c i iy jx r i) hx (a := ka2) (v := .ref D3) rr' fun y x hyx => by
              unfold updC; rw [if_neg (fun q => hyx q.2)]
            clear F27 kb2 rr' rr
            obtain ⟨ra, rvs, e, lr, ir⟩ : RowV B11 r (.ref D3) := by
              obtain ⟨p, e1, e2⟩ := L3.1 jx iy hx (by walk_at "o")
              rw [ak] at e1; cases e1
              have : updC c i iy jx r i iy jx = r := by unfold updC; rw [if_pos ⟨rfl, rfl, rfl⟩]
              rw [this] at e2; exact e2
            cases e
            have inc12 : Inc B₇ B11 := fun _ _ e => inc11 _ _ (inc9 _ _ e)
            have mg11 := mg7.up inc12
            obtain ⟨plg, pvg, tmg, ibg, _, _⟩ := id mg11
            repeat' walk_at "s"
            rename_i ka3 _ F29
            have F30 := F29.frz .head
            have kb3 : KeyB (Badd B11 ka3 (tup [.int (jx : Int) txx, .int (iy : Int) tyy])) (kXY jx iy) ka3 := ⟨_, ⟨_, Badd.new, TO.of⟩, .cons _ _ (.cons _ _ .nil)⟩
            have inc13 : Inc B11 (Badd B11 ka3 (tup [.int (jx : Int) txx, .int (iy : Int) tyy])) := Badd.inc
            generalize Badd B11 ka3 (tup [.int (jx : Int) txx, .int (iy : Int) tyy]) = B12 at *
            refine r_dget (Rm.less (R.deeper _) (by decide) : Rm 1 _) F30 ⟨od3, D4.up inc13, .inr (.tail _ (.head _))⟩ kb3 ak fun _ => ?_
            repeat' walk_at "s"
            have F31 : FS G B12 (us.flatten ++ ((pn, o3) :: (sm, od3) :: (lt, lst vs i) :: Fr)) _ _ _ _ := F30.perm (perm_put _ _ _ _ _)
            clear F30 F29 kb3
            refine r_call (used := us.flatten) F31 (put_spec g (Rm.less (R.deeper _) (by decide)) (mg11.up inc13) (gdims_at hp) (X := jx) (Y := iy) (by walk_at "o") (by walk_at "o") (by walk_at "o") (lr.up inc13) ir (by walk_at "o")) ?_
            rintro Kq hKq v B13 u13 h31 t31 inc14 ⟨rfl, us', rfl, mg13⟩ F32
            refine hKq _ _ ?_
            clear hKq Kq
            have F33 : FS G B13 ((sm, od3) :: (pn, o3) :: (lt, lst vs i) :: (us'.flatten ++ Fr)) _ _ _ _ := F32.perm (perm_put' _ _ _ _ _)
            repeat' walk_at "s"
            have inc15 : Inc B11 B13 := fun _ _ e => inc14 _ _ (inc13 _ _ e)
            exact ⟨_, _, _, _, _, rfl, fun _ _ e => inc15 _ _ (inc12 _ _ e), ⟨updC c i iy jx r, us', o3, _, od3, _, mg13, ho3, fun k y x => by
                unfold updC; split
                · exact hl
                · exact al k y x, fun k' y x hh => by
                unfold updC; rw [if_neg (by walk_at "o")]; exact zf2 k' y x hh, lv.upd.up fun _ _ e => inc15 _ _ (inc12 _ _ e), D4.up inc15, L3.up inc15, rfl, rfl⟩, F33⟩
        · exact ⟨_, _, _, _, _, rfl, inc9, ⟨c, us, _, _, od2, _, mg7.up inc9, by assumption, al, zf2, lv.up inc9, D2, L2, rfl, rfl⟩, FS.perm (by assumption) (List.Perm.swap _ _ _)⟩
      case fin3 =>
        rintro Kq hKq B₇ led₇ l₇ h₁₀ t₁₀ inc7 ⟨c, us, o', xs, od, o6, mg7, ho7, al, zf, lv, D, lt7, rfl, rfl⟩ F15
        refine hKq _ _ ?_
        clear hKq Kq
        repeat' walk_at "s"
        exact ⟨_, _, _, _, _, rfl, inc7, ⟨c, us, o', xs, od, _, _, mg7, ho7, al, fun k' y x hh => zf k' y x (by walk_at "o"), lv, D, lt7.row a3, rfl, rfl⟩, by assumption⟩
    case fin2 =>
      rintro Kq hKq B₆ led₆ l₆ h₉ t₉ inc6 ⟨c, us, o', xs, od, o5, o6, mg6, ho6, al, zf, lv, D, lt6, rfl, rfl⟩ F13
      refine hKq _ _ ?_
      clear hKq Kq
      have F14 := F13.frz .head
      have inc8 : Inc B₆ (Badd B₆ sm od) := Badd.inc
      have lvn : LotV w (Badd B₆ sm od) (c i) aN dN sm := ⟨xs, ⟨od, Badd.new, D.up inc8⟩, fun X Y hX hY => let ⟨p, e, f⟩ := lt6.1 X Y hX (.inl hY); ⟨p, e, f.up inc8⟩,
        fun x hx => let ⟨X, Y, a, b, e⟩ := lt6.2.1 x hx; ⟨X, Y, a, by walk_at "o", e⟩, lo⟩
      repeat' walk_at "s"
      refine ⟨_, _, _, _, _, rfl, fun _ _ e => inc8 _ _ (inc6 _ _ (inc5 _ _ e)), ⟨c, us, o', vs ++ [.ref sm], _, _, _, _, _, _, mg6.up inc8, ho6, al, fun k' y x hh => zf k' y x (.inl (by walk_at "o")), ⟨by simp [hvl], fun k p' hk e => ?_⟩, rfl, rfl⟩, by assumption⟩
      rcases Nat.lt_or_ge k i with c1 | c1
      · obtain ⟨a, aN', dN', g1, g2, g3⟩ := lv.2 k p' c1 e
        exact ⟨a, aN', dN', by rw [List.getElem?_append_left (by rw [hvl]; exact c1)]; exact g1, g2.up inc8, g3⟩
      · obtain rfl : k = i := by walk_at "o"
        rw [hp] at e; cases e
        exact ⟨sm, aN, dN, by rw [← hvl]; simp, lvn, by rw [eW]; exact eA, by rw [eH]; exact eD⟩
  case fin =>
    rintro Kq hKq B₄ led₄ l₄ h₇ t₇ inc4 ⟨c, us, o', vs, o1, o2, o3, o4, o5, o6, mg4, ho4, al, zf, lv, rfl, rfl⟩ F10
    refine hKq _ _ ?_
    clear hKq Kq
    refine wpAny_execs_cons ?_
    repeat' walk_at "s"
    rename_i ra _ F11
    have F12 := (F11.frz .head).frz (.tail .head)
    have F13 : FS G _ (us.flatten ++ ((pn, o') :: Fr)) _ _ _ _ := F12.perm List.perm_middle.symm
    have F14 := F13.frzAll
    have inc5 : ∀ {X : Rel} {a b : Addr} {x y : Obj}, Inc X (Ball (Badd (Badd X a x) b y) us.flatten) := fun _ _ e => .inl (.inl (.inl e))
    exact ⟨_, _, [(pn, o')], _, _, rfl, rfl, fun _ _ e => inc5 _ _ (inc4 _ _ (inc1 _ _ e)), F14.pub, ⟨o', rfl, ho4⟩, ra, gr, lt, vs, c, rfl, ⟨_, .inl (.inl (.inr ⟨rfl, rfl⟩)), TO.of⟩, (mg4.up fun _ _ e => .inl (.inl e)).frz, ⟨_, .inl (.inr ⟨rfl, rfl⟩), LO.of⟩, lv.up inc5, al⟩
end
-- part LX17
/-- the place of a component that covers a place of the picture -/
theorem cover {m p W : Int} {x : Nat} (hm : m = 1 ∨ m = 2) (hp : p = 1 ∨ p = 2) (hle : p ≤ m) (hW : 1 ≤ W ∧ W ≤ 5) (hx : (x : Int) < W) :
    ∃ k : Nat, ((x : Int) * p).fdiv m = k ∧ (k : Int) < partsI (W * p) m ∧ keptI (((x : Int) * 1).fdiv (m.fdiv p)) (partsI (W * p) m) = k := by
  have hc : (m = 1 ∧ p = 1) ∨ (m = 2 ∧ p = 1) ∨ (m = 2 ∧ p = 2) := by (first | lia | omega)
  rcases hc with ⟨rfl, rfl⟩ | ⟨rfl, rfl⟩ | ⟨rfl, rfl⟩
  · refine ⟨x, ?_⟩
    rw [show Int.fdiv 1 1 = 1 by decide]
    unfold partsI keptI
    simp only [Int.fdiv_eq_ediv_of_nonneg _ (show (0 : Int) ≤ 1 by decide)]
    refine ⟨by (first | lia | omega), by (first | lia | omega), ?_⟩
    rw [if_neg (by (first | lia | omega)), if_pos (by (first | lia | omega))]; (first | lia | omega)
  · refine ⟨x / 2, ?_⟩
    rw [show Int.fdiv 2 1 = 2 by decide]
    unfold partsI keptI
    simp only [Int.fdiv_eq_ediv_of_nonneg _ (show (0 : Int) ≤ 2 by decide)]
    refine ⟨by (first | lia | omega), by (first | lia | omega), ?_⟩
    rw [if_neg (by (first | lia | omega)), if_pos (by (first | lia | omega))]; (first | lia | omega)
  · refine ⟨x, ?_⟩
    rw [show Int.fdiv 2 2 = 1 by decide]
    unfold partsI keptI
    simp only [Int.fdiv_eq_ediv_of_nonneg _ (show (0 : Int) ≤ 1 by decide), Int.fdiv_eq_ediv_of_nonneg _ (show (0 : Int) ≤ 2 by decide)]
    refine ⟨by (first | lia | omega), by (first | lia | omega), ?_⟩
    rw [if_neg (by (first | lia | omega)), if_pos (by (first | lia | omega))]; (first | lia | omega)
theorem pix_rep {d : List (List Int)} {W0 H0 a b : Int} {W H x y : Nat} (hx : x < W) (hy : y < H) : pixN (repI d W0 H0 a b W H) x y = pix d (keptI (((x : Int) * 1).fdiv a) W0) (keptI (((y : Int) * 1).fdiv b) H0) := by
  unfold pixN repI colsI
  simp [List.getD, hx, hy]
/-- the picture shows at each place the sample that covers it -/
theorem shown_pix {n : Nat} {c : Cof} {z : Sizes} {H W : Int} {k : Nat} {p : Int × Int} {q : List Int} (okz : OkSizes z) (hp : p ∈ z) (hH : 1 ≤ H ∧ H ≤ 4) (hW : 1 ≤ W ∧ W ≤ 5) {x y : Nat} (hx : (x : Int) < W) (hy : (y : Int) < H) :
    ∃ x' y' : Nat, ((x : Int) * p.1).fdiv (mostA z) = x' ∧ ((y : Int) * p.2).fdiv (mostD z) = y' ∧ (x' : Int) < planeW z W p ∧ (y' : Int) < planeH z H p ∧ pixN (shownZ n c z H W k p q) x y = pixN (dueZ n c z H W k p q) x' y' := by
  have hz : 0 < z.length := List.length_pos_of_mem hp
  obtain ⟨a, b⟩ := okz p hp
  obtain ⟨x', e1, e2, e3⟩ := cover (mostA_or okz hz) a (le_mostA hp) hW hx
  obtain ⟨y', f1, f2, f3⟩ := cover (mostD_or okz hz) b (le_mostD hp) (by (first | lia | omega)) hy
  refine ⟨x', y', e1, f1, e2, f2, ?_⟩
  unfold shownZ
  rw [pix_rep (by (first | lia | omega)) (by (first | lia | omega))]
  unfold planeW planeH
  rw [e3, f3]
  unfold pix pixN
  rw [Int.toNat_natCast, Int.toNat_natCast]
theorem valueAt_new {kvs : List (Int × VV)} {i : Int} {v : VV} (h : ∀ x ∈ kvs, x.1 ≠ i) (k : Int) : valueAt (stored kvs i v) k = if k = i then some v else valueAt kvs k := by
  have e : stored kvs i v = kvs ++ [(i, v)] := by
    unfold stored
    rw [if_neg]
    rw [List.any_eq_true]
    rintro ⟨x, hx, q⟩
    exact h x hx (by simpa using q)
  rw [e]
  unfold valueAt
  rw [List.find?_append]
  by_cases q : k = i
  · subst q
    have : kvs.find? (fun kv => decide (kv.1 = k)) = none := by
      rw [List.find?_eq_none]; intro x hx; simpa using h x hx
    rw [this]; simp
  · rw [if_neg q]
    have : ([(i, v)] : List (Int × VV)).find? (fun kv => decide (kv.1 = k)) = none := by simp; exact fun r => q r.symm
    rw [this]; simp
/-- the tables up to a place -/
noncomputable def TabsTo (w : World) (B : Rel) (n : Nat) (qs : List (List Int)) (o : Obj) : Prop := Ex1 fun kvs => An5 (o.IsDictOf (intKind pw w) kvs) ((∀ x ∈ kvs, ∃ k : Nat, k < qs.length ∧ x.1 = k)) (kvs.length ≤ qs.length) ((∀ (k : Nat) q, qs[k]? = some q → ∃ a vs, valueAt kvs (k : Int) = some (.ref a) ∧ TB B a vs ∧ IntsAre vs q)) (∀ q ∈ qs, OkTab n q)
theorem TabsTo.up {w : World} {B B' : Rel} {n : Nat} {qs : List (List Int)} {o : Obj} (x : TabsTo w B n qs o) (i : Inc B B') : TabsTo w B' n qs o :=
  let ⟨kvs, a, b, c, d, e⟩ := x; ⟨kvs, a, b, c, fun k q h => let ⟨a, vs, f, g, h⟩ := d k q h; ⟨a, vs, f, g.up i, h⟩, e⟩
theorem TabsTo.tabs {w : World} {B : Rel} {n : Nat} {qs : List (List Int)} {o : Obj} {d : Addr} (x : TabsTo w B n qs o) (b : B d o) : TabsV w B qs d := let ⟨kvs, a, _, _, e, _⟩ := x; ⟨o, kvs, b, a, e⟩
section
variable {w : World} {A : Around} {E : VV → Shared → Prop} {s : Shared} {t : Nat} {G : Heap} {B : Rel} {led : Led} {env : Env} {pv : Led} {l : Loc} {h : Heap} {a d : Addr} {o : Obj} {u : Tok}
theorem r_tabset {led' : Obj → Led} {n m : Nat} {qs : List (List Int)} {q : List Int} {vs : List VV} {i : Int} {Q : Unit → Shared → Prop} (F : FS G B led env pv l h) (hsw : ∀ o', Swap d o o' led (led' o')) (T : TabsTo w B n qs o) (hm : qs.length = m) (hi : i = m) (hz : m ≤ 100) (tb : TB B a vs) (iv : IntsAre vs q) (ok : OkTab n q)
    (k : ∀ o' h' t', TabsTo w B n (qs ++ [q]) o' → FS G B (led' o') env pv l h' → Q () (at_ s h' t')) : wpAny (model pw w) A (setItem (.ref d) (.int i u) (.ref a)) Q E (at_ s h t) := by
  obtain ⟨kvs, a1, a2, a3, a4, a5⟩ := T
  subst hi hm
  have hnew : ∀ x ∈ kvs, x.1 ≠ (qs.length : Int) := fun x hx => by obtain ⟨k, h1, h2⟩ := a2 x hx; (first | lia | omega)
  refine r_isetS F hsw a1 (by rw [sizeLine_eq]; (first | lia | omega)) fun o' h' t' D' F' => k o' h' t' ⟨_, D', fun x hx => ?_, ?_, fun k r hr => ?_, fun r hr => ?_⟩ F'
  · have e : stored kvs (qs.length : Int) (.ref a) = kvs ++ [((qs.length : Int), .ref a)] := by
      unfold stored; rw [if_neg]; rw [List.any_eq_true]; rintro ⟨x, hx, q⟩; exact hnew x hx (by simpa using q)
    rw [e] at hx
    rcases List.mem_append.mp hx with hx | hx
    · obtain ⟨k, h1, h2⟩ := a2 x hx; exact ⟨k, by simp; (first | lia | omega), h2⟩
    · simp at hx; subst hx; exact ⟨qs.length, by simp, rfl⟩
  · have e : stored kvs (qs.length : Int) (.ref a) = kvs ++ [((qs.length : Int), .ref a)] := by
      unfold stored; rw [if_neg]; rw [List.any_eq_true]; rintro ⟨x, hx, q⟩; exact hnew x hx (by simpa using q)
    rw [e]; simp; exact a3
  · rw [valueAt_new hnew]
    rcases snoc_get hr with ⟨c, e⟩ | ⟨rfl, rfl⟩
    · rw [if_neg (by (first | lia | omega))]; exact a4 k r e
    · rw [if_pos rfl]; exact ⟨a, vs, rfl, tb, iv⟩
  · rcases List.mem_append.mp hr with hr | hr
    · exact a5 r hr
    · simp at hr; subst hr; exact ok
end
theorem TabsTo.nil {w : World} {B : Rel} {n : Nat} : TabsTo w B n [] emptyDict := ⟨[], ido_empty, fun x hx => by simp at hx, Nat.le_refl _, fun k q h => by simp at h, fun q h => by simp at h⟩
-- part LX18
theorem shaped_tup (r : List Int) : SeqAt.shaped (.tuple (r.map PyData.int)) = true := by simp [SeqAt.shaped, PyData.canLay0, PyData.depth, canLay_ints, depth_ints]
section
variable {w : World} {A : Around} {E : VV → Shared → Prop} {s : Shared} {t : Nat} {G : Heap} {B : Rel} {led : Led} {env : Env} {pv : Led} {l : Loc} {h : Heap} {a b : Addr} {Q : VV → Shared → Prop}
theorem r_ne_tup {as bs : List VV} {r : List Int} {n : Nat} (R : Rm (n + 4) A) (F : FS G B led env pv l h) (ha : Has B led a (TO as)) (hb : Has B led b (TO bs)) (ia : IntsAre as r) (ib : IntsAre bs r) (q : Q (.bool false) (at_ s h t)) : wpAny (model pw w) A (compareOp .NotEq (.ref a) (.ref b)) Q E (at_ s h t) := by
  obtain ⟨oa, e1, l1⟩ := F.has ha
  obtain ⟨ob, e2, l2⟩ := F.has hb
  exact r_ne_same (tup_reads e1 l1 (ints_reads ia)) (tup_reads e2 l2 (ints_reads ib)) (shaped_tup r) R.unit64 q
theorem r_ne_tup3 {x : SS} {i j : Int} {t1 t2 t3 t4 t5 t6 : Tok} {n : Nat} (R : Rm (n + 4) A) (F : FS G B led env pv l h) (ha : Has B led a (TO [.str x t1, .int i t2, .int j t3])) (hb : Has B led b (TO [.str x t4, .int i t5, .int j t6])) (hx : PyData.strOk x = true) (q : Q (.bool false) (at_ s h t)) : wpAny (model pw w) A (compareOp .NotEq (.ref a) (.ref b)) Q E (at_ s h t) := by
  obtain ⟨oa, e1, l1⟩ := F.has ha
  obtain ⟨ob, e2, l2⟩ := F.has hb
  refine r_ne_same (d := .tuple [.str x, .int i, .int j]) (tup_reads e1 l1 (.cons (.str _ _) (.cons (.int _ _) (.cons (.int _ _) .nil)))) (tup_reads e2 l2 (.cons (.str _ _) (.cons (.int _ _) (.cons (.int _ _) .nil)))) ?_ R.unit64 q
  simp [SeqAt.shaped, PyData.canLay0, PyData.canLayAll0, PyData.depth, PyData.depthAll, hx]
theorem r_ne_row {r : List Int} {va vb : VV} {n : Nat} (R : Rm (n + 4) A) (F : FS G B led env pv l h) (ha : RowV B r va) (hb : RowV B r vb) (q : Q (.bool false) (at_ s h t)) : wpAny (model pw w) A (compareOp .NotEq va vb) Q E (at_ s h t) := by
  obtain ⟨as, ra⟩ := ha.reads F.base
  obtain ⟨bs, rb⟩ := hb.reads F.base
  exact r_ne_same ra rb (shaped_row r) R.unit64 q
theorem r_ne_rows {d : List (List Int)} {as bs : List VV} {n : Nat} (R : Rm (n + 4) A) (F : FS G B led env pv l h) (ha : LB B a as) (hb : LB B b bs) (ea : Each (RowV B) d as) (eb : Each (RowV B) d bs) (q : Q (.bool false) (at_ s h t)) : wpAny (model pw w) A (compareOp .NotEq (.ref a) (.ref b)) Q E (at_ s h t) := by
  obtain ⟨oa, e1, l1⟩ := F.has (Has.lb ha)
  obtain ⟨ob, e2, l2⟩ := F.has (Has.lb hb)
  obtain ⟨xs, r1⟩ := each_reads F.base ea
  obtain ⟨ys, r2⟩ := each_reads F.base eb
  exact r_ne_same (list_reads e1 l1 r1) (list_reads e2 l2 r2) (shaped_rows d) R.unit64 q
theorem r_ne_nil {n : Nat} (R : Rm (n + 4) A) (F : FS G B led env pv l h) (ha : Has B led a (LO [])) (hb : Has B led b (LO [])) (q : Q (.bool false) (at_ s h t)) : wpAny (model pw w) A (compareOp .NotEq (.ref a) (.ref b)) Q E (at_ s h t) := by
  obtain ⟨oa, e1, l1⟩ := F.has ha
  obtain ⟨ob, e2, l2⟩ := F.has hb
  exact r_ne_same (d := .list []) (list_reads e1 l1 .nil) (list_reads e2 l2 .nil) (by rfl) R.unit64 q
end
-- part LF27
theorem small_of40 {r : List Int} (h : ∀ e ∈ r, 1 ≤ e ∧ e ≤ 40) : SmallI r := fun k => by
  rcases Nat.lt_or_ge k r.length with c | c
  · have e : r.getD k 0 = r[k] := by simp [List.getD, c]
    have := h _ (List.getElem_mem c)
    rw [e]; walk_at "o"
  · have e : r.getD k 0 = 0 := by simp [List.getD, List.getElem?_eq_none c]
    rw [e]; decide
theorem ints2 {vs : List VV} {a b : Int} (i : IntsAre vs [a, b]) : ∃ t1 t2, vs = [.int a t1, .int b t2] := by
  cases i with | cons _ t1 r =>
    cases r with | cons _ t2 r => cases r; exact ⟨t1, t2, rfl⟩
theorem pixN_get {d : List (List Int)} {x y : Nat} (h : y < d.length) : pixN d x y = d[y].getD x 0 := by
  unfold pixN
  have e : d.getD y [] = d[y] := by simp [List.getD, h]
  rw [e]
section
variable {w : World} {A : Around} {G : Heap} {B : Rel}
theorem law_spec (g : Gr w G) (R : Rm 40 A) {sc : Addr} {svs : List VV} {ns : List Int} (lsc : LB B sc svs) (isc : IntsAre svs ns) (hns : ns.length ≤ 63) :
    Spec w G A (cal 819 [.ref sc]) B [] (fun v B' u' => u' = [] ∧ v = .bool true) := by
  intro s h t Fr Hh
  refine enter (l := [("script", some (.ref sc)), ("turn", none), ("pen", none), ("side", none), ("frame_here", none), ("sizes", none), ("grid_here", none), ("lots", none), ("most_wide", none), ("most_high", none), ("tables", none), ("place_here", none), ("word_one", none), ("picture_here", none), ("size", none), ("due", none), ("told", none), ("figures", none), ("shown_one", none), ("y", none), ("x", none), ("across", none), ("down", none)]) g Hh k819 (by kernel_rfl) R.room (by rfl) (by kernel_rfl) (by decide +kernel) (by kernel_rfl) (by decide +kernel) (by kernel_rfl) (by kernel_rfl) (by kernel_rfl) (by kernel_rfl) ?_
  intro L h₁ t₁ F; simp only [List.nil_append] at F; refine wpAny_execs_cons ?_
  replace F := F.only (l' := [("script", some (.ref sc)), ("pen", none), ("grid_here", none), ("lots", none), ("place_here", none)]) (by walk_at "subl")
  have hsl := ints_len isc
  refine wpAny_For ?_ (by intro _; rfl)
  repeat' walk_at "s"
  have F2 := ‹FS G B ((_, rng _ _ _ _ _ _) :: _) _ _ _ _›
  obtain ⟨N, eN, bN⟩ : ∃ N : Nat, (if (if (2 : Int) < (svs.length : Int) then (2 : Int) else (svs.length : Int)) > 1 then (if (2 : Int) < (svs.length : Int) then (2 : Int) else (svs.length : Int)) else (1 : Int)) = N ∧ N ≤ 2 := by
    refine ⟨(if (if (2 : Int) < (svs.length : Int) then (2 : Int) else (svs.length : Int)) > 1 then (if (2 : Int) < (svs.length : Int) then (2 : Int) else (svs.length : Int)) else (1 : Int)).toNat, ?_, ?_⟩ <;> split <;> split <;> walk_at "o"
  refine for_rng1 (n := N) R.hd F2.drop (F2.mem (.head _)) eN (by walk_at "o") (fun i B₄ led₄ l₄ => Ex4 fun (f0 f1 f2 f3 : Option VV) => An2 (led₄ = Fr) (l₄ = ([("script", some (.ref sc)), ("pen", f0), ("grid_here", f1), ("lots", f2), ("place_here", f3)] : Loc))) ⟨none, none, none, none, rfl, rfl⟩ ?step ?fin
  case step =>
    rintro i B₁ led₁ l₁ h₇ t₇ pv' ty hi inc1 ⟨f0, f1, f2, f3, rfl, rfl⟩ F10
    delta Turn
    replace lsc := lsc.up inc1
    clear F F2
    repeat' walk_at "s"
    refine r_call (used := []) (by assumption) (pen_spec g (Rm.less (R.deeper _) (by decide)) lsc isc hns (by walk_at "o") (by walk_at "o")) ?_
    rintro Kq hKq v B₂ u₂ h₈ t₈ inc2 ⟨rfl, pn, o, rfl, rfl, ho⟩ F11
    refine hKq _ _ ?_
    clear hKq Kq inc2 F10
    simp only [List.cons_append, List.nil_append] at F11
    repeat' walk_at "s"
    refine r_itemAny (by assumption) (Has.m LO.of (by walk_at "mem")) (by assumption) (by simp; walk_at "o") (by simp) ?_
    intro x hx
    obtain ⟨n, tn, rfl, hn⟩ : ∃ (n : Nat) (u : Tok), x = .int n u ∧ (n = 1 ∨ n = 2) := by
      simp at hx; rcases hx with rfl | rfl | rfl
      · exact ⟨2, _, rfl, .inr rfl⟩
      · exact ⟨2, _, rfl, .inr rfl⟩
      · exact ⟨1, _, rfl, .inl rfl⟩
    clear hx
    rename_i o1 _ _ _ _ ho1 F12
    have F13 := F12.sublist (led' := (pn, o1) :: led₁) (List.Sublist.cons_cons _ (List.sublist_cons_self _ _))
    clear F12 F11
    repeat' walk_at "s"
    refine r_callT (by assumption) .head (law_frame_spec g (Rm.less (R.deeper _) (by decide)) ho1) ?_
    rintro Kq hKq v B₃ u₃ h₉ t₉ inc3 ⟨⟨o2, rfl, ho2⟩, fa, fr, sz, z, H, W, rfl, tbf, hf, szv, okz, hzl, hH, hW⟩ F14
    refine hKq _ _ ?_
    clear hKq Kq F13
    simp only [List.cons_append, List.nil_append] at F14
    have hz : 0 < z.length := by walk_at "o"
    have hz' : z.length ≤ 4 := by walk_at "o"
    repeat' walk_at "s"
    refine r_callT (by assumption) .head (law_filled_spec g (Rm.less (R.deeper _) (by decide)) ho2 hf okz hz hz' hn hH hW) ?_
    rintro Kq hKq v B₄ u₄ h₁₀ t₁₀ inc4 ⟨⟨o3, rfl, ho3⟩, ga, gr, lt, lvs, c, rfl, tbg, gv, lbl, lv, al⟩ F15
    refine hKq _ _ ?_
    clear hKq Kq F14
    simp only [List.cons_append, List.nil_append] at F15
    replace hf := hf.up inc4
    obtain ⟨zvs, lbz, ez⟩ : ∃ vs, LB B₄ sz vs ∧ Each (PairT B₄) z vs := let ⟨vs, a, b⟩ := szv; ⟨vs, a.up inc4, b.imp fun _ _ e => e.up inc4⟩
    have inc14 : Inc B₂ B₄ := fun _ _ e => inc4 _ _ (inc3 _ _ e)
    clear szv tbf inc4 inc3
    repeat' walk_at "s"
    refine' Assign_Tuple_swapped (names := _) ?_ ?hs ?hw
    case hs => with_unfolding_all rfl
    case hw => with_unfolding_all rfl
    repeat' walk_at "s"
    refine' r_ListComp (cl := _) ?cl1 (by rfl) (by decide +kernel) ?_ (by intro _; rfl)
    case cl1 => with_unfolding_all rfl
    repeat' walk_at "s"
    have hzvl := ez.1
    refine r_iter_list R.hd (by assumption) lbz fun Ia oIa h11a Ta F16a => ?_
    refine r_comp Ta F16a ?hka ?hca ?hna ?hgoa [("one", none), ("other", none)] ?hlca ?hnda
      (fun j B₅ led₅ l₅ cs => Ex2 fun v1 v2 => An4 ((pn, o3) :: led₁ = led₅) (B₄ = B₅) (l₅ = ([("one", v1), ("other", v2)] : Loc)) (IntsAre cs ((z.take j).map (·.1)))) ⟨none, none, rfl, rfl, rfl, .nil⟩ ?sta ?fia
    case hka => rfl
    case hca => decide +kernel
    case hna => rw [sizeLine_eq]; walk_at "o"
    case hgoa => exact .inr ⟨_, _, _, rfl⟩
    case hlca => walk_at "lc"
    case hnda => simp; decide
    case sta =>
      rintro C j B₅ led₅ l₅ cs h₁₂ t₁₂ pv3 v hj inc5 ⟨v1, v2, hle, hBe, rfl, iv⟩ hlen hv F17
      delta TurnC
      subst hle hBe
      clear inc5
      have hj' : j < z.length := by walk_at "o"
      obtain ⟨p, hp⟩ : ∃ p, z[j]? = some p := ⟨_, List.getElem?_eq_getElem hj'⟩
      obtain ⟨v', hv', a, ta, tb, rfl, tbp⟩ := ez.2 j p hp
      obtain rfl : v = .ref a := by have := hv.symm.trans hv'; cases this; rfl
      refine r_assignT2 R.hd F17 (Has.tb tbp) fun _ _ => ?_
      repeat' walk_at "s"
      refine ⟨_, _, _, _, _, rfl, fun _ _ e => e, ⟨_, _, rfl, rfl, rfl, ?_⟩, by assumption⟩
      rw [show z.take (j + 1) = z.take j ++ [p] by rw [List.take_add_one, hp]; rfl, List.map_append]
      exact ints_snoc iv
    case fia =>
      rintro Kq hKq Da B₅ led₅ l₅ cs h₁₂ t₁₂ inc5 ⟨v1, v2, hle, hBe, rfl, iv⟩ hlen F17
      refine hKq _ _ ?_
      clear hKq Kq inc5
      subst hle hBe
      rw [hzvl, List.take_length] at iv
      repeat' walk_at "s"
      refine r_maxl R.hd F17 (Has.m LO.of (.head _)) iv (by simpa using hz) fun Ma uma h₁₃ t₁₃ hM hMle F18 => ?_
      obtain rfl : Ma = mostA z := (max_uni _ 0 Ma (.inl hM) (by obtain ⟨q, hq, rfl⟩ := List.mem_map.mp hM; have := okz q hq; walk_at "o") hMle).symm
      have F19 := F18.drop
      clear F17 F18 hM hMle iv
      repeat' walk_at "s"
      refine' r_ListComp (cl := _) ?cl2 (by rfl) (by decide +kernel) ?_ (by intro _; rfl)
      case cl2 => with_unfolding_all rfl
      repeat' walk_at "s"
      refine r_iter_list R.hd (by assumption) lbz fun Ib oIb h11b Tb F16b => ?_
      refine r_comp Tb F16b ?hkb ?hcb ?hnb ?hgob [("one", none), ("other", none)] ?hlcb ?hndb
        (fun j B₅ led₅ l₅ cs => Ex2 fun v1 v2 => An4 ((pn, o3) :: led₁ = led₅) (B₄ = B₅) (l₅ = ([("one", v1), ("other", v2)] : Loc)) (IntsAre cs ((z.take j).map (·.2)))) ⟨none, none, rfl, rfl, rfl, .nil⟩ ?stb ?fib
      case hkb => rfl
      case hcb => decide +kernel
      case hnb => rw [sizeLine_eq]; walk_at "o"
      case hgob => exact .inr ⟨_, _, _, rfl⟩
      case hlcb => walk_at "lc"
      case hndb => simp; decide
      case stb =>
        rintro C j B₅ led₅ l₅ cs h₁₂ t₁₂ pv3 v hj inc5 ⟨v1, v2, hle, hBe, rfl, iv⟩ hlen hv F17
        delta TurnC
        subst hle hBe
        clear inc5
        have hj' : j < z.length := by walk_at "o"
        obtain ⟨p, hp⟩ : ∃ p, z[j]? = some p := ⟨_, List.getElem?_eq_getElem hj'⟩
        obtain ⟨v', hv', a, ta, tb, rfl, tbp⟩ := ez.2 j p hp
        obtain rfl : v = .ref a := by have := hv.symm.trans hv'; cases this; rfl
        refine r_assignT2 R.hd F17 (Has.tb tbp) fun _ _ => ?_
        repeat' walk_at "s"
        refine ⟨_, _, _, _, _, rfl, fun _ _ e => e, ⟨_, _, rfl, rfl, rfl, ?_⟩, by assumption⟩
        rw [show z.take (j + 1) = z.take j ++ [p] by rw [List.take_add_one, hp]; rfl, List.map_append]
        exact ints_snoc iv
      case fib =>
        rintro Kq hKq Db B₅ led₅ l₅ cs h₁₂ t₁₂ inc5 ⟨v1, v2, hle, hBe, rfl, iv⟩ hlen F17
        refine hKq _ _ ?_
        clear hKq Kq inc5
        subst hle hBe
        rw [hzvl, List.take_length] at iv
        repeat' walk_at "s"
        refine r_maxl R.hd F17 (Has.m LO.of (.head _)) iv (by simpa using hz) fun Mb umb h₁₃ t₁₃ hM hMle F18 => ?_
        obtain rfl : Mb = mostD z := (max_uni _ 0 Mb (.inl hM) (by obtain ⟨q, hq, rfl⟩ := List.mem_map.mp hM; have := okz q hq; walk_at "o") hMle).symm
        have F19 := F18.drop
        clear F17 F18 hM hMle iv
        repeat' walk_at "s"
        refine r_unpackT R.hd (by assumption) (Has.m TO.of (.head _)) rfl fun h14 F20 => ?_
        replace F20 := F20.drop
        refine assignInOrder_cons (bindName_ ?_)
        repeat' walk_at "s"
        refine assignInOrder_cons (bindName_ ?_)
        repeat' walk_at "s"
        refine assignInOrder_nil ?_
        repeat' walk_at "s"
        refine r_newdict g (by assumption) fun td _ lo _ => ?_
        repeat' walk_at "s"
        refine wpAny_For ?_ (by intro _; rfl)
        repeat' walk_at "s"
        have F21 := ‹FS G B₄ ((_, rng _ _ _ _ _ _) :: _) _ _ _ _›
        have F22 := (F21.drop.perm (List.Perm.swap _ _ _)).only (l' := ([("tables", some (.ref td)), ("most_wide", some (.int (mostA z) uma)), ("most_high", some (.int (mostD z) umb)), ("sizes", some (.ref sz)), ("frame_here", some (.ref fr)), ("side", some (.int n tn)), ("script", some (.ref sc)), ("pen", some (.ref pn)), ("grid_here", some (.ref gr)), ("lots", some (.ref lt)), ("place_here", _)] : Loc)) (by walk_at "subl")
        have hmul := abs12 hn
        have h4 := nn4 hn
        refine for_rng1 (n := z.length) R.hd F22 (F21.mem (.head _)) (by rw [hzvl]) (by walk_at "o") (fun k B₅ led₅ l₅ => Ex4 fun qs od o4 o1 => An5 (TabsTo w B₅ n qs od) (qs.length = k) (PenO o4) (led₅ = (pn, o4) :: (td, od) :: led₁) (l₅ = ([("tables", some (.ref td)), ("most_wide", some (.int (mostA z) uma)), ("most_high", some (.int (mostD z) umb)), ("sizes", some (.ref sz)), ("frame_here", some (.ref fr)), ("side", some (.int n tn)), ("script", some (.ref sc)), ("pen", some (.ref pn)), ("grid_here", some (.ref gr)), ("lots", some (.ref lt)), ("place_here", o1)] : Loc))) ⟨[], emptyDict, o3, _, TabsTo.nil, rfl, ho3, rfl, rfl⟩ ?st3 ?fi3
        clear F20 F21 F22 F19
        case st3 =>
          rintro k B₅ led₅ l₅ h₁₅ t₁₅ pv4 tk hk inc5 ⟨qs, od, o4, o1', T, hql, ho4, rfl, rfl⟩ F23
          delta Turn
          clear inc5
          repeat' walk_at "s"
          refine' r_ListComp (cl := _) ?cl4 (by rfl) (by decide +kernel) ?_ (by intro _; rfl)
          case cl4 => with_unfolding_all rfl
          repeat' walk_at "s"
          have F24 := ‹FS G B₅ ((_, rng _ _ _ _ _ _) :: _) _ _ _ _›
          refine iter_rng1 R.hd F24.drop (F24.mem (.head _)) (Int.natCast_mul _ _).symm (by walk_at "o") fun I4 oI4 h16 T4 F25 => ?_
          refine r_comp T4 F25 ?hk4 ?hc4 ?hn4 ?hgo4 [("at", none), ("pen", some (.ref pn)), ("place_here", some (.int k tk))] ?hlc4 ?hnd4
            (fun j B₆ led₆ l₆ cs => Ex3 fun ov o5 r => An7 (led₆ = (pn, o5) :: (td, od) :: led₁) (B₅ = B₆) (l₆ = ([("at", ov), ("pen", some (.ref pn)), ("place_here", some (.int k tk))] : Loc)) (PenO o5) (IntsAre cs r) (r.length = j) (∀ e ∈ r, 1 ≤ e ∧ e ≤ 40)) ⟨none, o4, [], rfl, rfl, rfl, ho4, .nil, rfl, fun e he => by simp at he⟩ ?st4 ?fi4
          clear F24 F25
          case hk4 => rfl
          case hc4 => decide +kernel
          case hn4 => rw [sizeLine_eq]; walk_at "o"
          case hgo4 => exact .inl ⟨_, _, rfl⟩
          case hlc4 => walk_at "lc"
          case hnd4 => simp; decide
          case st4 =>
            rintro C j B₆ led₆ l₆ cs h₁₇ t₁₇ pv5 v hj inc6 ⟨ov, o5, r, rfl, rfl, rfl, ho5, iv, hl, hb⟩ hlen ⟨tj, rfl⟩ F26
            delta TurnC
            clear inc6
            have k0 : 0 ≤ (k : Int).fmod 2 := Int.fmod_nonneg_of_pos _ (by decide)
            have k1 : (k : Int).fmod 2 < 2 := Int.fmod_lt_of_pos _ (by decide)
            repeat' walk_at "s"
            with_reducible show wpAny _ _ (subscriptTail _ _ _ _) _ _ _
            refine r_itemAny (by assumption) (Has.m LO.of (by walk_at "mem")) k0 (by exact k1) (by simp) ?_
            intro x hx
            obtain ⟨m, u, rfl, hm0, hm1⟩ : ∃ m u, x = .int m u ∧ 0 < m ∧ m ≤ 40 := by
              simp at hx; rcases hx with rfl | rfl
              · exact ⟨_, _, rfl, by decide, by decide⟩
              · exact ⟨_, _, rfl, by decide, by decide⟩
            clear hx
            repeat' walk_at "s"
            rename_i dd _ o6 _ _ dd0 dd1 ho6 F27 _ _
            exact ⟨_, _, _, _, _, rfl, fun _ _ e => e, ⟨_, o6, r ++ [1 + dd], rfl, rfl, rfl, ho6, ints_snoc iv, by simp [hl], fun e he => by
              rcases List.mem_append.mp he with he | he
              · exact hb e he
              · simp at he; walk_at "o"⟩, F27.sublist (List.Sublist.cons_cons _ (List.sublist_cons_self _ _))⟩
          case fi4 =>
            rintro Kq hKq D4 B₆ led₆ l₆ cs h₁₇ t₁₇ inc6 ⟨ov, o5, r, rfl, rfl, rfl, ho5, iv, hl, hb⟩ hlen F26
            refine hKq _ _ ?_
            clear hKq Kq inc6
            repeat' walk_at "s"
            refine r_tuple_of (by assumption) (Has.m LO.of (.head _)) (by rw [sizeLine_eq]; walk_at "o") fun D5 h18 F27 => ?_
            have F28 := (F27.frz .head).drop
            have tb5 : TB (Badd B₅ D5 (tup cs)) D5 cs := ⟨_, Badd.new, TO.of⟩
            have inc7 : Inc B₅ (Badd B₅ D5 (tup cs)) := Badd.inc
            generalize Badd B₅ D5 (tup cs) = B7 at *
            clear F27 F26
            repeat' walk_at "s"
            refine r_tabset (by assumption) (fun o' => Swap.tail Swap.head) (T.up inc7) hql rfl (by walk_at "o") tb5 iv ⟨hl, small_of40 hb⟩ fun od' h19 _ T' F29 => ?_
            repeat' walk_at "s"
            exact ⟨_, _, _, _, _, rfl, inc7, ⟨qs ++ [r], od', o5, _, T', by simp [hql], ho5, rfl, rfl⟩, by assumption⟩
        case fi3 =>
          rintro Kq hKq B₅ led₅ l₅ h₁₅ t₁₅ inc5 ⟨qs, od, o4, o1', T, hql, ho4, rfl, rfl⟩ F23
          refine hKq _ _ ?_
          clear hKq Kq
          have F24 := F23.drop.frz .head
          have tq : TabsV w (Badd B₅ td od) qs td := (T.up Badd.inc).tabs Badd.new
          obtain ⟨_, _, _, _, _, hq⟩ := id T
          have inc6 : Inc B₄ (Badd B₅ td od) := fun _ _ e => .inl (inc5 _ _ e)
          generalize Badd B₅ td od = B6 at *
          clear F23 T ho4
          replace hf := hf.up inc6
          replace gv := gv.up inc6
          replace lbl := lbl.up inc6
          replace lv := lv.up inc6
          replace lbz := lbz.up inc6
          replace ez := ez.imp fun _ _ e => e.up inc6
          have inc16 : Inc B₂ B6 := fun _ _ e => inc6 _ _ (inc14 _ _ e)
          clear inc6 inc5 inc14
          refine wpAny_execs_cons ?_
          repeat' walk_at "s"
          refine r_itemAny (by assumption) (Has.m LO.of (by walk_at "mem")) (by walk_at "o") (by simp; walk_at "o") (by simp) ?_
          intro x hx
          obtain ⟨wd, uw, rfl, hwd⟩ : ∃ wd u, x = .str wd u ∧ PyData.strOk wd = true := by
            simp at hx; rcases hx with rfl | rfl | rfl | rfl | rfl <;> exact ⟨_, _, rfl, by decide +kernel⟩
          clear hx
          rename_i F25 _ _
          replace F25 := F25.drop
          repeat' walk_at "s"
          refine r_call (used := []) (by assumption) (kept_picture_spec g (Rm.less (R.deeper _) (by decide)) hf okz hz hz' hn hH hW gv tq hql hq al) ?_
          rintro Kq hKq v B7 u7 h₁₈ t₁₈ inc7 ⟨rfl, pic, ppl, pvs, tpr, rfl, ibp, lpl, shv⟩ F26
          refine hKq _ _ ?_
          clear hKq Kq F25
          simp only [List.nil_append] at F26
          replace hf := hf.up inc7
          replace gv := gv.up inc7
          replace lbl := lbl.up inc7
          replace lv := lv.up inc7
          replace lbz := lbz.up inc7
          replace tq := tq.up inc7
          replace ez := ez.imp fun _ _ e => e.up inc7
          have inc17 : Inc B₂ B7 := fun _ _ e => inc7 _ _ (inc16 _ _ e)
          clear inc7 inc16
          have hpl := shv.1
          repeat' walk_at "s"
          have F27 := ‹FS G B7 ((_, tup _) :: (_, tup _) :: _) _ _ _ _›
          rw [hpl, hzvl] at F27
          with_reducible show wpAny _ _ (compareOp _ _ _) _ _ _
          refine r_ne_tup3 (Rm.less (R.deeper _) (by decide) : Rm 4 _) F27 (Has.m TO.of (.tail _ (.head _))) (Has.m TO.of (.head _)) hwd ?_
          replace F27 := F27.drop.drop
          repeat' walk_at "s"
          refine wpAny_For ?_ (by intro _; rfl)
          repeat' walk_at "s"
          have F28 := ‹FS G B7 ((_, rng _ _ _ _ _ _) :: _) _ _ _ _›
          refine for_rng1 (n := z.length) R.hd (F28.drop.only (l' := ([("picture_here", some (.ref pic)), ("tables", some (.ref td)), ("most_wide", some (.int (mostA z) uma)), ("most_high", some (.int (mostD z) umb)), ("sizes", some (.ref sz)), ("frame_here", some (.ref fr)), ("side", some (.int n tn)), ("script", some (.ref sc)), ("pen", some (.ref pn)), ("grid_here", some (.ref gr)), ("lots", some (.ref lt)), ("place_here", _)] : Loc)) (by walk_at "subl")) (F28.mem (.head _)) (by rw [hzvl]) (by walk_at "o") (fun k B₈ led₈ l₈ => Ex1 fun o1 => An2 (led₁ = led₈) (l₈ = ([("picture_here", some (.ref pic)), ("tables", some (.ref td)), ("most_wide", some (.int (mostA z) uma)), ("most_high", some (.int (mostD z) umb)), ("sizes", some (.ref sz)), ("frame_here", some (.ref fr)), ("side", some (.int n tn)), ("script", some (.ref sc)), ("pen", some (.ref pn)), ("grid_here", some (.ref gr)), ("lots", some (.ref lt)), ("place_here", o1)] : Loc))) ⟨_, rfl, rfl⟩ ?st5 ?fi5
          clear F28 F27
          case st5 =>
            rintro k B₈ led₈ l₈ h₂₀ t₂₀ pv6 tk hk inc8 ⟨o1, rfl, rfl⟩ F29
            delta Turn
            replace hf := hf.up inc8
            replace gv := gv.up inc8
            replace lbl := lbl.up inc8
            replace lv := lv.up inc8
            replace lbz := lbz.up inc8
            replace tq := tq.up inc8
            replace ibp := ibp.up inc8
            replace lpl := lpl.up inc8
            replace shv := shv.up inc8
            replace ez := ez.imp fun _ _ e => e.up inc8
            obtain ⟨p, hp⟩ : ∃ p, z[k]? = some p := ⟨_, List.getElem?_eq_getElem hk⟩
            obtain ⟨q, hqk⟩ : ∃ q, qs[k]? = some q := ⟨_, List.getElem?_eq_getElem (by walk_at "o")⟩
            have hqo := hq q (List.mem_of_getElem? hqk)
            have pm := List.mem_of_getElem? hp
            have ps := plane_small (n := n) okz hz pm hH hW
            have okp := okz p pm
            have mA := mostA_or okz hz
            have mD := mostD_or okz hz
            obtain ⟨wN, eW⟩ : ∃ wN : Nat, planeW z W p = wN := ⟨(planeW z W p).toNat, by walk_at "o"⟩
            obtain ⟨hN, eH⟩ : ∃ hN : Nat, planeH z H p = hN := ⟨(planeH z H p).toNat, by walk_at "o"⟩
            obtain ⟨aN, eA, a1, a2, a3⟩ := parts_nat (w := wN) hn (by walk_at "o")
            obtain ⟨dN, eD, d1, d2, d3⟩ := parts_nat (w := hN) hn (by walk_at "o")
            obtain ⟨lk, aN', dN', lk1, lk2, lk3, lk4⟩ := lv.2 k p hk hp
            obtain rfl : aN = aN' := by rw [eW, eA] at lk3; walk_at "o"
            obtain rfl : dN = dN' := by rw [eH, eD] at lk4; walk_at "o"
            have lk1' : lvs[((k : Nat) : Int).toNat]? = some (.ref lk) := by simpa using lk1
            obtain ⟨v', hv', pa, tpa, tpb, rfl, tbp⟩ := ez.2 k p hp
            have hv2 : zvs[((k : Nat) : Int).toNat]? = some (.ref pa) := by simpa using hv'
            have q0 : ([Value.int p.1 tpa, Value.int p.2 tpb] : List VV)[(0 : Int).toNat]? = some (.int p.1 tpa) := rfl
            have q1 : ([Value.int p.1 tpa, Value.int p.2 tpb] : List VV)[(1 : Int).toNat]? = some (.int p.2 tpb) := rfl
            obtain ⟨cc, cv, vk, ft1, ft2, ft3, ft4, ib, _, _⟩ := id hf
            repeat' walk_at "s"
            have F30 := ‹FS G B₈ ((_, tup _) :: _) _ _ _ _›
            rename_i us1 _ _ _ _ _ _ _ _ us2 _ _ _ szt _ _ _ _ _
            rw [show partsI (W * p.1) (mostA z) = wN from eW, show partsI (H * p.2) (mostD z) = hN from eH] at F30
            have F31 := F30.frz .head
            have tsz : TB (Badd B₈ szt (tup [.int (wN : Int) us1, .int (hN : Int) us2])) szt [.int (wN : Int) us1, .int (hN : Int) us2] := ⟨_, Badd.new, TO.of⟩
            have inc9 : Inc B₈ (Badd B₈ szt (tup [.int (wN : Int) us1, .int (hN : Int) us2])) := Badd.inc
            generalize Badd B₈ szt (tup [.int (wN : Int) us1, .int (hN : Int) us2]) = B9 at *
            clear F30
            replace hf := hf.up inc9
            replace gv := gv.up inc9
            replace lbl := lbl.up inc9
            replace lv := lv.up inc9
            replace lbz := lbz.up inc9
            replace tq := tq.up inc9
            replace ibp := ibp.up inc9
            replace lpl := lpl.up inc9
            replace shv := shv.up inc9
            replace lk2 := lk2.up inc9
            replace tbp := tbp.up inc9
            replace ib := ib.up inc9
            obtain ⟨qo, kvs, qb, qi, qa⟩ := id tq
            obtain ⟨qw, qvs, qv, ql, qn⟩ := qa k q hqk
            clear qa
            with_reducible show wpAny _ _ (subscriptTail _ _ _ _) _ _ _
            refine r_iget (kvs := kvs) F31 ⟨qo, qi, .inl qb⟩ qv fun _ => ?_
            repeat' walk_at "s"
            refine r_call (used := []) (by assumption) (law_plane_spec g (Rm.less (R.deeper _) (by decide)) hn lk2 a1 d1 (by walk_at "o") (by walk_at "o") (fun y x => al k y x) ql qn hqo tsz) ?_
            rintro Kq hKq v B10 u10 h21 t21 inc10 ⟨rfl, da, dvs, rfl, ldu, edu⟩ F32
            refine hKq _ _ ?_
            clear hKq Kq
            simp only [List.nil_append] at F32
            replace hf := hf.up inc10
            replace gv := gv.up inc10
            replace lbl := lbl.up inc10
            replace lv := lv.up inc10
            replace lbz := lbz.up inc10
            replace tq := tq.up inc10
            replace ibp := ibp.up inc10
            replace lpl := lpl.up inc10
            replace shv := shv.up inc10
            replace lk2 := lk2.up inc10
            replace tbp := tbp.up inc10
            replace ib := ib.up inc10
            replace tsz := tsz.up inc10
            replace ql := ql.up inc10
            replace qb := inc10 _ _ qb
            repeat' walk_at "s"
            with_reducible show wpAny _ _ (subscriptTail _ _ _ _) _ _ _
            refine r_iget (kvs := kvs) (by assumption) ⟨qo, qi, .inl qb⟩ qv fun _ => ?_
            repeat' walk_at "s"
            refine r_call (used := []) (by assumption) (plane_of_spec g (Rm.less (R.deeper _) (by decide)) hf okz hz hz' hn hH hW gv hp ql qn hqo.1 hqo.2 (fun y x => al k y x) eW eH) ?_
            rintro Kq hKq v B11 u11 h22 t22 inc11 ⟨rfl, tda, rfl, pvt⟩ F33
            refine hKq _ _ ?_
            clear hKq Kq
            simp only [List.nil_append] at F33
            replace hf := hf.up inc11
            replace gv := gv.up inc11
            replace lbl := lbl.up inc11
            replace lv := lv.up inc11
            replace lbz := lbz.up inc11
            replace tq := tq.up inc11
            replace ibp := ibp.up inc11
            replace lpl := lpl.up inc11
            replace shv := shv.up inc11
            replace lk2 := lk2.up inc11
            replace tbp := tbp.up inc11
            replace ib := ib.up inc11
            replace tsz := tsz.up inc11
            replace ql := ql.up inc11
            replace ldu := ldu.up inc11
            replace qb := inc11 _ _ qb
            replace edu := edu.imp fun _ _ e => e.up inc11
            obtain ⟨tr, trv, x1, x2, ibt, ltr, etr, _, _⟩ := id pvt
            repeat' walk_at "s"
            with_reducible show wpAny _ _ (compareOp _ _ _) _ _ _
            refine r_ne_tup (Rm.less (R.deeper _) (by decide) : Rm 4 _) (by assumption) (Has.m TO.of (.head _)) (Has.tb tsz) (.cons _ _ (.cons _ _ .nil)) (.cons _ _ (.cons _ _ .nil)) ?_
            repeat' walk_at "s"
            with_reducible show wpAny _ _ (compareOp _ _ _) _ _ _
            refine r_ne_rows (Rm.less (R.deeper _) (by decide) : Rm 4 _) (by assumption) ltr ldu etr edu ?_
            repeat' walk_at "s"
            rename_i z1 _ z2 _ ka _ F34
            have F35 := (F34.frz .head).drop
            have kb : KeyB (Badd B11 ka (tup [.int 0 z1, .int 0 z2])) (kXY 0 0) ka := ⟨_, ⟨_, Badd.new, TO.of⟩, .cons _ _ (.cons _ _ .nil)⟩
            have inc12 : Inc B11 (Badd B11 ka (tup [.int 0 z1, .int 0 z2])) := Badd.inc
            generalize Badd B11 ka (tup [.int 0 z1, .int 0 z2]) = B12 at *
            clear F34
            replace hf := hf.up inc12
            replace gv := gv.up inc12
            replace lbl := lbl.up inc12
            replace lbz := lbz.up inc12
            replace ibp := ibp.up inc12
            replace lpl := lpl.up inc12
            replace shv := shv.up inc12
            replace lk2 := lk2.up inc12
            replace tbp := tbp.up inc12
            replace ib := ib.up inc12
            replace ql := ql.up inc12
            replace ldu := ldu.up inc12
            replace qb := inc12 _ _ qb
            replace edu := edu.imp fun _ _ e => e.up inc12
            obtain ⟨xs, ⟨dob, db1, db2⟩, lkp, lkeys, lo⟩ := id lk2
            have ha0 : 0 < aN := Nat.lt_of_le_of_lt (Nat.zero_le _) (a1 0 (by walk_at "o"))
            have hd0 : 0 < dN := Nat.lt_of_le_of_lt (Nat.zero_le _) (d1 0 (by walk_at "o"))
            obtain ⟨pr0, pk0, rv0⟩ := lkp 0 0 ha0 hd0
            refine r_dget (xs := xs) (Rm.less (R.deeper _) (by decide) : Rm 1 _) F35 ⟨dob, db2, .inl db1⟩ kb pk0 fun _ => ?_
            clear kb lkp pk0
            repeat' walk_at "s"
            with_reducible show wpAny _ _ (subscriptTail _ _ _ _) _ _ _
            refine r_iget (kvs := kvs) (by assumption) ⟨qo, qi, .inl qb⟩ qv fun _ => ?_
            repeat' walk_at "s"
            refine r_call (used := []) (by assumption) (sample_block_spec g (Rm.less (R.deeper _) (by decide)) rv0 ql qn hn (al k 0 0) hqo.1 hqo.2) ?_
            rintro Kq hKq va B13 u13 h23 t23 inc13 ⟨rfl, rvA⟩ F36
            refine hKq _ _ ?_
            clear hKq Kq
            simp only [List.nil_append] at F36
            replace hf := hf.up inc13
            replace gv := gv.up inc13
            replace lbl := lbl.up inc13
            replace lbz := lbz.up inc13
            replace ibp := ibp.up inc13
            replace lpl := lpl.up inc13
            replace shv := shv.up inc13
            replace lk2 := lk2.up inc13
            replace tbp := tbp.up inc13
            replace ib := ib.up inc13
            replace ql := ql.up inc13
            replace ldu := ldu.up inc13
            replace rv0 := rv0.up inc13
            replace qb := inc13 _ _ qb
            replace edu := edu.imp fun _ _ e => e.up inc13
            repeat' walk_at "s"
            with_reducible show wpAny _ _ (subscriptTail _ _ _ _) _ _ _
            refine r_iget (kvs := kvs) (by assumption) ⟨qo, qi, .inl qb⟩ qv fun _ => ?_
            repeat' walk_at "s"
            refine r_call (used := []) (by assumption) (law_block_spec g (Rm.less (R.deeper _) (by decide)) rv0 ql qn hn (al k 0 0) hqo.1 hqo.2) ?_
            rintro Kq hKq vb B14 u14 h24 t24 inc14 ⟨rfl, rvB⟩ F37
            refine hKq _ _ ?_
            clear hKq Kq
            simp only [List.nil_append] at F37
            replace hf := hf.up inc14
            replace gv := gv.up inc14
            replace lbl := lbl.up inc14
            replace lbz := lbz.up inc14
            replace ibp := ibp.up inc14
            replace lpl := lpl.up inc14
            replace shv := shv.up inc14
            replace lk2 := lk2.up inc14
            replace tbp := tbp.up inc14
            replace ib := ib.up inc14
            replace ql := ql.up inc14
            replace ldu := ldu.up inc14
            replace rvA := rvA.up inc14
            replace qb := inc14 _ _ qb
            replace edu := edu.imp fun _ _ e => e.up inc14
            obtain ⟨sa, sg, pvS⟩ := shv.2 k p q hk hp hqk
            have sg' : pvs[((k : Nat) : Int).toNat]? = some (.ref sa) := by simpa using sg
            obtain ⟨sr, srv, y1, y2, ibs, lsr, esr, sdl, sdw⟩ := id pvS
            repeat' walk_at "s"
            with_reducible show wpAny _ _ (compareOp _ _ _) _ _ _
            refine r_ne_row (Rm.less (R.deeper _) (by decide) : Rm 4 _) (by assumption) rvA rvB ?_
            repeat' walk_at "s"
            refine wpAny_For ?_ (by intro _; rfl)
            repeat' walk_at "s"
            have F38 := ‹FS G B14 ((_, rng _ _ _ _ _ _) :: _) _ _ _ _›
            refine for_rng1 (n := H.toNat) R.hd (F38.drop.only (l' := ([("shown_one", some (.ref sa)), ("due", some (.ref da)), ("picture_here", some (.ref pic)), ("tables", some (.ref td)), ("most_wide", some (.int (mostA z) uma)), ("most_high", some (.int (mostD z) umb)), ("sizes", some (.ref sz)), ("frame_here", some (.ref fr)), ("side", some (.int n tn)), ("script", some (.ref sc)), ("pen", some (.ref pn)), ("grid_here", some (.ref gr)), ("lots", some (.ref lt)), ("place_here", some (.int k tk))] : Loc)) (by walk_at "subl")) (F38.mem (.head _)) (by walk_at "o") (by walk_at "o") (fun iy B₉ led₉ l₉ => An3 (B14 = B₉) (led₁ = led₉) (l₉ = ([("shown_one", some (.ref sa)), ("due", some (.ref da)), ("picture_here", some (.ref pic)), ("tables", some (.ref td)), ("most_wide", some (.int (mostA z) uma)), ("most_high", some (.int (mostD z) umb)), ("sizes", some (.ref sz)), ("frame_here", some (.ref fr)), ("side", some (.int n tn)), ("script", some (.ref sc)), ("pen", some (.ref pn)), ("grid_here", some (.ref gr)), ("lots", some (.ref lt)), ("place_here", some (.int k tk))] : Loc))) ⟨rfl, rfl, rfl⟩ ?st6 ?fi6
            clear F38 F37 F36 F35
            case st6 =>
              rintro iy B₉ led₉ l₉ h25 t25 pv7 tyy hy inc ⟨rfl, rfl, rfl⟩ F39
              delta Turn
              clear inc
              repeat' walk_at "s"
              refine wpAny_For ?_ (by intro _; rfl)
              repeat' walk_at "s"
              have F40 := ‹FS G B14 ((_, rng _ _ _ _ _ _) :: _) _ _ _ _›
              refine for_rng1 (n := W.toNat) R.hd F40.drop (F40.mem (.head _)) (by walk_at "o") (by walk_at "o") (fun jx B₉ led₉ l₉ => An3 (B14 = B₉) (led₁ = led₉) (l₉ = ([("y", some (.int iy tyy)), ("shown_one", some (.ref sa)), ("due", some (.ref da)), ("picture_here", some (.ref pic)), ("tables", some (.ref td)), ("most_wide", some (.int (mostA z) uma)), ("most_high", some (.int (mostD z) umb)), ("sizes", some (.ref sz)), ("frame_here", some (.ref fr)), ("side", some (.int n tn)), ("script", some (.ref sc)), ("pen", some (.ref pn)), ("grid_here", some (.ref gr)), ("lots", some (.ref lt)), ("place_here", some (.int k tk))] : Loc))) ⟨rfl, rfl, rfl⟩ ?st7 ?fi7
              clear F40
              case st7 =>
                rintro jx B₉ led₉ l₉ h26 t26 pv8 txx hx inc ⟨rfl, rfl, rfl⟩ F41
                delta Turn
                clear inc
                obtain ⟨x', y', e1, e2, l1, l2, epix⟩ := shown_pix (n := n) (c := c) (k := k) (q := q) okz pm hH hW (x := jx) (y := iy) (by walk_at "o") (by walk_at "o")
                have edz : dueZ n c z H W k p q = dueR n (c k) q wN hN := by unfold dueZ; rw [eW, eH]; rfl
                rw [edz] at epix
                rw [eW] at l1
                rw [eH] at l2
                have hyl : iy < (shownZ n c z H W k p q).length := by walk_at "o"
                obtain ⟨sv, se, sra, svs2, rfl, lsv, isv⟩ := esr.2 iy _ (List.getElem?_eq_getElem hyl)
                have hxl : jx < ((shownZ n c z H W k p q)[iy]).length := by have := sdw _ (List.getElem_mem hyl); walk_at "o"
                obtain ⟨su, sx⟩ := ints_at isv jx hxl
                have hdl : y' < (dueR n (c k) q wN hN).length := by rw [dim_due.1]; walk_at "o"
                obtain ⟨dv, de, dra, dvs2, rfl, ldv, idv⟩ := edu.2 y' _ (List.getElem?_eq_getElem hdl)
                have hdx : x' < ((dueR n (c k) q wN hN)[y']).length := by rw [dim_due.2 _ (List.getElem_mem hdl)]; walk_at "o"
                obtain ⟨du, dx⟩ := ints_at idv x' hdx
                have heq : ((shownZ n c z H W k p q)[iy]).getD jx 0 = ((dueR n (c k) q wN hN)[y']).getD x' 0 := (pixN_get hyl).symm.trans (epix.trans (pixN_get hdl))
                have se' : srv[((iy : Nat) : Int).toNat]? = some (.ref sra) := by simpa using se
                have de' : dvs[((y' : Nat) : Int).toNat]? = some (.ref dra) := by simpa using de
                generalize ((shownZ n c z H W k p q)[iy]).getD jx 0 = pa1 at *
                generalize ((dueR n (c k) q wN hN)[y']).getD x' 0 = pa2 at *
                have sx' : svs2[((jx : Nat) : Int).toNat]? = some (.int pa1 su) := by simpa using sx
                have dx' : dvs2[((x' : Nat) : Int).toNat]? = some (.int pa2 du) := by simpa using dx
                clear epix isv idv se de sx dx
                repeat' walk_at "s"
                refine' Assign_Tuple_swapped (names := _) ?_ ?hs2 ?hw2
                case hs2 => with_unfolding_all rfl
                case hw2 => with_unfolding_all rfl
                repeat' walk_at "s"
                have F42 := ‹FS G B14 ((_, tup _) :: _) _ _ _ _›
                rw [e1, e2] at F42
                refine r_unpackT R.hd F42 (Has.m TO.of (.head _)) rfl fun h27 F43 => ?_
                replace F43 := F43.drop
                clear F42
                refine assignInOrder_cons (bindName_ ?_)
                repeat' walk_at "s"
                refine assignInOrder_cons (bindName_ ?_)
                repeat' walk_at "s"
                refine assignInOrder_nil ?_
                repeat' walk_at "s"
                · exact absurd heq (by assumption)
                · exact ⟨_, _, _, _, _, rfl, fun _ _ e => e, ⟨rfl, rfl, rfl⟩, FS.only (by assumption) (by walk_at "subl")⟩
              case fi7 =>
                rintro Kq hKq B₉ led₉ l₉ h26 t26 inc ⟨rfl, rfl, rfl⟩ F41
                refine hKq _ _ ?_
                clear hKq Kq inc
                repeat' walk_at "s"
                exact ⟨_, _, _, _, _, rfl, fun _ _ e => e, ⟨rfl, rfl, rfl⟩, FS.only (by assumption) (by walk_at "subl")⟩
            case fi6 =>
              rintro Kq hKq B₉ led₉ l₉ h25 t25 inc ⟨rfl, rfl, rfl⟩ F39
              refine hKq _ _ ?_
              clear hKq Kq inc
              refine wpAny_execs_cons ?_
              repeat' walk_at "s"
              with_reducible show wpAny _ _ (compareOp _ _ _) _ _ _
              refine r_ne_tup (Rm.less (R.deeper _) (by decide) : Rm 4 _) (by assumption) (Has.m TO.of (.tail _ (.head _))) (Has.m TO.of (.head _)) (.cons _ _ (.cons _ _ .nil)) (.cons _ _ (.cons _ _ .nil)) ?_
              have F44 := (‹FS G B14 ((_, tup _) :: (_, tup _) :: _) _ _ _ _›).drop.drop
              repeat' walk_at "s"
              refine' r_ListCompF (cl := _) ?cl6 (by rfl) (by decide +kernel) ?_ (by intro _; rfl)
              case cl6 => with_unfolding_all rfl
              repeat' walk_at "s"
              obtain ⟨xs2, db6, lkp6, lkeys6, lo6⟩ := id lk2
              obtain ⟨pf1, pf2⟩ := parts_fit okz pm (int12 hn) hH hW
              rw [eW, eA] at pf1
              rw [eH, eD] at pf2
              refine r_iter_dict R.hd (by assumption) db6 lo6 fun I6 oI6 h28 T6 F46 => ?_
              refine r_compF T6 F46 ?hk6 ?hc6 [("spot", none), ("grid_here", some (.ref gr)), ("place_here", some (.int k tk)), ("lots", some (.ref lt))] ?hlc6 ?hnd6
                (fun j B₉ led₉ l₉ => Ex1 fun ov => An2 (led₁ = led₉) (l₉ = ([("spot", ov), ("grid_here", some (.ref gr)), ("place_here", some (.int k tk)), ("lots", some (.ref lt))] : Loc))) ⟨none, rfl, rfl⟩ ?st8 ?fi8
              clear F46 F44 F39
              case hk6 => rfl
              case hc6 => decide +kernel
              case hlc6 => walk_at "lc"
              case hnd6 => simp; decide
              case st8 =>
                rintro C j B₉ led₉ l₉ h29 t29 pv9 v hj inc ⟨ov, rfl, rfl⟩ ⟨x, hx, rfl⟩ F47
                delta TurnF
                replace gv := gv.up inc
                replace lbl := lbl.up inc
                obtain ⟨dob6, w1, w2⟩ := db6.up inc
                obtain ⟨X, Y, hX, hY, ek⟩ := lkeys6 x (List.mem_of_getElem? hx)
                obtain ⟨pr, pk, rvk⟩ := lkp6 X Y hX hY
                replace rvk := rvk.up inc
                have kb : KeyB B₉ x.1 x.2.1 := by obtain ⟨_, _, _, _, _, d4, _⟩ := id w2; exact d4 x (List.mem_of_getElem? hx)
                rw [ek] at kb
                obtain ⟨kv, tbx, ivx⟩ := id kb
                obtain ⟨tX, tY, rfl⟩ := ints2 ivx
                have p0 : ([Value.int (X : Int) tX, Value.int (Y : Int) tY] : List VV)[(0 : Int).toNat]? = some (.int (X : Int) tX) := rfl
                have p1 : ([Value.int (X : Int) tX, Value.int (Y : Int) tY] : List VV)[(1 : Int).toNat]? = some (.int (Y : Int) tY) := rfl
                obtain ⟨plg, pvg, tmg, ibg, _, _⟩ := id gv
                repeat' walk_at "s"
                refine r_call (used := []) (by assumption) (get_spec g (Rm.less (R.deeper _) (by decide)) gv hn (gdims_at hp) (X := X) (Y := Y) (by walk_at "o") (by walk_at "o") (by walk_at "o")) ?_
                rintro Kq hKq vg B15 u15 h30 t30 inc15 ⟨rfl, rvg⟩ F48
                refine hKq _ _ ?_
                clear hKq Kq
                simp only [List.nil_append] at F48
                replace lbl := lbl.up inc15
                repeat' walk_at "s"
                refine r_dget (xs := xs2) (Rm.less (R.deeper _) (by decide) : Rm 1 _) (by assumption) ⟨dob6, w2.up inc15, .inl (inc15 _ _ w1)⟩ (kb.up inc15) pk fun _ => ?_
                repeat' walk_at "s"
                with_reducible show wpAny _ _ (compareOp _ _ _) _ _ _
                refine r_ne_row (Rm.less (R.deeper _) (by decide) : Rm 4 _) (by assumption) rvg (rvk.up inc15) ?_
                repeat' walk_at "s"
                exact ⟨rfl, _, _, _, _, _, rfl, inc15, ⟨_, rfl, rfl⟩, by assumption⟩
              case fi8 =>
                rintro Kq hKq D6 B₉ led₉ l₉ h29 t29 inc ⟨ov, rfl, rfl⟩ F47
                refine hKq _ _ ?_
                clear hKq Kq
                repeat' walk_at "s"
                with_reducible show wpAny _ _ (compareOp _ _ _) _ _ _
                refine r_ne_nil (Rm.less (R.deeper _) (by decide) : Rm 4 _) (by assumption) (Has.m LO.of (.tail _ (.head _))) (Has.m LO.of (.head _)) ?_
                have F49 := (‹FS G B₉ ((_, lst []) :: (_, lst []) :: _) _ _ _ _›).drop.drop
                repeat' walk_at "s"
                exact ⟨_, _, _, _, _, rfl, fun _ _ e => inc _ _ (inc14 _ _ (inc13 _ _ (inc12 _ _ (inc11 _ _ (inc10 _ _ (inc9 _ _ e)))))), ⟨_, rfl, rfl⟩, FS.only (by assumption) (by walk_at "subl")⟩
          case fi5 =>
            rintro Kq hKq B₈ led₈ l₈ h₂₀ t₂₀ inc8 ⟨o1, rfl, rfl⟩ F29
            refine hKq _ _ ?_
            clear hKq Kq
            repeat' walk_at "s"
            exact ⟨_, _, _, _, _, rfl, fun _ _ e => inc8 _ _ (inc17 _ _ e), ⟨_, _, _, _, rfl, rfl⟩, FS.only (by assumption) (by walk_at "subl")⟩
  case fin =>
    rintro Kq hKq B₄ led₄ l₄ h₇ t₇ inc4 ⟨f0, f1, f2, f3, rfl, rfl⟩ F10
    refine hKq _ _ ?_
    clear hKq Kq
    refine wpAny_execs_cons ?_
    repeat' walk_at "s"
    exact ⟨_, _, [], _, _, rfl, rfl, inc4, F10.pub, rfl, rfl⟩
end
-- part LJn
theorem glb_law {P : Params} : nsIn (Kf pw P) mainGlobals "law" = some (some (.ref 819)) := by kernel_rfl
theorem rm_caller : Rm 40 callerA := ⟨rfl, by decide +kernel, by decide +kernel⟩
theorem law_walk {w : World} {s₁ : Shared} {mg mb : SS → Option VV} (Y : (Kf pw w.params).In s₁.heap) (T1 : s₁.heap.Ns mainGlobals mg) (T2 : s₁.heap.Ns builtinsNs mb) (T3 : s₁.heap.NoLimit) (T4 : ∀ x : SS, x ≠ "__name__" → mb x = bootBuiltins x)
    {fa : Addr} (hmg : mg "law" = some (.ref fa)) {sc : Addr} {svs : List VV} {ns : List Int} (hl : s₁.heap.IsList sc svs.toArray) (hi : IntsAre svs ns) (hn : ns.length ≤ 63) {Q : VV → Shared → Prop} {E : VV → Shared → Prop}
    (q : ∀ h' t', (∀ b o, s₁.heap.get? b = some o → h'.get? b = some o) → Q (.bool true) (at_ s₁ h' t')) : wpAny (model pw w) callerA (call (.ref fa) [.ref sc]) Q E s₁ := by
  have e := mg_of Y T1 glb_law
  obtain rfl : fa = 819 := by rw [hmg] at e; cases e; rfl
  have gr : Gr w s₁.heap := ⟨Y, mg, mb, T1, T2, T3, T4⟩
  obtain ⟨o, e1, c, n, d⟩ := hl
  have H : HS s₁.heap (fun a o => s₁.heap.get? a = some o) ([] ++ []) s₁.heap := ⟨fun _ _ h => h, fun _ _ h => h, fun _ h => (nomatch h), List.nodup_nil, fun _ h => (nomatch h)⟩
  refine wpAny_call (codeAny_mono (law_spec gr rm_caller (sc := sc) (svs := svs) ⟨o, e1, c, n, d⟩ hi hn s₁ s₁.heap s₁.toks [] H) fun r s' qq => ?_)
  obtain ⟨v, B', u', h', t', rfl, rfl, inc, H', rfl, rfl⟩ := qq
  exact q h' t' fun b o hb => H'.base _ _ (inc _ _ hb)
end Mine
end
noncomputable section
namespace Mine
-- part LEnd
set_option maxRecDepth 100000 in
set_option maxHeartbeats 8000000 in
theorem fin : PySem.Challenge.rw_ok0152_01.Holds := by
  refine holds_law (wsB wsA) fun k1 => ?_
  refine holds_open (r := PySem.Challenge.rw_ok0152_01.row) (q := vw pw) (loose := lsn) (Xt := fun _ => true) (XP := fun _ _ => True) (YP := fun w h => (Kf pw w.params).In h) (N := 14000) left ?hY ?hYk (fun _ _ => trivial) (fun _ _ _ _ _ => trivial) (by rfl) (by rfl) (by rfl) (fun s _ => recFacts_of (by rfl)) (by rfl) k1 (by decide +kernel) ⟨rfl, rfl, rfl, rfl, rfl, by decide +kernel⟩ ?hw ?hc
  case hY => exact fun w s e => Frag.in_of (as := Kas) rfl e
  case hYk => exact fun w h h' x k => x.keeps k
  case hw => w_witness2
  case hc =>
    intro w s₀ s₁ mg mb G Y fa o pm cd doc dV kV ho hd hcd hD hmg hg args vals as hpre hlay hrd hwl hlo
    have hmg' : mg "law" = some (.ref fa) := hmg
    clear hmg hD hcd hd ho
    wrow_args hpre hlay hrd hwl hlo
    refine law_walk Y G.T.g G.T.b G.T.nolimit G.T.builtins hmg' (by assumption) (by assumption) (by omega) fun h' t' kp => ?_
    refine GoodW.toG ⟨.inl ⟨.bool true, _, [], rfl, raisesW_false ?hn, .bool _, ?hp, fun _ => ⟨List.nodup_nil, fun _ h => nomatch h⟩⟩, kp, rfl, hg⟩
    case hn => wrow_none_raised
    case hp => wrow_post
end Mine
end

theorem PySem.Challenge.cw_ok0152_01_holds : PySem.Challenge.rw_ok0152_01.Holds :=
  Mine.fin
